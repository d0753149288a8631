import PyProof.Rows.All
import Wide.All
import OpenK.AllK
import Wide.FinOn
import HandS.ForMost
import HandS.ForExc
import HandS.ExcInit
import HandS.ExcField
import HandS.IsInst
import HandS.Flow
import HandS.Deep
import HandS.TupAny
import HandS.Evl
import HandS.Walk
import HandS.BoundDict
import HandS.DictComp
import KE.GoesMore
import PyProof.DictUpdate
import KE.DataMinMax
import HandS.Zip
import HandS.Strs
import HandS.More
import HandS.TupMul
import HandS.Style
import PyProof.EqAt
import KE.SortData
import KE.KDictWalk
import KE.KDictSum
import PyProof.DictMoreH
import HandS.OwnEq
import PyProof.EqKinds
import HandS.TupLe
import KE.KxIndex
import PySem.Challenge.RW_openlines_k02_bodies_known
section
set_option Elab.async false
set_option linter.all false
set_option maxRecDepth 100000
namespace D
open PySem L2
structure TEc (X : Cx) (e : Expr) (σ : L2.St) (H : Hp) (Q : VK) : Prop where
  run : ∀ pins s, Inv X pins σ H s → wpAny (model X.prog X.w) X.A (eval e X.env) (EP X pins σ Q) X.xe s
def tE (X : Cx) (e : Expr) : TE := fun σ H Q => TEc X e σ H Q
theorem pE {X : Cx} {e : Expr} : PE X e (tE X e) := ⟨fun pins s _ _ _ I h => TEc.run h pins s I⟩
theorem tE_of {X : Cx} {e : Expr} {t : TE} (h : PE X e t) {σ : L2.St} {H : Hp} {Q : VK} (q : t σ H Q) : tE X e σ H Q := ⟨fun pins s I => h.run pins s σ H Q I q⟩
structure TTc (X : Cx) (e : Expr) (σ : L2.St) (H : Hp) (Q : Bool → Hp → Prop) : Prop where
  run : ∀ pins s, Inv X pins σ H s → wpAny (model X.prog X.w) X.A (PySem.isTrue e X.env (eval e X.env)) (TP X pins σ Q) X.xe s
def tT (X : Cx) (e : Expr) : TT := fun σ H Q => TTc X e σ H Q
theorem pT {X : Cx} {e : Expr} : PT X e (tT X e) := ⟨fun pins s _ _ _ I h => TTc.run h pins s I⟩
theorem tT_of {X : Cx} {e : Expr} {t : TT} (h : PT X e t) {σ : L2.St} {H : Hp} {Q : Bool → Hp → Prop} (q : t σ H Q) : tT X e σ H Q := ⟨fun pins s I => h.run pins s σ H Q I q⟩
structure TAc (X : Cx) (es : List Expr) (σ : L2.St) (H : Hp) (Q : List V → Hp → Prop) : Prop where
  run : ∀ pos pins s, Inv X pins σ H s → wpAny (model X.prog X.w) X.A (spliced (backTo pos (starEach es X.env))) (AP X pins σ Q) X.xe s
def tAs (X : Cx) (es : List Expr) : TA := fun σ H Q => TAc X es σ H Q
theorem pAs {X : Cx} {es : List Expr} : PA X es (tAs X es) := ⟨fun pos pins s _ _ _ I h => TAc.run h pos pins s I⟩
theorem tAs_of {X : Cx} {es : List Expr} {t : TA} (h : PA X es t) {σ : L2.St} {H : Hp} {Q : List V → Hp → Prop} (q : t σ H Q) : tAs X es σ H Q := ⟨fun pos pins s I => h.run pos pins s σ H Q I q⟩
structure TSc (X : Cx) (st : Stmt) (D : Ends) (σ : L2.St) (H : Hp) : Prop where
  run : ∀ pins s, Inv X pins σ H s → wpAny (model X.prog X.w) X.A (exec st X.env) (SP X pins D) X.xe s
def tSt (X : Cx) (st : Stmt) : TS := fun D σ H => TSc X st D σ H
theorem pSt {X : Cx} {st : Stmt} : PS X st (tSt X st) := ⟨fun pins s _ _ _ I h => TSc.run h pins s I⟩
theorem tSt_of {X : Cx} {st : Stmt} {t : TS} (h : PS X st t) {D : Ends} {σ : L2.St} {H : Hp} (q : t D σ H) : tSt X st D σ H := ⟨fun pins s I => h.run pins s σ H D I q⟩
structure TSsc (X : Cx) (st : List Stmt) (D : Ends) (σ : L2.St) (H : Hp) : Prop where
  run : ∀ pins s, Inv X pins σ H s → wpAny (model X.prog X.w) X.A (execs st X.env) (SP X pins D) X.xe s
def tSts (X : Cx) (st : List Stmt) : TS := fun D σ H => TSsc X st D σ H
theorem pSts {X : Cx} {st : List Stmt} : PSs X st (tSts X st) := ⟨fun pins s _ _ _ I h => TSsc.run h pins s I⟩
theorem tSts_of {X : Cx} {st : List Stmt} {t : TS} (h : PSs X st t) {D : Ends} {σ : L2.St} {H : Hp} (q : t D σ H) : tSts X st D σ H := ⟨fun pins s I => h.run pins s σ H D I q⟩
def Ex (H H' : Hp) : Prop := ∀ a o, H a = some o → H' a = some o
theorem Ex.refl (H : Hp) : Ex H H := fun _ _ h => h
theorem Ex.trans {H H1 H2 : Hp} (a : Ex H H1) (b : Ex H1 H2) : Ex H H2 := fun x o h => b x o (a x o h)
def mask (M : List Addr) (H : Hp) : Hp := fun a => if a ∈ M then none else H a
theorem mask_in {M : List Addr} {H : Hp} {a : Addr} (h : a ∈ M) : mask M H a = none := if_pos h
theorem mask_out {M : List Addr} {H : Hp} {a : Addr} (h : a ∉ M) : mask M H a = H a := if_neg h
theorem of_mask {M : List Addr} {H : Hp} {a : Addr} {o : HO} (h : mask M H a = some o) : a ∉ M ∧ H a = some o := by
  by_cases q : a ∈ M
  · rw [mask_in q] at h; cases h
  · rw [mask_out q] at h; exact ⟨q, h⟩
theorem mask_ex (M : List Addr) (H : Hp) : Ex (mask M H) H := fun a o h => (of_mask h).2
theorem mask_nil (H : Hp) : mask [] H = H := by
  funext a; exact mask_out (by simp)
inductive Dt where
  | non | bl (b : Bool) | int (i : Int) | str (s : Str) | lst (l : List Dt) | tup (l : List Dt) | par (l : List Dt) | dct (l : List (Key × Dt)) | dcu (l : List (List Key × Dt)) | fzl (l : List Dt) | exc (a dd : Addr) (fs : List (Str × Dt)) | obj (C : Addr) | raw (v : V)
/-- a tuple without a dict of its own -/
def SqF (K : PySem.W.Frag) (H : Hp) (a : Addr) (xs : List V) : Prop := (∃ o : Obj, H a = some (.frz o (.tup xs)) ∧ o.dict = none) ∨ (SqT K (fun _ => none) a xs ∧ ∃ o : Obj, K.lookup a = some o ∧ o.cls = .type "tuple" ∧ o.dict = none)
theorem SqF.t {K : PySem.W.Frag} {H : Hp} {a : Addr} {xs : List V} (h : SqF K H a xs) : SqT K H a xs := by
  rcases h with ⟨o, h, _⟩ | ⟨h, _⟩
  · exact .inl (.inr ⟨o, h⟩)
  · rcases h with h | h
    · rcases h with h | ⟨o, h⟩ <;> cases h
    · exact .inr h
theorem SqF.mono {K : PySem.W.Frag} {H H' : Hp} {a : Addr} {xs : List V} (h : SqF K H a xs) (e : Ex H H') : SqF K H' a xs := by
  rcases h with ⟨o, h, d⟩ | h
  · exact .inl ⟨o, e _ _ h, d⟩
  · exact .inr h
mutual
inductive DV (K : PySem.W.Frag) (H : Hp) : V → Dt → Prop
  | non : DV K H .non .non
  | bl (b : Bool) : DV K H (.bl b) (.bl b)
  | int (i : Int) : DV K H (.int i) (.int i)
  | str (s : Str) : DV K H (.str s) (.str s)
  | lst {a : Addr} {xs : List V} {l : List Dt} : H a = some (.lst xs) → DVs K H xs l → DV K H (.ref a) (.lst l)
  | tup {a : Addr} {xs : List V} {l : List Dt} : SqF K H a xs → DVs K H xs l → DV K H (.ref a) (.tup l)
  | par {a : Addr} {xs : List V} {l : List Dt} : H a = some (.tup xs) → DVs K H xs l → DV K H (.ref a) (.par l)
  | dct {a : Addr} {o : Obj} {xs : List (Key × V)} {l : List (Key × Dt)} : H a = some (.frz o (.dK xs)) → DVk K H xs l → DV K H (.ref a) (.dct l)
  | dcu {a : Addr} {o : Obj} {xs : List (List Key × V)} {l : List (List Key × Dt)} : H a = some (.frz o (.dT xs)) → DVu K H xs l → DV K H (.ref a) (.dcu l)
  | fzl {a : Addr} {xs : List V} {l : List Dt} : SqL K H a xs → DVs K H xs l → DV K H (.ref a) (.fzl l)
  | exc {a dd : Addr} {xs : List (Str × V)} {l : List (Str × Dt)} : H dd = some (.xd xs) → DVx K H xs l → DV K H (.ref a) (.exc a dd l)
  | obj {a C dx : Addr} {fs : List (Str × V)} : H a = some (.ins C dx fs) → DV K H (.ref a) (.obj C)
  | raw (v : V) : DV K H v (.raw v)
inductive DVs (K : PySem.W.Frag) (H : Hp) : List V → List Dt → Prop
  | nil : DVs K H [] []
  | cons {v : V} {vs : List V} {d : Dt} {ds : List Dt} : DV K H v d → DVs K H vs ds → DVs K H (v :: vs) (d :: ds)
inductive DVk (K : PySem.W.Frag) (H : Hp) : List (Key × V) → List (Key × Dt) → Prop
  | nil : DVk K H [] []
  | cons {k : Key} {v : V} {vs : List (Key × V)} {d : Dt} {ds : List (Key × Dt)} : DV K H v d → DVk K H vs ds → DVk K H ((k, v) :: vs) ((k, d) :: ds)
inductive DVu (K : PySem.W.Frag) (H : Hp) : List (List Key × V) → List (List Key × Dt) → Prop
  | nil : DVu K H [] []
  | cons {k : List Key} {v : V} {vs : List (List Key × V)} {d : Dt} {ds : List (List Key × Dt)} : DV K H v d → DVu K H vs ds → DVu K H ((k, v) :: vs) ((k, d) :: ds)
inductive DVx (K : PySem.W.Frag) (H : Hp) : List (Str × V) → List (Str × Dt) → Prop
  | nil : DVx K H [] []
  | cons {k : Str} {v : V} {vs : List (Str × V)} {d : Dt} {ds : List (Str × Dt)} : DV K H v d → DVx K H vs ds → DVx K H ((k, v) :: vs) ((k, d) :: ds)
end
theorem ex_rd {H H' : Hp} {a : Addr} {u : HO} (e : Ex H H') (h : Rd H a u) : Rd H' a u := by
  rcases h with h | ⟨o, h⟩
  · exact Or.inl (e a _ h)
  · exact Or.inr ⟨o, e a _ h⟩
theorem ex_t {K : PySem.W.Frag} {H H' : Hp} {a : Addr} {xs : List V} (e : Ex H H') (h : SqT K H a xs) : SqT K H' a xs := by
  rcases h with h | h
  · exact Or.inl (ex_rd e h)
  · exact Or.inr h
theorem ex_l {K : PySem.W.Frag} {H H' : Hp} {a : Addr} {xs : List V} (e : Ex H H') (h : SqL K H a xs) : SqL K H' a xs := by
  rcases h with h | h
  · exact Or.inl (ex_rd e h)
  · exact Or.inr h
mutual
theorem DV.mono {K : PySem.W.Frag} {H H' : Hp} (e : Ex H H') : ∀ {v : V} {d : Dt}, DV K H v d → DV K H' v d
  | _, _, .non => .non
  | _, _, .bl b => .bl b
  | _, _, .int b => .int b
  | _, _, .str b => .str b
  | _, _, .lst h t => .lst (e _ _ h) (DVs.mono e t)
  | _, _, .tup h t => .tup (h.mono e) (DVs.mono e t)
  | _, _, .par h t => .par (e _ _ h) (DVs.mono e t)
  | _, _, .dct h t => .dct (e _ _ h) (DVk.mono e t)
  | _, _, .dcu h t => .dcu (e _ _ h) (DVu.mono e t)
  | _, _, .fzl h t => .fzl (ex_l e h) (DVs.mono e t)
  | _, _, .exc h t => .exc (e _ _ h) (DVx.mono e t)
  | _, _, .obj h => .obj (e _ _ h)
  | _, _, .raw v => .raw v
theorem DVs.mono {K : PySem.W.Frag} {H H' : Hp} (e : Ex H H') : ∀ {v : List V} {d : List Dt}, DVs K H v d → DVs K H' v d
  | _, _, .nil => .nil
  | _, _, .cons h t => .cons (DV.mono e h) (DVs.mono e t)
theorem DVk.mono {K : PySem.W.Frag} {H H' : Hp} (e : Ex H H') : ∀ {v : List (Key × V)} {d : List (Key × Dt)}, DVk K H v d → DVk K H' v d
  | _, _, .nil => .nil
  | _, _, .cons h t => .cons (DV.mono e h) (DVk.mono e t)
theorem DVu.mono {K : PySem.W.Frag} {H H' : Hp} (e : Ex H H') : ∀ {v : List (List Key × V)} {d : List (List Key × Dt)}, DVu K H v d → DVu K H' v d
  | _, _, .nil => .nil
  | _, _, .cons h t => .cons (DV.mono e h) (DVu.mono e t)
theorem DVx.mono {K : PySem.W.Frag} {H H' : Hp} (e : Ex H H') : ∀ {v : List (Str × V)} {d : List (Str × Dt)}, DVx K H v d → DVx K H' v d
  | _, _, .nil => .nil
  | _, _, .cons h t => .cons (DV.mono e h) (DVx.mono e t)
end
theorem DVx.get {K : PySem.W.Frag} {H : Hp} {x : Str} {d : Dt} : ∀ {v : List (Str × V)} {l : List (Str × Dt)}, DVx K H v l → l.lookup x = some d → ∃ u, v.lookup x = some u ∧ DV K H u d
  | _, _, .nil, h => by cases h
  | _, _, .cons (k := k) h t, e => by
    rw [List.lookup_cons] at e ⊢
    cases q : x == k with
    | true => rw [q] at e; cases e; exact ⟨_, rfl, h⟩
    | false => rw [q] at e; exact DVx.get t e
theorem DVs.length {K : PySem.W.Frag} {H : Hp} : ∀ {v : List V} {d : List Dt}, DVs K H v d → v.length = d.length
  | _, _, .nil => rfl
  | _, _, .cons _ t => congrArg (· + 1) (DVs.length t)
theorem DVs.append {K : PySem.W.Frag} {H : Hp} : ∀ {v w : List V} {d f : List Dt}, DVs K H v d → DVs K H w f → DVs K H (v ++ w) (d ++ f)
  | _, _, _, _, .nil, t => t
  | _, _, _, _, .cons h t, u => .cons h (DVs.append t u)
theorem DVs.get {K : PySem.W.Frag} {H : Hp} : ∀ {v : List V} {d : List Dt} {i : Nat} {x : Dt}, DVs K H v d → d[i]? = some x → ∃ u, v[i]? = some u ∧ DV K H u x
  | _, _, _, _, .nil, e => by simp at e
  | _, _, 0, _, .cons h t, e => by simp at e; subst e; exact ⟨_, rfl, h⟩
  | _, _, i + 1, x, .cons h t, e => by
    obtain ⟨u, h1, h2⟩ := DVs.get (i := i) (x := x) t (by simpa using e)
    exact ⟨u, by simpa using h1, h2⟩
theorem DVs.getV {K : PySem.W.Frag} {H : Hp} : ∀ {v : List V} {d : List Dt} {i : Nat} {u : V}, DVs K H v d → v[i]? = some u → ∃ x, d[i]? = some x ∧ DV K H u x
  | _, _, _, _, .nil, e => by simp at e
  | _, _, 0, _, .cons h t, e => by simp at e; subst e; exact ⟨_, rfl, h⟩
  | _, _, i + 1, x, .cons h t, e => by
    obtain ⟨u, h1, h2⟩ := DVs.getV (i := i) (u := x) t (by simpa using e)
    exact ⟨u, by simpa using h1, h2⟩
theorem DVs.take {K : PySem.W.Frag} {H : Hp} : ∀ {v : List V} {d : List Dt} (n : Nat), DVs K H v d → DVs K H (v.take n) (d.take n)
  | _, _, 0, _ => .nil
  | _, _, _ + 1, .nil => .nil
  | _, _, n + 1, .cons h t => .cons h (DVs.take n t)
theorem DVs.drop {K : PySem.W.Frag} {H : Hp} : ∀ {v : List V} {d : List Dt} (n : Nat), DVs K H v d → DVs K H (v.drop n) (d.drop n)
  | _, _, 0, h => h
  | _, _, _ + 1, .nil => .nil
  | _, _, n + 1, .cons h t => DVs.drop n t
theorem DVs.set {K : PySem.W.Frag} {H : Hp} {u : V} {x : Dt} (hx : DV K H u x) : ∀ {v : List V} {d : List Dt} (n : Nat), DVs K H v d → DVs K H (v.set n u) (d.set n x)
  | _, _, _, .nil => .nil
  | _, _, 0, .cons h t => .cons hx t
  | _, _, n + 1, .cons h t => .cons h (DVs.set hx n t)
theorem DVs.eraseIdx {K : PySem.W.Frag} {H : Hp} : ∀ {v : List V} {d : List Dt} (n : Nat), DVs K H v d → DVs K H (v.eraseIdx n) (d.eraseIdx n)
  | _, _, _, .nil => .nil
  | _, _, 0, .cons h t => t
  | _, _, n + 1, .cons h t => .cons h (DVs.eraseIdx n t)
theorem DVs.flat {K : PySem.W.Frag} {H : Hp} {v : List V} {d : List Dt} (h : DVs K H v d) : ∀ n : Nat, DVs K H (List.replicate n v).flatten (List.replicate n d).flatten
  | 0 => .nil
  | n + 1 => by rw [List.replicate_succ, List.replicate_succ, List.flatten_cons, List.flatten_cons]; exact h.append (DVs.flat h n)
theorem DVs.ints {K : PySem.W.Frag} {H : Hp} : ∀ l : List Int, DVs K H (l.map V.int) (l.map Dt.int)
  | [] => .nil
  | s :: l => .cons (.int s) (DVs.ints l)
theorem DVs.of_strs {K : PySem.W.Frag} {H : Hp} : ∀ {l : List Str} {xs : List V}, DVs K H xs (l.map Dt.str) → xs = l.map V.str
  | [], _, .nil => rfl
  | s :: l, _, .cons (.str _) t => by rw [DVs.of_strs t]; rfl
theorem DVs.of_bls {K : PySem.W.Frag} {H : Hp} : ∀ {l : List Bool} {xs : List V}, DVs K H xs (l.map Dt.bl) → xs = l.map V.bl
  | [], _, .nil => rfl
  | s :: l, _, .cons (.bl _) t => by rw [DVs.of_bls t]; rfl
theorem DVs.of_ints {K : PySem.W.Frag} {H : Hp} : ∀ {l : List Int} {xs : List V}, DVs K H xs (l.map Dt.int) → xs = l.map V.int
  | [], _, .nil => rfl
  | s :: l, _, .cons (.int _) t => by rw [DVs.of_ints t]; rfl
mutual
def py : Dt → PyData
  | .non => .none
  | .bl b => .bool b
  | .int i => .int i
  | .str s => .str s
  | .lst l => .list (pys l)
  | .tup l => .tuple (pys l)
  | .par _ => .none
  | .dct _ => .none
  | .dcu _ => .none
  | .fzl _ => .none
  | .exc _ _ _ => .none
  | .obj _ => .none
  | .raw _ => .none
def pys : List Dt → List PyData
  | [] => []
  | d :: l => py d :: pys l
end
mutual
def plain : Dt → Bool
  | .lst l => plains l
  | .tup l => plains l
  | .par _ => false
  | .dct _ => false
  | .dcu _ => false
  | .fzl _ => false
  | .exc _ _ _ => false
  | .obj _ => false
  | .raw _ => false
  | _ => true
def plains : List Dt → Bool
  | [] => true
  | d :: l => plain d && plains l
end
mutual
theorem DV.dp {K : PySem.W.Frag} {H : Hp} : ∀ {v : V} {d : Dt}, DV K H v d → plain d = true → Dp K H v (py d)
  | _, _, .non, _ => .non
  | _, _, .bl b, _ => .bl b
  | _, _, .int b, _ => .int b
  | _, _, .str b, _ => .str b
  | _, _, .lst h t, p => .lst (.inl (.inl h)) (DVs.dp t p)
  | _, _, .tup h t, p => .tup h.t (DVs.dp t p)
  | _, _, .par h t, p => by cases p
  | _, _, .dct h t, p => by cases p
  | _, _, .dcu h t, p => by cases p
  | _, _, .fzl h t, p => by cases p
  | _, _, .exc h t, p => by cases p
  | _, _, .obj h, p => by cases p
  | _, _, .raw v, p => by cases p
theorem DVs.dp {K : PySem.W.Frag} {H : Hp} : ∀ {v : List V} {d : List Dt}, DVs K H v d → plains d = true → DpAll K H v (pys d)
  | _, _, .nil, _ => .nil
  | _, _, .cons h t, p => by
    have p' := Bool.and_eq_true_iff.mp p
    exact .cons (DV.dp h p'.1) (DVs.dp t p'.2)
end
theorem pys_map : ∀ l : List Dt, pys l = l.map py
  | [] => rfl
  | d :: l => by rw [pys, pys_map l]; rfl
inductive Sl where
  | un | dat (d : Dt)
/-- what this frame, and nobody else, holds at an address -/
inductive Cel where
  | lst (l : List Dt)
  | dk (l : List (Key × Dt))
  | dt (l : List (List Key × Dt))
  | lk (o : Obj) (l : List (Key × Dt))
  | lt (o : Obj) (l : List (List Key × Dt))
  | ins (cls dx : Addr) (fs : List (Str × Dt))
  | bag (n : Nat)
  | grp (as : List Addr) (φ : Hp → Hp → Prop)
abbrev Cells := List (Addr × Cel)
def Cel.fp : Cel → List Addr
  | .grp as _ => as
  | _ => []
def addrs : Cells → List Addr
  | [] => []
  | p :: l => (p.1 :: p.2.fp) ++ addrs l
structure Fm where
  H0 : Hp
  M : List Addr
  W : List Addr
def hid (F : Fm) (C : Cells) : List Addr := addrs C ++ F.M
def BagAt (H : Hp) (b : Addr) (c : Nat) : Prop := ∃ d s k : Int, H b = some (.lst [.int d, .int s, .int k]) ∧ 0 ≤ d ∧ 0 ≤ s ∧ s < 2147483647 ∧ 0 ≤ k ∧ k ≤ (c : Int)
theorem BagAt.mono {H : Hp} {b : Addr} {c c' : Nat} (h : BagAt H b c) (l : c ≤ c') : BagAt H b c' := by
  obtain ⟨d, s, k, h1, h2, h3, h4, h5, h6⟩ := h
  exact ⟨d, s, k, h1, h2, h3, h4, h5, by omega⟩
/-- what is hidden stands, and is no tuple -/
def Lv (H : Hp) (a : Addr) : Prop := ∃ o, H a = some o ∧ ∀ xs, o ≠ .tup xs
theorem Lv.ex {H : Hp} {a : Addr} (h : Lv H a) : ∃ o, H a = some o := let ⟨o, e, _⟩ := h; ⟨o, e⟩
theorem Lv.of_eq {H H' : Hp} {a : Addr} (h : Lv H a) (e : H' a = H a) : Lv H' a := by obtain ⟨o, q, n⟩ := h; exact ⟨o, by rw [e]; exact q, n⟩
theorem Lv.mono {H H' : Hp} {a : Addr} (h : Lv H a) (e : ∀ o, H a = some o → H' a = some o) : Lv H' a := by obtain ⟨o, q, n⟩ := h; exact ⟨o, e o q, n⟩
def CelAt (K : PySem.W.Frag) (V H : Hp) (a : Addr) : Cel → Prop
  | .lst l => ∃ xs, H a = some (.lst xs) ∧ DVs K V xs l
  | .dk l => ∃ xs, H a = some (.dK xs) ∧ DVk K V xs l
  | .dt l => ∃ xs, H a = some (.dT xs) ∧ DVu K V xs l
  | .lk o l => ∃ xs, H a = some (.frz o (.dK xs)) ∧ DVk K V xs l
  | .lt o l => ∃ xs, H a = some (.frz o (.dT xs)) ∧ DVu K V xs l
  | .ins cls dx fs => ∃ xs, H a = some (.ins cls dx xs) ∧ DVx K V xs fs
  | .bag n => BagAt H a n
  | .grp as φ => (∀ x ∈ a :: as, Lv H x) ∧ ∀ V' H', Ex V V' → (∀ x ∈ a :: as, H' x = H x) → φ V' H'
theorem CelAt.live {K : PySem.W.Frag} {V H : Hp} {a : Addr} {q : Cel} (h : CelAt K V H a q) : ∀ x ∈ a :: q.fp, Lv H x := fun x hx => by
  cases q with
  | lst l => obtain ⟨xs, e, _⟩ := h; cases List.mem_singleton.mp hx; exact ⟨_, e, fun _ z => nomatch z⟩
  | dk l => obtain ⟨xs, e, _⟩ := h; cases List.mem_singleton.mp hx; exact ⟨_, e, fun _ z => nomatch z⟩
  | dt l => obtain ⟨xs, e, _⟩ := h; cases List.mem_singleton.mp hx; exact ⟨_, e, fun _ z => nomatch z⟩
  | lk o l => obtain ⟨xs, e, _⟩ := h; cases List.mem_singleton.mp hx; exact ⟨_, e, fun _ z => nomatch z⟩
  | lt o l => obtain ⟨xs, e, _⟩ := h; cases List.mem_singleton.mp hx; exact ⟨_, e, fun _ z => nomatch z⟩
  | ins c dx l => obtain ⟨xs, e, _⟩ := h; cases List.mem_singleton.mp hx; exact ⟨_, e, fun _ z => nomatch z⟩
  | bag n => obtain ⟨_, _, _, e, _⟩ := h; cases List.mem_singleton.mp hx; exact ⟨_, e, fun _ z => nomatch z⟩
  | grp as φ => exact h.1 x hx
theorem CelAt.mono {K : PySem.W.Frag} {V V' H H' : Hp} {a : Addr} {q : Cel} (h : CelAt K V H a q) (e : Ex V V') (k : ∀ x ∈ a :: q.fp, H' x = H x) : CelAt K V' H' a q := by
  have ka := k a (List.mem_cons_self ..)
  cases q with
  | lst l => obtain ⟨xs, h1, h2⟩ := h; exact ⟨xs, ka.trans h1, h2.mono e⟩
  | dk l => obtain ⟨xs, h1, h2⟩ := h; exact ⟨xs, ka.trans h1, h2.mono e⟩
  | dt l => obtain ⟨xs, h1, h2⟩ := h; exact ⟨xs, ka.trans h1, h2.mono e⟩
  | lk o l => obtain ⟨xs, h1, h2⟩ := h; exact ⟨xs, ka.trans h1, h2.mono e⟩
  | lt o l => obtain ⟨xs, h1, h2⟩ := h; exact ⟨xs, ka.trans h1, h2.mono e⟩
  | ins c dx l => obtain ⟨xs, h1, h2⟩ := h; exact ⟨xs, ka.trans h1, h2.mono e⟩
  | bag n => obtain ⟨d, s, m, h1, r⟩ := h; exact ⟨d, s, m, ka.trans h1, r⟩
  | grp as φ => exact ⟨fun x hx => (h.1 x hx).of_eq (k x hx), fun V2 H2 e2 k2 => h.2 V2 H2 (e.trans e2) fun x hx => (k2 x hx).trans (k x hx)⟩
theorem addrs_app : ∀ (C C' : Cells), addrs (C ++ C') = addrs C ++ addrs C'
  | [], _ => rfl
  | p :: C, C' => by
    show (p.1 :: p.2.fp) ++ addrs (C ++ C') = ((p.1 :: p.2.fp) ++ addrs C) ++ addrs C'
    rw [addrs_app C C', List.append_assoc]
theorem mem_addrs {p : Addr × Cel} {x : Addr} : ∀ {C : Cells}, p ∈ C → x ∈ p.1 :: p.2.fp → x ∈ addrs C
  | [], h, _ => nomatch h
  | q :: C, h, hx => by
    rcases List.mem_cons.mp h with h | h
    · subst h; exact List.mem_append_left _ hx
    · exact List.mem_append_right _ (mem_addrs h hx)
theorem of_addrs {x : Addr} : ∀ {C : Cells}, x ∈ addrs C → ∃ p ∈ C, x ∈ p.1 :: p.2.fp
  | [], h => nomatch h
  | q :: C, h => by
    rcases List.mem_append.mp h with h | h
    · exact ⟨q, List.mem_cons_self .., h⟩
    · obtain ⟨p, h1, h2⟩ := of_addrs h
      exact ⟨p, List.mem_cons_of_mem _ h1, h2⟩
structure SI (K : PySem.W.Frag) (F : Fm) (Γ : List Sl) (C : Cells) (σ : L2.St) (H : Hp) : Prop where
  len : σ.length = Γ.length
  nd : (addrs C).Nodup
  sl : ∀ (i : Nat) (d : Dt), Γ[i]? = some (.dat d) → ∃ v, σ[i]? = some (some v) ∧ DV K (mask (hid F C) H) v d
  ce : ∀ p ∈ C, CelAt K (mask (hid F C) H) H p.1 p.2
  keep : Ex (mask F.W F.H0) (mask F.W H)
  fr : ∀ a ∈ addrs C, (a ∈ F.W ∨ F.H0 a = none) ∧ a ∉ F.M
  live : ∀ a ∈ F.M, Lv H a
  wl : ∀ a ∈ F.W, ∃ o, H a = some o
abbrev Vw (F : Fm) (C : Cells) (H : Hp) : Hp := mask (hid F C) H
def Kp (F : Fm) (H H' : Hp) : Prop := Ex H H'
section
variable {K : PySem.W.Frag} {F : Fm} {Γ : List Sl} {C C' : Cells} {σ : L2.St} {H H' : Hp}
theorem Kp.hid (e : Kp F H H') : Ex (Vw F C H) (Vw F C H') := fun a o q => by
  obtain ⟨n, q⟩ := of_mask q
  show mask _ _ _ = _
  rw [mask_out n]
  exact e a o q
theorem SI.cat (S : SI K F Γ C σ H) {j : Nat} {a : Addr} {q : Cel} (hj : C[j]? = some (a, q)) : CelAt K (Vw F C H) H a q := S.ce _ (List.mem_of_getElem? hj)
theorem SI.hlive (S : SI K F Γ C σ H) : ∀ x ∈ hid F C, Lv H x := fun x hx => by
  rcases List.mem_append.mp hx with z | z
  · obtain ⟨p, h1, h2⟩ := of_addrs z
    exact (S.ce p h1).live x h2
  · exact S.live x z
theorem SI.fresh (S : SI K F Γ C σ H) {p : Addr} (h : H p = none) : p ∉ hid F C := fun z => by
  obtain ⟨o, e, _⟩ := S.hlive p z
  rw [h] at e; cases e
theorem SI.h0 (S : SI K F Γ C σ H) {p : Addr} (h : H p = none) : F.H0 p = none := by
  cases e : F.H0 p with
  | none => rfl
  | some o =>
    have nw : p ∉ F.W := fun z => by
      obtain ⟨o, e⟩ := S.wl p z
      rw [h] at e; cases e
    have q := (of_mask (S.keep p o (by rw [mask_out nw]; exact e))).2
    rw [h] at q; cases q
/-- THE STEP: nothing is lost -/
theorem SI.step (S : SI K F Γ C σ H) (e : Ex H H') : SI K F Γ C σ H' := by
  have ev : Ex (Vw F C H) (Vw F C H') := Kp.hid (F := F) e
  refine ⟨S.len, S.nd, fun i d hi => ?_, fun p hp => ?_, fun a o q => ?_, S.fr, fun a ha => ?_, fun a ha => ?_⟩
  · obtain ⟨v, h1, h2⟩ := S.sl i d hi
    exact ⟨v, h1, h2.mono ev⟩
  · refine (S.ce p hp).mono ev fun x hx => ?_
    obtain ⟨o, h, _⟩ := (S.ce p hp).live x hx
    rw [h, e x o h]
  · have h1 := S.keep a o q
    obtain ⟨n, h1⟩ := of_mask h1
    rw [mask_out n]
    exact e a o h1
  · exact (S.live a ha).mono (e a)
  · obtain ⟨o, q⟩ := S.wl a ha; exact ⟨o, e a o q⟩
theorem Kp.new {p : Addr} {o : HO} (h : H p = none) : Kp F H (upd H p o) := fun a u q => by
  rw [upd_ne (ne_of_none q h)]
  exact q
theorem SI.new (S : SI K F Γ C σ H) {p : Addr} {o : HO} (h : H p = none) : SI K F Γ C σ (upd H p o) := S.step (Kp.new (F := F) h)
theorem SI.newL (S : SI K F Γ C σ H) {p : Addr} {xs : List V} {l : List Dt} (h : H p = none) (d : DVs K (mask (hid F C) H) xs l) : DV K (mask (hid F C) (upd H p (.lst xs))) (.ref p) (.lst l) :=
  .lst (by rw [mask_out (S.fresh h)]; exact upd_same) (d.mono (Kp.new (F := F) h).hid)
theorem SI.newT (S : SI K F Γ C σ H) {p : Addr} {xs : List V} {l : List Dt} {o : Obj} (h : H p = none) (ho : o.dict = none) (d : DVs K (mask (hid F C) H) xs l) : DV K (mask (hid F C) (upd H p (.frz o (.tup xs)))) (.ref p) (.tup l) :=
  .tup (.inl ⟨o, by rw [mask_out (S.fresh h)]; exact upd_same, ho⟩) (d.mono (Kp.new (F := F) h).hid)
theorem SI.newP (S : SI K F Γ C σ H) {p : Addr} {xs : List V} {l : List Dt} (h : H p = none) (d : DVs K (mask (hid F C) H) xs l) : DV K (mask (hid F C) (upd H p (.tup xs))) (.ref p) (.par l) :=
  .par (by rw [mask_out (S.fresh h)]; exact upd_same) (d.mono (Kp.new (F := F) h).hid)
theorem SI.setS (S : SI K F Γ C σ H) {i : Nat} {s : Sl} {o : Option V} (hok : ∀ d, s = .dat d → ∃ v, o = some v ∧ DV K (Vw F C H) v d) : SI K F (Γ.set i s) C (σ.set i o) H := by
  refine ⟨by rw [List.length_set, List.length_set]; exact S.len, S.nd, fun j d hj => ?_, S.ce, S.keep, S.fr, S.live, S.wl⟩
  by_cases hij : i = j
  · subst hij
    have hl : i < Γ.length := by
      have := (List.getElem?_eq_some_iff.mp hj).1
      rwa [List.length_set] at this
    rw [List.getElem?_set_self hl] at hj
    rw [List.getElem?_set_self (by rw [S.len]; exact hl)]
    obtain ⟨v, h1, h2⟩ := hok d (Option.some.inj hj)
    exact ⟨v, by rw [h1], h2⟩
  · rw [List.getElem?_set_ne hij] at hj
    rw [List.getElem?_set_ne hij]
    exact S.sl j d hj
theorem SI.setD (S : SI K F Γ C σ H) {i : Nat} {v : V} {d : Dt} (dv : DV K (Vw F C H) v d) : SI K F (Γ.set i (.dat d)) C (σ.set i (some v)) H :=
  S.setS fun d' e => by cases e; exact ⟨v, rfl, dv⟩
theorem addrs_set {a : Addr} {q q' : Cel} (hf : q'.fp = q.fp) : ∀ {C : Cells} {j : Nat}, C[j]? = some (a, q) → addrs (C.set j (a, q')) = addrs C
  | [], j, h => by simp at h
  | p :: C, 0, h => by
    simp at h
    subst h
    show (a :: q'.fp) ++ addrs C = (a :: q.fp) ++ addrs C
    rw [hf]
  | p :: C, j + 1, h => by
    show (p.1 :: p.2.fp) ++ addrs (C.set j (a, q')) = (p.1 :: p.2.fp) ++ addrs C
    rw [addrs_set hf (j := j) (by simpa using h)]
theorem addrs_apart {p : Addr × Cel} {a : Addr} {q : Cel} {x : Addr} : ∀ {C : Cells} {i j : Nat}, (addrs C).Nodup → C[j]? = some (a, q) → C[i]? = some p → i ≠ j → x ∈ a :: q.fp → x ∉ p.1 :: p.2.fp
  | [], i, j, _, h, _, _, _ => by simp at h
  | u :: C, 0, 0, _, _, _, n, _ => absurd rfl n
  | u :: C, 0, j + 1, nd, h1, h2, _, hx => by
    simp at h2; subst h2
    intro z
    exact (List.nodup_append.mp nd).2.2 x z x (mem_addrs (List.mem_of_getElem? (show C[j]? = some (a, q) by simpa using h1)) hx) rfl
  | u :: C, i + 1, 0, nd, h1, h2, _, hx => by
    simp at h1; subst h1
    intro z
    exact (List.nodup_append.mp nd).2.2 x hx x (mem_addrs (List.mem_of_getElem? (show C[i]? = some p by simpa using h2)) z) rfl
  | u :: C, i + 1, j + 1, nd, h1, h2, n, hx => addrs_apart (C := C) (i := i) (j := j) (List.nodup_append.mp nd).2.1 (by simpa using h1) (by simpa using h2) (by omega) hx
/-- the cell j changed, its addresses kept; only they change -/
theorem SI.chg (S : SI K F Γ C σ H) {j : Nat} {a : Addr} {q q' : Cel} (hj : C[j]? = some (a, q)) (hf : q'.fp = q.fp) (hk : ∀ x, x ∉ a :: q.fp → H' x = H x) (hq : CelAt K (Vw F C H) H' a q') :
    SI K F Γ (C.set j (a, q')) σ H' ∧ Ex (Vw F C H) (Vw F (C.set j (a, q')) H') := by
  have ha : ∀ x ∈ a :: q.fp, x ∈ addrs C := fun x hx => mem_addrs (List.mem_of_getElem? hj) hx
  have he : hid F (C.set j (a, q')) = hid F C := by unfold hid; rw [addrs_set hf hj]
  have ev : Vw F (C.set j (a, q')) H' = Vw F C H := by
    funext x
    show mask _ _ _ = mask _ _ _
    rw [he]
    by_cases hx : x ∈ hid F C
    · rw [mask_in hx, mask_in hx]
    · rw [mask_out hx, mask_out hx, hk x fun z => hx (List.mem_append_left _ (ha x z))]
  refine ⟨⟨S.len, by rw [addrs_set hf hj]; exact S.nd, fun i d hi => ?_, fun p hp => ?_, fun x o z => ?_, by rw [addrs_set hf hj]; exact S.fr, fun x hx => ?_, fun x hx => ?_⟩, by rw [ev]; exact Ex.refl _⟩
  · obtain ⟨v, h1, h2⟩ := S.sl i d hi
    exact ⟨v, h1, by rw [show mask (hid F (C.set j (a, q'))) H' = Vw F C H from ev]; exact h2⟩
  · rw [show mask (hid F (C.set j (a, q'))) H' = Vw F C H from ev]
    obtain ⟨i, hi⟩ := List.getElem?_of_mem hp
    have hl : j < C.length := (List.getElem?_eq_some_iff.mp hj).1
    by_cases hij : j = i
    · subst hij
      rw [List.getElem?_set_self hl] at hi
      cases hi
      exact hq
    · rw [List.getElem?_set_ne hij] at hi
      exact (S.ce p (List.mem_of_getElem? hi)).mono (Ex.refl _) fun x hx => hk x fun z => addrs_apart S.nd hj hi (fun e => hij e.symm) z hx
  · obtain ⟨n, h0⟩ := of_mask z
    have h1 := (of_mask (S.keep x o z)).2
    rw [mask_out n, hk x fun w => ?_]
    · exact h1
    · rcases (S.fr x (ha x w)).1 with f | f
      · exact n f
      · rw [h0] at f; cases f
  · exact (S.live x hx).of_eq (hk x fun w => (S.fr x (ha x w)).2 hx)
  · by_cases w : x ∈ a :: q.fp
    · exact (hq.live x (by rw [hf]; exact w)).ex
    · rw [hk x w]
      exact S.wl x hx
theorem SI.updC (S : SI K F Γ C σ H) {j : Nat} {a : Addr} {q q' : Cel} {o : HO} (hj : C[j]? = some (a, q)) (h0 : q.fp = []) (hf : q'.fp = []) (hq : CelAt K (Vw F C H) (upd H a o) a q') :
    SI K F Γ (C.set j (a, q')) σ (upd H a o) ∧ Ex (Vw F C H) (Vw F (C.set j (a, q')) (upd H a o)) :=
  S.chg hj (by rw [h0, hf]) (fun x hx => upd_ne fun z => hx (by rw [z]; exact List.mem_cons_self ..)) hq
/-- a new cell -/
theorem SI.addC (S : SI K F Γ C σ H) {p : Addr} {q : Cel} {o : HO} (h : H p = none) (hf : q.fp = []) (hq : CelAt K (Vw F C H) (upd H p o) p q) : SI K F Γ (C ++ [(p, q)]) σ (upd H p o) ∧ Ex (Vw F C H) (Vw F (C ++ [(p, q)]) (upd H p o)) := by
  have nh : p ∉ hid F C := S.fresh h
  have ea : addrs (C ++ [(p, q)]) = addrs C ++ [p] := by
    rw [addrs_app]
    show addrs C ++ ((p :: q.fp) ++ []) = _
    rw [hf]; rfl
  have ev : Ex (Vw F C H) (Vw F (C ++ [(p, q)]) (upd H p o)) := fun x u z => by
    obtain ⟨n, e⟩ := of_mask z
    have hx : x ≠ p := ne_of_none e h
    show mask _ _ _ = _
    rw [mask_out, upd_ne hx]
    · exact e
    · intro w
      unfold hid at w
      rw [ea] at w
      rcases List.mem_append.mp w with w | w
      · rcases List.mem_append.mp w with w | w
        · exact n (List.mem_append_left _ w)
        · exact hx (List.mem_singleton.mp w)
      · exact n (List.mem_append_right _ w)
  have np : p ∉ addrs C := fun z => nh (List.mem_append_left _ z)
  refine ⟨⟨S.len, ?_, fun i d hi => ?_, fun u hu => ?_, fun x u z => ?_, fun x hx => ?_, fun x hx => ?_, fun x hx => ?_⟩, ev⟩
  · rw [ea]
    exact List.nodup_append.mpr ⟨S.nd, by simp, fun x hx y hy e => np (by rw [List.mem_singleton.mp hy] at e; rw [← e]; exact hx)⟩
  · obtain ⟨v, h1, h2⟩ := S.sl i d hi
    exact ⟨v, h1, h2.mono ev⟩
  · rcases List.mem_append.mp hu with hu | hu
    · refine (S.ce u hu).mono ev fun x hx => upd_ne fun z => np (by rw [← z]; exact mem_addrs hu hx)
    · cases List.mem_singleton.mp hu
      exact hq.mono ev fun x hx => rfl
  · obtain ⟨n, h0⟩ := of_mask z
    have h1 := (of_mask (S.keep x u z)).2
    rw [mask_out n, upd_ne (ne_of_none h1 h)]
    exact h1
  · rw [ea] at hx
    rcases List.mem_append.mp hx with hx | hx
    · exact S.fr x hx
    · cases List.mem_singleton.mp hx
      exact ⟨.inr (S.h0 h), fun z => nh (List.mem_append_right _ z)⟩
  · exact (S.live x hx).mono fun u z => by rw [upd_ne (ne_of_none z h)]; exact z
  · obtain ⟨u, z⟩ := S.wl x hx
    exact ⟨u, by rw [upd_ne (ne_of_none z h)]; exact z⟩
theorem addrs_erase {p : Addr × Cel} : ∀ {C : Cells} {j : Nat}, C[j]? = some p → ∀ x, x ∈ addrs C ↔ x ∈ p.1 :: p.2.fp ∨ x ∈ addrs (C.eraseIdx j)
  | [], j, h, x => by simp at h
  | u :: C, 0, h, x => by
    simp at h
    subst h
    exact List.mem_append
  | u :: C, j + 1, h, x => by
    have q := addrs_erase (C := C) (j := j) (by simpa using h) x
    show x ∈ (u.1 :: u.2.fp) ++ addrs C ↔ _ ∨ x ∈ (u.1 :: u.2.fp) ++ addrs (C.eraseIdx j)
    rw [List.mem_append, List.mem_append, q]
    constructor
    · rintro (h | h | h)
      · exact .inr (.inl h)
      · exact .inl h
      · exact .inr (.inr h)
    · rintro (h | h | h)
      · exact .inr (.inl h)
      · exact .inl h
      · exact .inr (.inr h)
theorem nodup_erase {p : Addr × Cel} : ∀ {C : Cells} {j : Nat}, C[j]? = some p → (addrs C).Nodup → (addrs (C.eraseIdx j)).Nodup ∧ ∀ x ∈ p.1 :: p.2.fp, x ∉ addrs (C.eraseIdx j)
  | [], j, h, _ => by simp at h
  | u :: C, 0, h, nd => by
    simp at h
    subst h
    have q := List.nodup_append.mp nd
    exact ⟨q.2.1, fun x hx z => q.2.2 x hx x z rfl⟩
  | u :: C, j + 1, h, nd => by
    have h' : C[j]? = some p := by simpa using h
    have q := List.nodup_append.mp (show ((u.1 :: u.2.fp) ++ addrs C).Nodup from nd)
    obtain ⟨i1, i2⟩ := nodup_erase (C := C) (j := j) h' q.2.1
    refine ⟨List.nodup_append.mpr ⟨q.1, i1, fun x hx y hy e => q.2.2 x hx y ((addrs_erase h' y).mpr (.inr hy)) e⟩, fun x hx z => ?_⟩
    rcases List.mem_append.mp (show x ∈ (u.1 :: u.2.fp) ++ addrs (C.eraseIdx j) from z) with z | z
    · exact q.2.2 x z x ((addrs_erase h' x).mpr (.inl hx)) rfl
    · exact i2 x hx z
/-- the cell j is let go: what it holds may be seen from now on; a dict is frozen (H') -/
theorem SI.letGo (S : SI K F Γ C σ H) {j : Nat} {p : Addr × Cel} (hj : C[j]? = some p) (hk : ∀ x, x ∉ p.1 :: p.2.fp → H' x = H x) (hl : ∀ x ∈ p.1 :: p.2.fp, Lv H' x) :
    SI K F Γ (C.eraseIdx j) σ H' ∧ Ex (Vw F C H) (Vw F (C.eraseIdx j) H') ∧ ∀ x ∈ p.1 :: p.2.fp, Vw F (C.eraseIdx j) H' x = H' x := by
  obtain ⟨nd, np⟩ := nodup_erase hj S.nd
  have ha := addrs_erase hj
  have hp : ∀ x ∈ p.1 :: p.2.fp, x ∈ addrs C := fun x hx => (ha x).mpr (.inl hx)
  have ev : Ex (Vw F C H) (Vw F (C.eraseIdx j) H') := fun x u z => by
    obtain ⟨n, e⟩ := of_mask z
    show mask _ _ _ = _
    rw [mask_out, hk x fun w => n (List.mem_append_left _ (hp x w))]
    · exact e
    · intro w
      rcases List.mem_append.mp w with w | w
      · exact n (List.mem_append_left _ ((ha x).mpr (.inr w)))
      · exact n (List.mem_append_right _ w)
  refine ⟨⟨S.len, nd, fun i d hi => ?_, fun u hu => ?_, fun x u z => ?_, fun x hx => S.fr x ((ha x).mpr (.inr hx)), fun x hx => ?_, fun x hx => ?_⟩, ev, fun x hx => ?_⟩
  · obtain ⟨v, h1, h2⟩ := S.sl i d hi
    exact ⟨v, h1, h2.mono ev⟩
  · exact (S.ce u (List.mem_of_mem_eraseIdx hu)).mono ev fun x hx => hk x fun z => np x z (mem_addrs hu hx)
  · obtain ⟨n, h0⟩ := of_mask z
    have h1 := (of_mask (S.keep x u z)).2
    rw [mask_out n, hk x fun w => ?_]
    · exact h1
    · rcases (S.fr x (hp x w)).1 with f | f
      · exact n f
      · rw [h0] at f; cases f
  · exact (S.live x hx).of_eq (hk x fun w => (S.fr x (hp x w)).2 hx)
  · by_cases w : x ∈ p.1 :: p.2.fp
    · exact (hl x w).ex
    · rw [hk x w]; exact S.wl x hx
  · refine mask_out fun w => ?_
    rcases List.mem_append.mp w with w | w
    · exact np x hx w
    · exact (S.fr x (hp x hx)).2 w
end
end D
end
section
set_option Elab.async false
set_option linter.all false
set_option maxRecDepth 100000
namespace D
open PySem L2 PyProof.Rows
section
variable {X : Cx} {pins : List (Addr × Obj)} {σ : L2.St} {H : Hp} {s : Shared}
theorem laidF {h' : Heap} {t' : Nat} {xs : List V} {us : List Value} (I : Inv X pins σ H s) (k : ∀ b u, s.heap.get? b = some u → (h'.push { cls := .type "tuple", data := .seq us.toArray }).get? b = some u) (hp : s.heap.objs.size ≤ h'.objs.size) (z : xs.length ≤ sizeLine) (r : Vals xs us) :
    ∃ o : Obj, o.dict = none ∧ Inv X pins σ (upd H h'.objs.size (.frz o (.tup xs))) { s with heap := h'.push { cls := .type "tuple", data := .seq us.toArray }, toks := t' } :=
  ⟨{ cls := .type "tuple", data := .seq us.toArray }, rfl, I.laid (t' := t') k hp ⟨Heap.get?_push_size _ rfl, z, us, r, ⟨_, Heap.get?_push_size _ rfl, rfl, _, rfl⟩⟩⟩
end
section
variable {X : Cx} {pos : Pos}
def tTupF (t : TA) : TE := fun σ H Q => t σ H fun vs H1 => vs.length ≤ sizeLine ∧ ∀ p (o : Obj), H1 p = none → o.dict = none → Q (.ref p) (upd H1 p (.frz o (.tup vs)))
theorem pe_tupF {es : List Expr} {t : TA} {x1} (h : PA X es t) : PE X (.Tuple es x1 pos) (tTupF t) := ⟨fun pn sa sg HH QQ I hq => by
  refine wpAny_Tuple_spliced (thn (h.run pos pn sa sg HH _ I hq) fun us sb ⟨xs, Hb, Ib, r, z, q⟩ => ⟨by rw [← r.length]; exact z, ?_⟩)
  obtain ⟨o, ho, I2⟩ := laidF (t' := sb.toks) (h' := sb.heap) Ib (fun b u e => Heap.get?_push_of_some _ e) (Nat.le_refl _) z r
  exact ⟨.ref sb.heap.objs.size, _, I2, rfl, q _ o (Ib.hok.fresh (Nat.le_refl _)) ho⟩⟩
def rCatF (K : PySem.W.Frag) : R2 := fun x y H Q => ∃ a b xs ys, x = .ref a ∧ y = .ref b ∧ SqT K H a xs ∧ SqT K H b ys ∧ xs.length + ys.length ≤ sizeLine ∧
  (xs = [] → Q (.ref b) H) ∧ (xs ≠ [] → ys = [] → Q (.ref a) H) ∧ (xs ≠ [] → ys ≠ [] → ∀ p (o : Obj), H p = none → o.dict = none → Q (.ref p) (upd H p (.frz o (.tup (xs ++ ys)))))
theorem op_catF : OpR X (binaryOp .Add) (rCatF X.K) := fun pn sa sg HH x y v u QQ I rx ry ⟨a, b, xs, ys, ex, ey, ha, hb, hz, q0, q1, q2⟩ => by
  subst ex ey
  cases rx
  cases ry
  obtain ⟨its, r1, p1, _⟩ := I.tuple ha
  obtain ⟨its2, r2, p2, _⟩ := I.tuple hb
  by_cases hx : xs = []
  · subst hx
    cases r1
    exact cat_tup0 p1 p2 ⟨.ref b, HH, I, rfl, q0 rfl⟩
  · refine HT.cat_tup p1 p2 (fun z => hx (r1.nil_iff.mp z)) (fun z => ⟨.ref a, HH, I, rfl, q1 hx (r2.nil_iff.mp z)⟩) (fun z => ?_) (by rw [← r1.length, ← r2.length]; exact hz)
    obtain ⟨o, ho, I2⟩ := laidF (t' := sa.toks) (h' := sa.heap) (xs := xs ++ ys) (us := its ++ its2) I (fun b u e => Heap.get?_push_of_some _ e) (Nat.le_refl _) (by rw [List.length_append]; exact hz) (r1.append r2)
    exact ⟨.ref sa.heap.objs.size, _, I2, rfl, q2 hx (fun w => z (r2.nil_iff.mpr w)) _ o (I.hok.fresh (Nat.le_refl _)) ho⟩
def rSlF (K : PySem.W.Frag) : V → Option Int → Option Int → Hp → VK → Prop := fun x lo hi H Q => ∃ a xs, x = .ref a ∧ SqT K H a xs ∧
  (HT.sIx xs.length 0 lo = 0 ∧ HT.sIx xs.length xs.length hi = xs.length → Q (.ref a) H) ∧ (¬ (HT.sIx xs.length 0 lo = 0 ∧ HT.sIx xs.length xs.length hi = xs.length) → ∀ p (o : Obj), H p = none → o.dict = none → Q (.ref p) (upd H p (.frz o (.tup (cutV xs lo hi)))))
theorem sl_tupF : SlR X (rSlF X.K) := fun pn sa sg HH x v vl vu lo hi sl QQ I rx hs pl pu ⟨a, xs, ex, hx, q1, q2⟩ => by
  subst ex
  cases rx
  obtain ⟨its, r, ht, hz⟩ := I.tuple hx
  have hlen : its.toArray.size = xs.length := by rw [List.size_toArray]; exact r.length.symm
  refine ⟨"tuple", _, PyProof.Rows.slot_tuple_getitem.lookup, ht.typeIs, ?_⟩
  by_cases hw : HT.sIx xs.length 0 lo = 0 ∧ HT.sIx xs.length xs.length hi = xs.length
  · exact getItem_tuple_whole ht hs pl pu (by rw [hlen]; exact hw) ⟨.ref a, HH, I, rfl, q1 hw⟩
  · refine HT.getItem_tuple_cut ht hs pl pu (by rw [hlen]; exact hw) ?_ (by rw [hlen]; exact hz)
    rw [hlen]
    obtain ⟨o, ho, I2⟩ := laidF (t' := sa.toks) (h' := sa.heap) (xs := cutV xs lo hi) I (fun b u e => Heap.get?_push_of_some _ e) (Nat.le_refl _) (Nat.le_trans (cutV_length xs lo hi) hz) ((r.drop (HT.sIx xs.length 0 lo)).take (HT.sIx xs.length xs.length hi - HT.sIx xs.length 0 lo))
    exact ⟨.ref sa.heap.objs.size, _, I2, rfl, q2 hw _ o (I.hok.fresh (Nat.le_refl _)) ho⟩
def rTupF (K : PySem.W.Frag) : List V → Hp → VK → Prop := fun xs H Q => ∃ p ys, xs = [.ref p] ∧ ((SqL K H p ys ∧ ∀ l (o : Obj), H l = none → o.dict = none → Q (.ref l) (upd H l (.frz o (.tup ys)))) ∨ (SqT K H p ys ∧ Q (.ref p) H))
theorem call_tupleF : CallR X (.type "tuple") (rTupF X.K) := fun pn sa sg HH xs us QQ I r ⟨p, ys, ex, h⟩ => by
  subst ex
  obtain ⟨u, rfl, rx⟩ := vals1 r
  cases rx
  rcases h with ⟨hq, q⟩ | ⟨hq, q⟩
  · obtain ⟨its, r', pl, hz⟩ := I.list hq
    have hlen := r'.length
    refine call_tuple_list pl.isList (fun h' kp => ?_) (by simp only [List.size_toArray] <;> omega)
    have I1 : Inv X pn sg HH { sa with heap := h' } := I.kept (t' := sa.toks) kp
    obtain ⟨o, ho, I2⟩ := laidF (t' := sa.toks) (h' := h') (xs := ys) (us := its) I1 (fun b u e => Heap.get?_push_of_some _ e) (Nat.le_refl _) hz r'
    exact ⟨.ref h'.objs.size, _, I2, rfl, q _ o (I1.hok.fresh (Nat.le_refl _)) ho⟩
  · obtain ⟨its, r', pl, hz⟩ := I.tuple hq
    exact call_tuple_same pl ⟨.ref p, HH, I, rfl, q⟩
/-- a method of a tuple -/
theorem pe_tm {name : Str} {id : String} {o e : Expr} {es : List Expr} {apos cpos : Pos} {r : V → List V → Hp → VK → Prop} {to : TE} {t : TA} (slot : Slot "tuple" name id) (hty : typeOf (.builtin id) = pure (.type "method_descriptor")) (hm : MtR X id r) (ho : PE X o to) (ha : PA X (e :: es) t)
    (hbase : attributeBase o name X.env (eval o X.env) = eval o X.env := by rfl)
    (hfew : ((backTo cpos (starEach (e :: es) X.env)).all (fun x => !x.1) && (backToKw cpos (keywordEach [] X.env)).all (fun x => x.1.isSome)
      && decide ((e :: es).length + ([] : List Keyword).length + (if ([] : List Keyword).isEmpty then 0 else 1) < 30)) = true := by rfl)
    (hline : (apos.endLine == cpos.line) = true := by rfl) (hs : starEach (e :: es) X.env = (false, eval e X.env) :: starEach es X.env := by rfl) (hplain : (backTo cpos (starEach es X.env)).any (·.1) = false := by rfl) :
    PE X (.Call (.Attribute o name apos) (e :: es) [] cpos) (fun σ H Q => to σ H fun x H1 => ∃ a xs, x = .ref a ∧ SqF X.K H1 a xs ∧ t σ H1 fun vs H2 => r x vs H2 Q) := ⟨fun pn sa sg HH QQ I h => by
  refine wpAny_Call_method_late hbase hfew hline rfl (thn (ho.run pn sa sg HH _ I h) fun v sb ⟨x, Hb, Ib, rb, a, xs, ex, ty, qb⟩ => ?_)
  subst ex
  obtain rfl : v = Value.ref a := rb
  obtain ⟨its, _, ht, _⟩ := Ib.tuple ty.t
  have h2 : ∀ b, Value.ref a = .ref b → ∃ ob, sb.heap.get? b = some ob ∧ ob.dict = none := fun b e => by
    cases e
    rcases ty with ⟨ob, e1, e2⟩ | ⟨_, ob, e1, _, e2⟩
    · exact ⟨ob, (Ib.hok a _ e1).1, e2⟩
    · exact ⟨ob, Ib.kIn a ob e1, e2⟩
  refine ⟨"tuple", id, PySem.F.plainAttrs_tuple, slot, hty, ht.typeIs, h2, ?_⟩
  have hA := ha.run cpos pn sb sg Hb _ Ib qb
  rw [hs] at hA ⊢
  refine Calls.callWith_builtin (by show (false || (backTo cpos (starEach es X.env)).any (·.1)) = false; rw [hplain] <;> rfl) (Calls.evalArgs_plain ?_)
  exact thn hA fun us sc ⟨vs, Hc, Ic, rc, qc⟩ => hm pn sc sg Hc (.ref a) vs (.ref a) us QQ Ic rfl rc qc⟩
end
end D
end
section
set_option Elab.async false
set_option linter.all false
set_option maxRecDepth 100000
namespace D
open PySem L2
structure SE (F : Fm) (X : Cx) (Γ : List Sl) (c : Cells) (e : Expr) (P : Cells → Dt → Prop) : Prop where
  run : ∀ (σ : L2.St) (H : Hp) (Q : VK), SI X.K F Γ c σ H → (∀ v H' c' d, P c' d → SI X.K F Γ c' σ H' → Ex (Vw F c H) (Vw F c' H') → DV X.K (Vw F c' H') v d → Q v H') → tE X e σ H Q
instance {F : Fm} {X : Cx} {Γ : List Sl} {c : Cells} {e : Expr} {P : Cells → Dt → Prop} : CoeFun (SE F X Γ c e P) fun _ => ∀ (σ : L2.St) (H : Hp) (Q : VK), SI X.K F Γ c σ H → (∀ v H' c' d, P c' d → SI X.K F Γ c' σ H' → Ex (Vw F c H) (Vw F c' H') → DV X.K (Vw F c' H') v d → Q v H') → tE X e σ H Q := ⟨SE.run⟩
structure ST (F : Fm) (X : Cx) (Γ : List Sl) (c : Cells) (e : Expr) (P : Cells → Bool → Prop) : Prop where
  run : ∀ (σ : L2.St) (H : Hp) (Q : Bool → Hp → Prop), SI X.K F Γ c σ H → (∀ b H' c', P c' b → SI X.K F Γ c' σ H' → Ex (Vw F c H) (Vw F c' H') → Q b H') → tT X e σ H Q
instance {F : Fm} {X : Cx} {Γ : List Sl} {c : Cells} {e : Expr} {P : Cells → Bool → Prop} : CoeFun (ST F X Γ c e P) fun _ => ∀ (σ : L2.St) (H : Hp) (Q : Bool → Hp → Prop), SI X.K F Γ c σ H → (∀ b H' c', P c' b → SI X.K F Γ c' σ H' → Ex (Vw F c H) (Vw F c' H') → Q b H') → tT X e σ H Q := ⟨ST.run⟩
structure SA (F : Fm) (X : Cx) (Γ : List Sl) (c : Cells) (es : List Expr) (P : Cells → List Dt → Prop) : Prop where
  run : ∀ (σ : L2.St) (H : Hp) (Q : List V → Hp → Prop), SI X.K F Γ c σ H → (∀ vs H' c' ds, P c' ds → SI X.K F Γ c' σ H' → Ex (Vw F c H) (Vw F c' H') → DVs X.K (Vw F c' H') vs ds → Q vs H') → tAs X es σ H Q
instance {F : Fm} {X : Cx} {Γ : List Sl} {c : Cells} {es : List Expr} {P : Cells → List Dt → Prop} : CoeFun (SA F X Γ c es P) fun _ => ∀ (σ : L2.St) (H : Hp) (Q : List V → Hp → Prop), SI X.K F Γ c σ H → (∀ vs H' c' ds, P c' ds → SI X.K F Γ c' σ H' → Ex (Vw F c H) (Vw F c' H') → DVs X.K (Vw F c' H') vs ds → Q vs H') → tAs X es σ H Q := ⟨SA.run⟩
/-- an operation on values -/
def VR (K : PySem.W.Frag) (F : Fm) (Γ : List Sl) (c : Cells) (r : List V → Hp → VK → Prop) (ds : List Dt) (P : Cells → Dt → Prop) : Prop :=
  ∀ (σ : L2.St) (H : Hp) (vs : List V) (Q : VK), SI K F Γ c σ H → DVs K (Vw F c H) vs ds → (∀ v H' c' d, P c' d → SI K F Γ c' σ H' → Ex (Vw F c H) (Vw F c' H') → DV K (Vw F c' H') v d → Q v H') → r vs H Q
def rOp (X : Cx) (f : Value → Value → Sem Value) : R2 := fun x y H Q => ∃ r, OpR X f r ∧ r x y H Q
theorem opR {X : Cx} {f : Value → Value → Sem Value} : OpR X f (rOp X f) := fun pins s σ H x y v u Q I rx ry ⟨_, ho, q⟩ => ho pins s σ H x y v u Q I rx ry q
def rIxc (X : Cx) : R2 := fun x y H Q => ∃ r, IxR X r ∧ r x y H Q
theorem ixR {X : Cx} : IxR X (rIxc X) := fun value slice pins s σ H x y v u Q I rx ry ⟨_, ho, q⟩ hs => ho value slice pins s σ H x y v u Q I rx ry q hs
def rSlc (X : Cx) : V → Option Int → Option Int → Hp → VK → Prop := fun x l u H Q => ∃ r, SlR X r ∧ r x l u H Q
theorem slR {X : Cx} : SlR X (rSlc X) := fun pins s σ H x v vl vu lo hi sl Q I rx hs pl pu ⟨_, ho, q⟩ => ho pins s σ H x v vl vu lo hi sl Q I rx hs pl pu q
def rCl (X : Cx) (f : Value) : List V → Hp → VK → Prop := fun xs H Q => ∃ r, CallR X f r ∧ r xs H Q
theorem clR {X : Cx} {f : Value} : CallR X f (rCl X f) := fun pins s σ H xs us Q I rx ⟨_, ho, q⟩ => ho pins s σ H xs us Q I rx q
structure OpV (F : Fm) (X : Cx) (Γ : List Sl) (c : Cells) (f : Value → Value → Sem Value) (d1 d2 : Dt) (P : Cells → Dt → Prop) : Prop where
  run : VR X.K F Γ c (fun vs H Q => ∃ x y, vs = [x, y] ∧ rOp X f x y H Q) [d1, d2] P
instance {F : Fm} {X : Cx} {Γ : List Sl} {c : Cells} {f : Value → Value → Sem Value} {d1 d2 : Dt} {P : Cells → Dt → Prop} : CoeFun (OpV F X Γ c f d1 d2 P) fun _ => VR X.K F Γ c (fun vs H Q => ∃ x y, vs = [x, y] ∧ rOp X f x y H Q) [d1, d2] P := ⟨OpV.run⟩
structure IxV (F : Fm) (X : Cx) (Γ : List Sl) (c : Cells) (d1 d2 : Dt) (P : Cells → Dt → Prop) : Prop where
  run : VR X.K F Γ c (fun vs H Q => ∃ x y, vs = [x, y] ∧ rIxc X x y H Q) [d1, d2] P
instance {F : Fm} {X : Cx} {Γ : List Sl} {c : Cells} {d1 d2 : Dt} {P : Cells → Dt → Prop} : CoeFun (IxV F X Γ c d1 d2 P) fun _ => VR X.K F Γ c (fun vs H Q => ∃ x y, vs = [x, y] ∧ rIxc X x y H Q) [d1, d2] P := ⟨IxV.run⟩
structure ClV (F : Fm) (X : Cx) (Γ : List Sl) (c : Cells) (f : Value) (ds : List Dt) (P : Cells → Dt → Prop) : Prop where
  run : VR X.K F Γ c (rCl X f) ds P
instance {F : Fm} {X : Cx} {Γ : List Sl} {c : Cells} {f : Value} {ds : List Dt} {P : Cells → Dt → Prop} : CoeFun (ClV F X Γ c f ds P) fun _ => VR X.K F Γ c (rCl X f) ds P := ⟨ClV.run⟩
structure SlV (F : Fm) (X : Cx) (Γ : List Sl) (c : Cells) (lo hi : Option Int) (d : Dt) (P : Cells → Dt → Prop) : Prop where
  run : VR X.K F Γ c (fun vs H Q => ∃ x, vs = [x] ∧ rSlc X x lo hi H Q) [d] P
instance {F : Fm} {X : Cx} {Γ : List Sl} {c : Cells} {lo hi : Option Int} {d : Dt} {P : Cells → Dt → Prop} : CoeFun (SlV F X Γ c lo hi d P) fun _ => VR X.K F Γ c (fun vs H Q => ∃ x, vs = [x] ∧ rSlc X x lo hi H Q) [d] P := ⟨SlV.run⟩
section
variable {F : Fm} {X : Cx} {Γ : List Sl} {c : Cells} {P : Cells → Dt → Prop} {pos : Pos}
theorem SE.mono {e : Expr} {P' : Cells → Dt → Prop} (h : SE F X Γ c e P) (hp : ∀ c d, P c d → P' c d) : SE F X Γ c e P' := .mk fun σ H Q S k => h σ H Q S fun v H' c' d p => k v H' c' d (hp c' d p)
theorem SE.of {e : Expr} {t : TE} (hp : PE X e t) (h : ∀ (σ : L2.St) (H : Hp) (Q : VK), SI X.K F Γ c σ H → (∀ v H' c' d, P c' d → SI X.K F Γ c' σ H' → Ex (Vw F c H) (Vw F c' H') → DV X.K (Vw F c' H') v d → Q v H') → t σ H Q) : SE F X Γ c e P :=
  .mk fun σ H Q S k => tE_of hp (h σ H Q S k)
/-- a value that is there already -/
theorem SE.here {e : Expr} {v : V} {d : Dt} (hp : PE X e (tC v)) (hd : ∀ H, DV X.K H v d) (p : P c d) : SE F X Γ c e P := SE.of hp fun σ H Q S k => k v H c d p S (Ex.refl _) (hd _)
theorem se_int {i : Int} {j} (p : P c (.int i)) : SE F X Γ c (.Constant (.int i) j pos) P := SE.here pe_int (fun _ => .int i) p
theorem se_str {x : Str} {j} (p : P c (.str x)) : SE F X Γ c (.Constant (.str x) j pos) P := SE.here pe_str (fun _ => .str x) p
theorem se_bl {b : Bool} {j} (p : P c (.bl b)) : SE F X Γ c (.Constant (.bool b) j pos) P := SE.here pe_bl (fun _ => .bl b) p
theorem se_non {j} (p : P c .non) : SE F X Γ c (.Constant .none j pos) P := SE.here pe_non (fun _ => .non) p
/-- a global constant that is a flat value -/
theorem se_glob {x : Str} {u : Value} {v : V} {d : Dt} (hg : Gl X x) (hm : X.mg x = some u) (r : RelV v u) (hd : ∀ H, DV X.K H v d) (p : P c d) (hdb : (x == ("__debug__" : Str)) = false := by decide) : SE F X Γ c (.Name x pos) P :=
  SE.here (pe_glob hg hm r hdb) hd p
theorem se_gint {x : Str} {i : Int} {t : Tok} (hm : X.mg x = some (.int i t)) (p : P c (.int i)) (hg : Gl X x := by rfl) (hdb : (x == ("__debug__" : Str)) = false := by decide) : SE F X Γ c (.Name x pos) P := se_glob (v := .int i) hg hm ⟨_, rfl⟩ (fun _ => .int i) p hdb
theorem se_gstr {x : Str} {i : Str} {t : Tok} (hm : X.mg x = some (.str i t)) (p : P c (.str i)) (hg : Gl X x := by rfl) (hdb : (x == ("__debug__" : Str)) = false := by decide) : SE F X Γ c (.Name x pos) P := se_glob (v := .str i) hg hm ⟨_, rfl⟩ (fun _ => .str i) p hdb
/-- a slot's datum -/
theorem se_var (i : Nat) {x : Str} {d : Dt} (hs : Γ[i]? = some (.dat d)) (p : P c d) (hN : X.N[i]? = some x := by rfl) (hv : Vis X.env.scope x := by first | exact Or.inl rfl | exact Or.inr (Or.inl rfl) | exact Or.inr (Or.inr rfl))
    (hd : (x == ("__debug__" : Str)) = false := by decide) (hcd : (x == ("__classdict__" : Str)) = false := by decide) : SE F X Γ c (.Name x pos) P :=
  SE.of (pe_var hN hv hd hcd) fun σ H Q S k => by
    obtain ⟨v, h1, h2⟩ := S.sl i _ hs
    exact ⟨v, h1, k v H c d p S (Ex.refl _) h2⟩
theorem se_op2 {e a b : Expr} {r : R2} (hp : PE X e (tOp r (tE X a) (tE X b))) (h : SE F X Γ c a fun c1 d1 => SE F X Γ c1 b fun c2 d2 => VR X.K F Γ c2 (fun vs H Q => ∃ x y, vs = [x, y] ∧ r x y H Q) [d1, d2] P) : SE F X Γ c e P :=
  SE.of hp fun σ H Q S k => by
    refine h σ H _ S fun v H1 c1 d1 hb S1 k1 dv1 => ?_
    refine hb σ H1 _ S1 fun w H2 c2 d2 hr S2 k2 dv2 => ?_
    obtain ⟨x, y, e1, q⟩ := hr σ H2 [v, w] Q S2 (.cons (dv1.mono k2) (.cons dv2 .nil)) fun u H3 c3 d3 p S3 k3 dv3 => k u H3 c3 d3 p S3 ((k1.trans k2).trans k3) dv3
    cases e1
    exact q
theorem se_bin {a b : Expr} {op : Operator} (h : SE F X Γ c a fun c1 d1 => SE F X Γ c1 b fun c2 d2 => OpV F X Γ c2 (binaryOp op) d1 d2 P) : SE F X Γ c (.BinOp a op b pos) P := se_op2 (pe_op opR pE pE) (h.mono fun c1 d1 q => q.mono fun c2 d2 r => r.run)
theorem se_cmp {a b : Expr} {op : CmpOp} (h : SE F X Γ c a fun c1 d1 => SE F X Γ c1 b fun c2 d2 => OpV F X Γ c2 (compareOp op) d1 d2 P) (hm : behindInMarks op b = false := by first | exact nomark _ | rfl) : SE F X Γ c (.Compare a [op] [b] pos) P := se_op2 (pe_cmpR opR pE pE hm) (h.mono fun c1 d1 q => q.mono fun c2 d2 r => r.run)
theorem se_ix {a b : Expr} (h : SE F X Γ c a fun c1 d1 => SE F X Γ c1 b fun c2 d2 => IxV F X Γ c2 d1 d2 P) (hs : PlainIx b := by exact fun _ _ => rfl) : SE F X Γ c (.Subscript a b pos) P := se_op2 (pe_ix ixR pE pE hs) (h.mono fun c1 d1 q => q.mono fun c2 d2 r => r.run)
theorem st_cmp {a b : Expr} {op : CmpOp} {P : Cells → Bool → Prop} (h : SE F X Γ c a fun c1 d1 => SE F X Γ c1 b fun c2 d2 => OpV F X Γ c2 (compareOp op) d1 d2 fun c3 d => ∃ k, d = .bl k ∧ P c3 k) (hm : behindInMarks op b = false := by first | exact nomark _ | rfl) : ST F X Γ c (.Compare a [op] [b] pos) P := by
  refine .mk fun σ H Q S k => ?_
  refine tT_of (pt_cmpR opR pE pE hm) ?_
  refine h σ H _ S fun v H1 c1 d1 hb S1 k1 dv1 => ?_
  refine hb σ H1 _ S1 fun w H2 c2 d2 hr S2 k2 dv2 => ?_
  obtain ⟨x, y, e1, q⟩ := hr σ H2 [v, w] (fun z H' => ∃ k, z = .bl k ∧ Q k H') S2 (.cons (dv1.mono k2) (.cons dv2 .nil)) fun u H3 c3 d3 p S3 k3 dv3 => by
    obtain ⟨b, rfl, p⟩ := p
    cases dv3
    exact ⟨b, rfl, k b H3 c3 p S3 ((k1.trans k2).trans k3)⟩
  cases e1
  exact q
/-- a value that is a bool, as a test (a call, a name) -/
theorem st_val {e : Expr} {P : Cells → Bool → Prop} (h : SE F X Γ c e fun c1 d => ∃ k, d = .bl k ∧ P c1 k)
    (hw : ∀ whole : Sem Value, PySem.isTrue e X.env whole = (do let v ← whole; standAt e.pos; holding [v] (truthy v)) := by intro _; rfl) : ST F X Γ c e P := by
  refine .mk fun σ H Q S k => ?_
  refine tT_of (pt_val pE hw) ?_
  refine h σ H _ S fun v H1 c1 d1 p S1 k1 dv1 => ?_
  obtain ⟨b, rfl, p⟩ := p
  cases dv1
  exact ⟨b, rfl, k b H1 c1 p S1 k1⟩
theorem st_not {e : Expr} {P : Cells → Bool → Prop} (h : ST F X Γ c e fun c1 b => P c1 (!b)) : ST F X Γ c (.UnaryOp .Not e pos) P := by
  refine .mk fun σ H Q S k => ?_
  refine tT_of (pt_not pT) ?_
  exact h σ H _ S fun b H1 c1 p S1 k1 => k _ H1 c1 p S1 k1
/-- and, or as tests: a list of them -/
structure TWc (X : Cx) (e : Expr) (σ : L2.St) (H : Hp) (Q : Bool → Hp → Prop) : Prop where
  run : ∀ (whole : Sem Value) pins s, Inv X pins σ H s → wpAny (model X.prog X.w) X.A (PySem.isTrue e X.env whole) (TP X pins σ Q) X.xe s
def tW (X : Cx) (e : Expr) : TT := fun σ H Q => TWc X e σ H Q
structure SWt (F : Fm) (X : Cx) (Γ : List Sl) (c : Cells) (e : Expr) (P : Cells → Bool → Prop) : Prop where
  run : ∀ (σ : L2.St) (H : Hp) (Q : Bool → Hp → Prop), SI X.K F Γ c σ H → (∀ b H' c', P c' b → SI X.K F Γ c' σ H' → Ex (Vw F c H) (Vw F c' H') → Q b H') → tW X e σ H Q
instance {F : Fm} {X : Cx} {Γ : List Sl} {c : Cells} {e : Expr} {P : Cells → Bool → Prop} : CoeFun (SWt F X Γ c e P) fun _ => ∀ (σ : L2.St) (H : Hp) (Q : Bool → Hp → Prop), SI X.K F Γ c σ H → (∀ b H' c', P c' b → SI X.K F Γ c' σ H' → Ex (Vw F c H) (Vw F c' H') → Q b H') → tW X e σ H Q := ⟨SWt.run⟩
theorem pW {e : Expr} : PW X e (tW X e) := ⟨fun wh pins s _ _ _ I h => TWc.run h wh pins s I⟩
theorem st_w {e : Expr} {P : Cells → Bool → Prop} (h : SWt F X Γ c e P) : ST F X Γ c e P := .mk fun σ H Q S k => tT_of pW.pt (h σ H Q S k)
theorem sw_and1 {a : Expr} {P : Cells → Bool → Prop} (h : ST F X Γ c a P) : SWt F X Γ c (.BoolOp .And [a] pos) P := .mk fun σ H Q S k => ⟨fun wh pins s I => (pw_and1 pT).run wh pins s σ H Q I (h σ H Q S k)⟩
theorem sw_or1 {a : Expr} {P : Cells → Bool → Prop} (h : ST F X Γ c a P) : SWt F X Γ c (.BoolOp .Or [a] pos) P := .mk fun σ H Q S k => ⟨fun wh pins s I => (pw_or1 pT).run wh pins s σ H Q I (h σ H Q S k)⟩
theorem sw_and {a b : Expr} {rest : List Expr} {P : Cells → Bool → Prop} (h : ST F X Γ c a fun c1 k => if k = true then SWt F X Γ c1 (.BoolOp .And (b :: rest) pos) P else P c1 false) : SWt F X Γ c (.BoolOp .And (a :: b :: rest) pos) P := by
  refine .mk fun σ H Q S k => ?_
  refine ⟨fun wh pins s I => ?_⟩
  refine (pw_and pT pW).run wh pins s σ H Q I (h σ H _ S fun b1 H1 c1 p S1 k1 => ?_)
  cases b1 with
  | true => exact (show SWt F X Γ c1 _ P from p) σ H1 Q S1 fun b2 H2 c2 p2 S2 k2 => k b2 H2 c2 p2 S2 (k1.trans k2)
  | false => exact k false H1 c1 p S1 k1
theorem sw_or {a b : Expr} {rest : List Expr} {P : Cells → Bool → Prop} (h : ST F X Γ c a fun c1 k => if k = true then P c1 true else SWt F X Γ c1 (.BoolOp .Or (b :: rest) pos) P) : SWt F X Γ c (.BoolOp .Or (a :: b :: rest) pos) P := by
  refine .mk fun σ H Q S k => ?_
  refine ⟨fun wh pins s I => ?_⟩
  refine (pw_or pT pW).run wh pins s σ H Q I (h σ H _ S fun b1 H1 c1 p S1 k1 => ?_)
  cases b1 with
  | false => exact (show SWt F X Γ c1 _ P from p) σ H1 Q S1 fun b2 H2 c2 p2 S2 k2 => k b2 H2 c2 p2 S2 (k1.trans k2)
  | true => exact k true H1 c1 p S1 k1
/-- and, or as values of bools -/
theorem se_one {a : Expr} {op} (h : SE F X Γ c a P) : SE F X Γ c (.BoolOp op [a] pos) P := SE.of (pe_one pE) fun σ H Q S k => h σ H Q S k
theorem se_and {a b : Expr} {rest : List Expr} (h : SE F X Γ c a fun c1 d => ∃ k, d = .bl k ∧ if k = true then SE F X Γ c1 (.BoolOp .And (b :: rest) pos) P else P c1 (.bl false)) : SE F X Γ c (.BoolOp .And (a :: b :: rest) pos) P :=
  SE.of (pe_and pE pE) fun σ H Q S k => by
    refine h σ H _ S fun v H1 c1 d1 p S1 k1 dv1 => ?_
    obtain ⟨b1, rfl, p⟩ := p
    cases dv1
    refine ⟨b1, rfl, ?_⟩
    cases b1 with
    | true => exact (show SE F X Γ c1 _ P from p) σ H1 Q S1 fun b2 H2 c2 d2 p2 S2 k2 => k b2 H2 c2 d2 p2 S2 (k1.trans k2)
    | false => exact k _ H1 c1 _ p S1 k1 (.bl false)
theorem se_or {a b : Expr} {rest : List Expr} (h : SE F X Γ c a fun c1 d => ∃ k, d = .bl k ∧ if k = true then P c1 (.bl true) else SE F X Γ c1 (.BoolOp .Or (b :: rest) pos) P) : SE F X Γ c (.BoolOp .Or (a :: b :: rest) pos) P :=
  SE.of (pe_or pE pE) fun σ H Q S k => by
    refine h σ H _ S fun v H1 c1 d1 p S1 k1 dv1 => ?_
    obtain ⟨b1, rfl, p⟩ := p
    cases dv1
    refine ⟨b1, rfl, ?_⟩
    cases b1 with
    | false => exact (show SE F X Γ c1 _ P from p) σ H1 Q S1 fun b2 H2 c2 d2 p2 S2 k2 => k b2 H2 c2 d2 p2 S2 (k1.trans k2)
    | true => exact k _ H1 c1 _ p S1 k1 (.bl true)
theorem se_not {a : Expr} (h : SE F X Γ c a fun c1 d => ∃ k, d = .bl k ∧ P c1 (.bl (!k))) : SE F X Γ c (.UnaryOp .Not a pos) P :=
  SE.of (pe_not pE) fun σ H Q S k => by
    refine h σ H _ S fun v H1 c1 d1 p S1 k1 dv1 => ?_
    obtain ⟨b1, rfl, p⟩ := p
    cases dv1
    exact ⟨b1, rfl, k _ H1 c1 _ p S1 k1 (.bl _)⟩
theorem se_if {t a b : Expr} (h : ST F X Γ c t fun c1 k => if k = true then SE F X Γ c1 a P else SE F X Γ c1 b P) : SE F X Γ c (.IfExp t a b pos) P :=
  SE.of (pe_ifExp pT pE pE) fun σ H Q S k => by
    refine h σ H _ S fun b1 H1 c1 p S1 k1 => ?_
    cases b1 with
    | true => exact (show SE F X Γ c1 _ P from p) σ H1 Q S1 fun b2 H2 c2 d2 p2 S2 k2 => k b2 H2 c2 d2 p2 S2 (k1.trans k2)
    | false => exact (show SE F X Γ c1 _ P from p) σ H1 Q S1 fun b2 H2 c2 d2 p2 S2 k2 => k b2 H2 c2 d2 p2 S2 (k1.trans k2)
theorem se_chain {a b e : Expr} {op op' : CmpOp} (h : SE F X Γ c a fun c1 d1 => SE F X Γ c1 b fun c2 d2 => OpV F X Γ c2 (compareOp op) d1 d2 fun c3 d => ∃ k, d = .bl k ∧ if k = true then SE F X Γ c3 e (fun c4 d4 => OpV F X Γ c4 (compareOp op') d2 d4 P) else P c3 (.bl false))
    (hm : lastMarks [op, op'] [b, e] = false := by with_unfolding_all rfl) : SE F X Γ c (.Compare a [op, op'] [b, e] pos) P :=
  SE.of (pe_chain opR opR pE pE pE hm) fun σ H Q S k => by
    refine h σ H _ S fun v H1 c1 d1 hb S1 k1 dv1 => ?_
    refine hb σ H1 _ S1 fun w H2 c2 d2 hr S2 k2 dv2 => ?_
    obtain ⟨x, y, e1, q⟩ := hr σ H2 [v, w] (fun z H3 => ∃ k, z = .bl k ∧ (if k = true then tE X e σ H3 fun w' H4 => rOp X (compareOp op') w w' H4 Q else Q (.bl false) H3)) S2 (.cons (dv1.mono k2) (.cons dv2 .nil)) fun u H3 c3 d3 p S3 k3 dv3 => by
      obtain ⟨b1, rfl, p⟩ := p
      cases dv3
      refine ⟨b1, rfl, ?_⟩
      cases b1 with
      | false => exact k _ H3 c3 _ p S3 ((k1.trans k2).trans k3) (.bl false)
      | true =>
        refine (show SE F X Γ c3 e _ from p) σ H3 _ S3 fun w' H4 c4 d4 hr' S4 k4 dv4 => ?_
        obtain ⟨x', y', e2, q⟩ := hr' σ H4 [w, w'] Q S4 (.cons (dv2.mono (k3.trans k4)) (.cons dv4 .nil)) fun u H5 c5 d5 p5 S5 k5 dv5 => k u H5 c5 d5 p5 S5 ((((k1.trans k2).trans k3).trans k4).trans k5) dv5
        cases e2
        exact q
    cases e1
    exact q
theorem chain_core {a b e : Expr} {op op' : CmpOp} (h : SE F X Γ c a fun c1 d1 => SE F X Γ c1 b fun c2 d2 => OpV F X Γ c2 (compareOp op) d1 d2 fun c3 d => ∃ k, d = .bl k ∧ if k = true then SE F X Γ c3 e (fun c4 d4 => OpV F X Γ c4 (compareOp op') d2 d4 P) else P c3 (.bl false)) (σ : L2.St) (H : Hp) (Q : VK) (S : SI X.K F Γ c σ H) (k : ∀ v H' c' d, P c' d → SI X.K F Γ c' σ H' → Ex (Vw F c H) (Vw F c' H') → DV X.K (Vw F c' H') v d → Q v H') :
    tChain (rOp X (compareOp op)) (rOp X (compareOp op')) (tE X a) (tE X b) (tE X e) σ H Q := by
    refine h σ H _ S fun v H1 c1 d1 hb S1 k1 dv1 => ?_
    refine hb σ H1 _ S1 fun w H2 c2 d2 hr S2 k2 dv2 => ?_
    obtain ⟨x, y, e1, q⟩ := hr σ H2 [v, w] (fun z H3 => ∃ k, z = .bl k ∧ (if k = true then tE X e σ H3 fun w' H4 => rOp X (compareOp op') w w' H4 Q else Q (.bl false) H3)) S2 (.cons (dv1.mono k2) (.cons dv2 .nil)) fun u H3 c3 d3 p S3 k3 dv3 => by
      obtain ⟨b1, rfl, p⟩ := p
      cases dv3
      refine ⟨b1, rfl, ?_⟩
      cases b1 with
      | false => exact k _ H3 c3 _ p S3 ((k1.trans k2).trans k3) (.bl false)
      | true =>
        refine (show SE F X Γ c3 e _ from p) σ H3 _ S3 fun w' H4 c4 d4 hr' S4 k4 dv4 => ?_
        obtain ⟨x', y', e2, q⟩ := hr' σ H4 [w, w'] Q S4 (.cons (dv2.mono (k3.trans k4)) (.cons dv4 .nil)) fun u H5 c5 d5 p5 S5 k5 dv5 => k u H5 c5 d5 p5 S5 ((((k1.trans k2).trans k3).trans k4).trans k5) dv5
        cases e2
        exact q
    cases e1
    exact q
theorem st_chain {a b e : Expr} {op op' : CmpOp} {P : Cells → Bool → Prop} (h : SE F X Γ c a fun c1 d1 => SE F X Γ c1 b fun c2 d2 => OpV F X Γ c2 (compareOp op) d1 d2 fun c3 d => ∃ k, d = .bl k ∧ if k = true then SE F X Γ c3 e (fun c4 d4 => OpV F X Γ c4 (compareOp op') d2 d4 fun c5 d => ∃ k, d = .bl k ∧ P c5 k) else ∃ k, Dt.bl false = .bl k ∧ P c3 k)
    (hm : lastMarks [op, op'] [b, e] = false := by with_unfolding_all rfl) : ST F X Γ c (.Compare a [op, op'] [b, e] pos) P := .mk fun σ H Q S k =>
  tT_of (pt_chain opR opR pE pE pE hm) (chain_core (P := fun c1 d => ∃ k, d = .bl k ∧ P c1 k) h σ H _ S fun v H' c' d p S' e' dv => by
    obtain ⟨b1, rfl, p⟩ := p
    cases dv
    exact ⟨b1, rfl, k b1 H' c' p S' e'⟩)
theorem sa_nil {P : Cells → List Dt → Prop} (p : P c []) : SA F X Γ c [] P := .mk fun σ H Q S k => tAs_of pa_nil (k [] H c [] p S (Ex.refl _) .nil)
theorem sa_cons {e : Expr} {es : List Expr} {P : Cells → List Dt → Prop} (h : SE F X Γ c e fun c1 d => SA F X Γ c1 es fun c2 ds => P c2 (d :: ds)) (hs : starEach (e :: es) X.env = (false, eval e X.env) :: starEach es X.env := by rfl) : SA F X Γ c (e :: es) P :=
  .mk fun σ H Q S k => tAs_of (pa_cons pE pAs hs) (h σ H _ S fun v H1 c1 d hr S1 k1 dv => hr σ H1 _ S1 fun vs H2 c2 ds p S2 k2 dvs => k (v :: vs) H2 c2 (d :: ds) p S2 (k1.trans k2) (.cons (dv.mono k2) dvs))
theorem se_tup {es : List Expr} {x1} (h : SA F X Γ c es fun c1 ds => ds.length ≤ sizeLine ∧ P c1 (.tup ds)) : SE F X Γ c (.Tuple es x1 pos) P :=
  SE.of (pe_tupF pAs) fun σ H Q S k => h σ H _ S fun vs H1 c1 ds p S1 k1 dv => ⟨by rw [dv.length]; exact p.1, fun q o hq ho => k _ _ c1 _ p.2 (S1.new hq) (k1.trans (Kp.new (F := F) hq).hid) (S1.newT hq ho dv)⟩
theorem se_lst {es : List Expr} (h : SA F X Γ c es fun c1 ds => ds.length ≤ sizeLine ∧ P c1 (.lst ds)) : SE F X Γ c (.List es pos) P :=
  SE.of (pe_lst pAs) fun σ H Q S k => h σ H _ S fun vs H1 c1 ds p S1 k1 dv => ⟨by rw [dv.length]; exact p.1, fun q hq => k _ _ c1 _ p.2 (S1.new hq) (k1.trans (Kp.new (F := F) hq).hid) (S1.newL hq dv)⟩
theorem se_callB {x : Str} {p : Pos} {e : Expr} {es : List Expr} {id : String} (hm : X.mg x = none) (h : SA F X Γ c (e :: es) fun c1 ds => ClV F X Γ c1 (.builtin id) ds P) (hv : bootBuiltins x = some (.builtin id) := by decide +kernel) (hg : Gl X x := by rfl) (hn : x ≠ "__name__" := by decide) (hdb : (x == ("__debug__" : Str)) = false := by decide)
    (he : starEach (e :: es) X.env = (false, eval e X.env) :: starEach es X.env := by rfl) (hpl : (backTo pos (starEach es X.env)).any (·.1) = false := by rfl) : SE F X Γ c (.Call (.Name x p) (e :: es) [] pos) P :=
  SE.of (pe_callB clR hg hm hv pAs hn hdb he hpl) fun σ H Q S k => h σ H _ S fun vs H1 c1 ds q S1 k1 dv => q σ H1 vs Q S1 dv fun v H2 c2 d p S2 k2 dv2 => k v H2 c2 d p S2 (k1.trans k2) dv2
theorem se_callT {x : Str} {p : Pos} {e : Expr} {es : List Expr} {id : String} (hm : X.mg x = none) (h : SA F X Γ c (e :: es) fun c1 ds => ClV F X Γ c1 (.type id) ds P) (hv : bootBuiltins x = some (.type id) := by decide +kernel) (hg : Gl X x := by rfl) (hn : x ≠ "__name__" := by decide) (hdb : (x == ("__debug__" : Str)) = false := by decide)
    (he : starEach (e :: es) X.env = (false, eval e X.env) :: starEach es X.env := by rfl) (hpl : (backTo pos (starEach es X.env)).any (·.1) = false := by rfl) : SE F X Γ c (.Call (.Name x p) (e :: es) [] pos) P :=
  SE.of (pe_callTy clR hg hm hv pAs hn hdb he hpl) fun σ H Q S k => h σ H _ S fun vs H1 c1 ds q S1 k1 dv => q σ H1 vs Q S1 dv fun v H2 c2 d p S2 k2 dv2 => k v H2 c2 d p S2 (k1.trans k2) dv2
def SO (F : Fm) (X : Cx) (Γ : List Sl) (c : Cells) (e : Option Expr) (P : Cells → Option Int → Prop) : Prop :=
  match e with
  | none => P c none
  | some e => SE F X Γ c e fun c1 d => ∃ i, d = .int i ∧ P c1 (some i)
theorem SO.po {e : Option Expr} {P : Cells → Option Int → Prop} (h : SO F X Γ c e P) : ∃ t, PO X e t ∧ ∀ (σ : L2.St) (H : Hp) (Q : Option Int → Hp → Prop), SI X.K F Γ c σ H → (∀ b H' c', P c' b → SI X.K F Γ c' σ H' → Ex (Vw F c H) (Vw F c' H') → Q b H') → t σ H Q := by
  cases e with
  | none => exact ⟨_, po_none, fun σ H Q S k => k none H c h S (Ex.refl _)⟩
  | some e =>
    refine ⟨_, po_some pE, fun σ H Q S k => ?_⟩
    refine (show SE F X Γ c e _ from h) σ H _ S fun v H1 c1 d p S1 k1 dv => ?_
    obtain ⟨i, rfl, p⟩ := p
    cases dv
    exact ⟨i, rfl, k (some i) H1 c1 p S1 k1⟩
def tOc (X : Cx) (e : Option Expr) : TO := fun σ H Q => ∃ t, PO X e t ∧ t σ H Q
theorem pOc {e : Option Expr} : PO X e (tOc X e) := ⟨fun pins s σ H Q I ⟨_, h, q⟩ => h.run pins s σ H Q I q⟩
theorem se_slice {e : Expr} {lo hi : Option Expr} {p2 : Pos} (h : SE F X Γ c e fun c1 d => SO F X Γ c1 lo fun c2 l => SO F X Γ c2 hi fun c3 u => SlV F X Γ c3 l u d P) : SE F X Γ c (.Subscript e (.Slice lo hi none p2) pos) P :=
  SE.of (pe_slice slR pE pOc pOc) fun σ H Q S k => by
    refine h σ H _ S fun v H1 c1 d hl S1 k1 dv1 => ?_
    obtain ⟨tl, pl, ql⟩ := hl.po
    refine ⟨tl, pl, ql σ H1 _ S1 fun l H2 c2 hu S2 k2 => ?_⟩
    obtain ⟨tu, pu, qu⟩ := hu.po
    refine ⟨tu, pu, qu σ H2 _ S2 fun u H3 c3 hr S3 k3 => ?_⟩
    obtain ⟨x, e1, q⟩ := hr σ H3 [v] Q S3 (.cons (dv1.mono (k2.trans k3)) .nil) fun w H4 c4 d4 p S4 k4 dv4 => k w H4 c4 d4 p S4 (((k1.trans k2).trans k3).trans k4) dv4
    cases e1
    exact q
end
end D
end
section
set_option Elab.async false
set_option linter.all false
set_option maxRecDepth 100000
namespace D
open PySem L2
section
variable {F : Fm} {X : Cx} {Γ : List Sl} {c : Cells} {P : Cells → Dt → Prop} {pos : Pos}
theorem OpV.of {f : Value → Value → Sem Value} {r : R2} {d1 d2 : Dt} (ho : OpR X f r) (h : ∀ (σ : L2.St) (H : Hp) (x y : V) (Q : VK), SI X.K F Γ c σ H → DV X.K (Vw F c H) x d1 → DV X.K (Vw F c H) y d2 →
    (∀ v H' c' d, P c' d → SI X.K F Γ c' σ H' → Ex (Vw F c H) (Vw F c' H') → DV X.K (Vw F c' H') v d → Q v H') → r x y H Q) : OpV F X Γ c f d1 d2 P := by
  refine .mk fun σ H vs Q S dv k => ?_
  cases dv with
  | cons h1 t => cases t with
    | cons h2 t =>
      cases t
      exact ⟨_, _, rfl, r, ho, h σ H _ _ Q S h1 h2 k⟩
theorem IxV.of {r : R2} {d1 d2 : Dt} (ho : IxR X r) (h : ∀ (σ : L2.St) (H : Hp) (x y : V) (Q : VK), SI X.K F Γ c σ H → DV X.K (Vw F c H) x d1 → DV X.K (Vw F c H) y d2 →
    (∀ v H' c' d, P c' d → SI X.K F Γ c' σ H' → Ex (Vw F c H) (Vw F c' H') → DV X.K (Vw F c' H') v d → Q v H') → r x y H Q) : IxV F X Γ c d1 d2 P := by
  refine .mk fun σ H vs Q S dv k => ?_
  cases dv with
  | cons h1 t => cases t with
    | cons h2 t =>
      cases t
      exact ⟨_, _, rfl, r, ho, h σ H _ _ Q S h1 h2 k⟩
theorem SlV.of {r : V → Option Int → Option Int → Hp → VK → Prop} {lo hi : Option Int} {d : Dt} (ho : SlR X r) (h : ∀ (σ : L2.St) (H : Hp) (x : V) (Q : VK), SI X.K F Γ c σ H → DV X.K (Vw F c H) x d →
    (∀ v H' c' d, P c' d → SI X.K F Γ c' σ H' → Ex (Vw F c H) (Vw F c' H') → DV X.K (Vw F c' H') v d → Q v H') → r x lo hi H Q) : SlV F X Γ c lo hi d P := by
  refine .mk fun σ H vs Q S dv k => ?_
  cases dv with
  | cons h1 t =>
    cases t
    exact ⟨_, rfl, r, ho, h σ H _ Q S h1 k⟩
theorem ClV.of {f : Value} {r : List V → Hp → VK → Prop} {ds : List Dt} (ho : CallR X f r) (h : ∀ (σ : L2.St) (H : Hp) (vs : List V) (Q : VK), SI X.K F Γ c σ H → DVs X.K (Vw F c H) vs ds →
    (∀ v H' c' d, P c' d → SI X.K F Γ c' σ H' → Ex (Vw F c H) (Vw F c' H') → DV X.K (Vw F c' H') v d → Q v H') → r vs H Q) : ClV F X Γ c f ds P :=
  .mk fun σ H vs Q S dv k => ⟨r, ho, h σ H vs Q S dv k⟩
/-- two ints to a flat value -/
theorem OpV.ints {f : Value → Value → Sem Value} {C : Int → Int → Prop} {g : Int → Int → V} {i j : Int} {d : Dt} (ho : OpR X f (rI C g)) (hc : C i j) (hd : ∀ H, DV X.K H (g i j) d) (p : P c d) : OpV F X Γ c f (.int i) (.int j) P :=
  OpV.of ho fun σ H x y Q S h1 h2 k => by cases h1; cases h2; exact ⟨i, j, rfl, rfl, hc, k _ H c d p S (Ex.refl _) (hd _)⟩
theorem OpV.ints0 {f : Value → Value → Sem Value} {g : Int → Int → V} {i j : Int} {d : Dt} (ho : OpR X f (rI0 g)) (hd : ∀ H, DV X.K H (g i j) d) (p : P c d) : OpV F X Γ c f (.int i) (.int j) P :=
  OpV.of ho fun σ H x y Q S h1 h2 k => by cases h1; cases h2; exact ⟨i, j, rfl, rfl, k _ H c d p S (Ex.refl _) (hd _)⟩
theorem ov_add {i j : Int} (p : P c (.int (i + j))) : OpV F X Γ c (binaryOp .Add) (.int i) (.int j) P := OpV.ints0 op_add (fun _ => .int _) p
theorem ov_sub {i j : Int} (p : P c (.int (i - j))) : OpV F X Γ c (binaryOp .Sub) (.int i) (.int j) P := OpV.ints0 op_sub (fun _ => .int _) p
theorem ov_mul {i j : Int} (hc : CMul i j) (p : P c (.int (i * j))) : OpV F X Γ c (binaryOp .Mult) (.int i) (.int j) P := OpV.ints op_mul hc (fun _ => .int _) p
theorem ov_mod {i j : Int} (hc : 0 < j) (p : P c (.int (i % j))) : OpV F X Γ c (binaryOp .Mod) (.int i) (.int j) P := OpV.ints op_mod hc (fun _ => .int _) p
theorem ov_div {i j : Int} (hc : CDiv i j) (p : P c (.int (i / j))) : OpV F X Γ c (binaryOp .FloorDiv) (.int i) (.int j) P := OpV.ints op_fdiv hc (fun _ => .int _) p
theorem ov_pow {i j : Int} (hc : CPow i j) (p : P c (.int (i ^ j.toNat))) : OpV F X Γ c (binaryOp .Pow) (.int i) (.int j) P := OpV.ints op_pow hc (fun _ => .int _) p
theorem ov_lt {i j : Int} (p : P c (.bl (decide (i < j)))) : OpV F X Γ c (compareOp .Lt) (.int i) (.int j) P := OpV.ints0 op_lt (fun _ => .bl _) p
theorem ov_le {i j : Int} (p : P c (.bl (decide (i ≤ j)))) : OpV F X Γ c (compareOp .LtE) (.int i) (.int j) P := OpV.ints0 op_le (fun _ => .bl _) p
theorem ov_gt {i j : Int} (p : P c (.bl (decide (j < i)))) : OpV F X Γ c (compareOp .Gt) (.int i) (.int j) P := OpV.ints0 op_gt (fun _ => .bl _) p
theorem ov_ge {i j : Int} (p : P c (.bl (decide (j ≤ i)))) : OpV F X Γ c (compareOp .GtE) (.int i) (.int j) P := OpV.ints0 op_ge (fun _ => .bl _) p
theorem ov_addS {i j : Str} (hz : i.length + j.length ≤ sizeLine) (p : P c (.str (i ++ j))) : OpV F X Γ c (binaryOp .Add) (.str i) (.str j) P :=
  OpV.of op_add_str fun σ H x y Q S h1 h2 k => by cases h1; cases h2; exact ⟨i, j, rfl, rfl, hz, k _ H c _ p S (Ex.refl _) (.str _)⟩
theorem ov_gtS {i j : Str} (p : P c (.bl (decide (j.cps.toList < i.cps.toList)))) : OpV F X Γ c (compareOp .Gt) (.str i) (.str j) P :=
  OpV.of op_gt_str fun σ H x y Q S h1 h2 k => by cases h1; cases h2; exact ⟨i, j, rfl, rfl, k _ H c _ p S (Ex.refl _) (.bl _)⟩
/-- equality of flat values -/
theorem ov_eqF {d1 d2 : Dt} {v1 v2 : V} (h1 : ∀ H v, DV X.K H v d1 → v = v1) (h2 : ∀ H v, DV X.K H v d2 → v = v2) (hs : scal v1 v2 = true) (p : P c (.bl (decide (v1 = v2)))) : OpV F X Γ c (compareOp .Eq) d1 d2 P :=
  OpV.of op_eq fun σ H x y Q S q1 q2 k => by rw [h1 _ _ q1, h2 _ _ q2]; exact ⟨hs, k _ H c _ p S (Ex.refl _) (.bl _)⟩
theorem ov_neF {d1 d2 : Dt} {v1 v2 : V} (h1 : ∀ H v, DV X.K H v d1 → v = v1) (h2 : ∀ H v, DV X.K H v d2 → v = v2) (hs : scal v1 v2 = true) (p : P c (.bl (!decide (v1 = v2)))) : OpV F X Γ c (compareOp .NotEq) d1 d2 P :=
  OpV.of op_ne fun σ H x y Q S q1 q2 k => by rw [h1 _ _ q1, h2 _ _ q2]; exact ⟨hs, k _ H c _ p S (Ex.refl _) (.bl _)⟩
theorem dv_int {K : PySem.W.Frag} {H : Hp} {v : V} {i : Int} (h : DV K H v (.int i)) : v = .int i := by cases h; rfl
theorem dv_str {K : PySem.W.Frag} {H : Hp} {v : V} {i : Str} (h : DV K H v (.str i)) : v = .str i := by cases h; rfl
theorem dv_bl {K : PySem.W.Frag} {H : Hp} {v : V} {i : Bool} (h : DV K H v (.bl i)) : v = .bl i := by cases h; rfl
theorem ov_eqI {i j : Int} (p : P c (.bl (decide (i = j)))) : OpV F X Γ c (compareOp .Eq) (.int i) (.int j) P :=
  ov_eqF (fun _ _ h => dv_int h) (fun _ _ h => dv_int h) rfl (by rw [show decide (V.int i = V.int j) = decide (i = j) by rw [Bool.eq_iff_iff]; simp]; exact p)
theorem ov_neI {i j : Int} (p : P c (.bl (!decide (i = j)))) : OpV F X Γ c (compareOp .NotEq) (.int i) (.int j) P :=
  ov_neF (fun _ _ h => dv_int h) (fun _ _ h => dv_int h) rfl (by rw [show decide (V.int i = V.int j) = decide (i = j) by rw [Bool.eq_iff_iff]; simp]; exact p)
theorem ov_eqS {i j : Str} (p : P c (.bl (decide (i = j)))) : OpV F X Γ c (compareOp .Eq) (.str i) (.str j) P :=
  ov_eqF (fun _ _ h => dv_str h) (fun _ _ h => dv_str h) rfl (by rw [show decide (V.str i = V.str j) = decide (i = j) by rw [Bool.eq_iff_iff]; simp]; exact p)
theorem ov_neS {i j : Str} (p : P c (.bl (!decide (i = j)))) : OpV F X Γ c (compareOp .NotEq) (.str i) (.str j) P :=
  ov_neF (fun _ _ h => dv_str h) (fun _ _ h => dv_str h) rfl (by rw [show decide (V.str i = V.str j) = decide (i = j) by rw [Bool.eq_iff_iff]; simp]; exact p)
structure Fit (n : Nat) (d : Dt) : Prop where
  pl : plain d = true
  lay : (py d).canLay0 = true
  dp : (py d).depth ≤ n
theorem Fit.mono {n m : Nat} {d : Dt} (h : Fit n d) (l : n ≤ m) : Fit m d := ⟨h.pl, h.lay, Nat.le_trans h.dp l⟩
theorem fit_int {n : Nat} {b : Int} : Fit n (.int b) := ⟨rfl, rfl, Nat.zero_le _⟩
theorem fit_str {n : Nat} {b : Str} (h : PyData.strOk b = true) : Fit n (.str b) := ⟨rfl, h, Nat.zero_le _⟩
theorem fits_all {n : Nat} : ∀ {l : List Dt}, (∀ x ∈ l, Fit n x) → plains l = true ∧ PyData.canLayAll0 (pys l) = true ∧ PyData.depthAll (pys l) ≤ n
  | [], _ => ⟨rfl, rfl, Nat.zero_le _⟩
  | d :: l, h => by
    obtain ⟨h1, h2, h3⟩ := fits_all (l := l) fun x hx => h x (List.mem_cons_of_mem _ hx)
    have q := h d (List.mem_cons_self ..)
    exact ⟨by rw [plains, q.pl, h1]; rfl, by rw [pys, PyData.canLayAll0, q.lay, h2]; rfl, by rw [pys, PyData.depthAll]; exact Nat.max_le.mpr ⟨q.dp, h3⟩⟩
theorem fit_lst {n : Nat} {l : List Dt} (h : ∀ x ∈ l, Fit n x) : Fit (n + 1) (.lst l) := by
  obtain ⟨h1, h2, h3⟩ := fits_all h
  exact ⟨h1, h2, Nat.succ_le_succ h3⟩
theorem Fit.shaped {d : Dt} (h : Fit 64 d) : SeqAt.shaped (py d) = true := by
  unfold SeqAt.shaped
  rw [h.lay, decide_eq_true h.dp]
  rfl
def eqd (a b : Dt) : Bool := PyData.eqv (py a) (py b)
theorem ov_neD {d1 d2 : Dt} (hu : X.A.units + 64 < cLine) (f1 : Fit 64 d1) (f2 : Fit 64 d2) (p : P c (.bl (!eqd d1 d2))) : OpV F X Γ c (compareOp .NotEq) d1 d2 P :=
  OpV.of (op_neD hu) fun σ H x y Q S h1 h2 k => ⟨py d1, py d2, (h1.mono (mask_ex _ _)).dp f1.pl, (h2.mono (mask_ex _ _)).dp f2.pl, f1.shaped, f2.shaped, k _ H c _ p S (Ex.refl _) (.bl _)⟩
theorem ov_inSign {a : Nat} {z : Str} (p : P c (.bl (decide (a ∈ z.cps.toList)))) : OpV F X Γ c (compareOp .In) (.str ⟨#[a]⟩) (.str z) P :=
  OpV.of op_in_sign fun σ H x y Q S h1 h2 k => by cases h1; cases h2; exact ⟨a, z, rfl, rfl, k _ H c _ p S (Ex.refl _) (.bl _)⟩
def flatD : Dt → Bool
  | .non => true | .bl _ => true | .int _ => true | .str _ => true | _ => false
def flatOf : Dt → V
  | .bl b => .bl b | .int i => .int i | .str s => .str s | _ => .non
theorem dv_flat {K : PySem.W.Frag} {H : Hp} {v : V} {d : Dt} (h : DV K H v d) (f : flatD d = true) : v = flatOf d := by cases h <;> first | rfl | cases f
theorem dvs_flat {K : PySem.W.Frag} {H : Hp} : ∀ {vs : List V} {ds : List Dt}, DVs K H vs ds → ds.all flatD = true → vs = ds.map flatOf
  | _, _, .nil, _ => rfl
  | _, _, .cons h t, f => by
    simp only [List.all_cons, Bool.and_eq_true] at f
    rw [dv_flat h f.1, dvs_flat t f.2]; rfl
theorem flat_flatOf {d : Dt} : flatV (flatOf d) = true := by cases d <;> rfl
theorem flats_flatOf {ds : List Dt} : (ds.map flatOf).all flatV = true := by rw [List.all_eq_true]; intro x hx; obtain ⟨d, _, rfl⟩ := List.mem_map.mp hx; exact flat_flatOf
def seqD : Dt → Option (List Dt)
  | .lst l => some l
  | .tup l => some l
  | _ => none
theorem dv_seq {K : PySem.W.Frag} {H : Hp} {v : V} {d : Dt} {l : List Dt} (h : DV K H v d) (e : seqD d = some l) : ∃ a xs, v = .ref a ∧ (SqL K H a xs ∨ SqT K H a xs) ∧ DVs K H xs l := by
  cases h with
  | lst h t => cases e; exact ⟨_, _, rfl, .inl (.inl (.inl h)), t⟩
  | tup h t => cases e; exact ⟨_, _, rfl, .inr h.t, t⟩
  | _ => cases e
def inD (d : Dt) (l : List Dt) : Bool := inV (flatOf d) (l.map flatOf)
theorem ov_in {d s : Dt} {l : List Dt} (hs : seqD s = some l) (f1 : flatD d = true) (f2 : l.all flatD = true) (p : P c (.bl (inD d l))) : OpV F X Γ c (compareOp .In) d s P :=
  OpV.of op_in_seq fun σ H x y Q S h1 h2 k => by
    obtain ⟨a, xs, rfl, hq, dv⟩ := dv_seq (h2.mono (mask_ex _ _)) hs
    rw [dv_flat h1 f1]
    have e := dvs_flat dv f2
    subst e
    exact ⟨a, _, rfl, hq, flat_flatOf, flats_flatOf, k _ H c _ p S (Ex.refl _) (.bl _)⟩
theorem ov_notIn {d s : Dt} {l : List Dt} (hs : seqD s = some l) (f1 : flatD d = true) (f2 : l.all flatD = true) (p : P c (.bl (!inD d l))) : OpV F X Γ c (compareOp .NotIn) d s P :=
  OpV.of op_notIn_seq fun σ H x y Q S h1 h2 k => by
    obtain ⟨a, xs, rfl, hq, dv⟩ := dv_seq (h2.mono (mask_ex _ _)) hs
    rw [dv_flat h1 f1]
    have e := dvs_flat dv f2
    subst e
    exact ⟨a, _, rfl, hq, flat_flatOf, flats_flatOf, k _ H c _ p S (Ex.refl _) (.bl _)⟩
def isNon : Dt → Bool
  | .non => true
  | _ => false
theorem dv_isNon {K : PySem.W.Frag} {H : Hp} {v : V} {d : Dt} (h : DV K H v d) (nr : ∀ v, d ≠ .raw v) : decide (v = V.non) = isNon d := by
  cases h <;> first | rfl | exact absurd rfl (nr _)
theorem ov_isN {d : Dt} (nr : ∀ v, d ≠ .raw v) (p : P c (.bl (isNon d))) : OpV F X Γ c (compareOp .Is) d .non P :=
  OpV.of op_isN fun σ H x y Q S h1 h2 k => by cases h2; exact ⟨rfl, k _ H c _ (by rw [← dv_isNon h1 nr] at p; exact p) S (Ex.refl _) (.bl _)⟩
theorem ov_cat {l m : List Dt} (hz : l.length + m.length ≤ sizeLine) (p : P c (.lst (l ++ m))) : OpV F X Γ c (binaryOp .Add) (.lst l) (.lst m) P :=
  OpV.of op_cat fun σ H x y Q S h1 h2 k => by
    cases h1 with
    | lst a1 t1 => cases h2 with
      | lst a2 t2 => exact ⟨_, _, _, _, rfl, rfl, (of_mask a1).2, (of_mask a2).2, by rw [t1.length, t2.length]; exact hz, fun q hq => k _ _ c _ p (S.new hq) (Kp.new (F := F) hq).hid (S.newL hq (t1.append t2))⟩
theorem ov_catT {l m : List Dt} (hz : l.length + m.length ≤ sizeLine) (p : P c (.tup (l ++ m))) : OpV F X Γ c (binaryOp .Add) (.tup l) (.tup m) P :=
  OpV.of op_catF fun σ H x y Q S h1 h2 k => by
    cases h1 with
    | tup a1 t1 => cases h2 with
      | tup a2 t2 =>
        refine ⟨_, _, _, _, rfl, rfl, (a1.mono (mask_ex _ _)).t, (a2.mono (mask_ex _ _)).t, by rw [t1.length, t2.length]; exact hz, fun e => ?_, fun e1 e2 => ?_, fun e1 e2 q o hq ho => k _ _ c _ p (S.new hq) (Kp.new (F := F) hq).hid (S.newT hq ho (t1.append t2))⟩
        · subst e
          cases t1
          exact k _ H c _ p S (Ex.refl _) (.tup a2 t2)
        · subst e2
          cases t2
          rw [List.append_nil] at p
          exact k _ H c _ p S (Ex.refl _) (.tup a1 t1)
theorem atI_dvs {K : PySem.W.Frag} {H : Hp} {xs : List V} {l : List Dt} {i : Int} {d : Dt} (t : DVs K H xs l) (h : atI l i = some d) : ∃ v, atI xs i = some v ∧ DV K H v d := by
  unfold atI at h ⊢
  rw [t.length]
  cases e : ixN l.length i with
  | none => rw [e] at h; cases h
  | some j =>
    rw [e] at h
    exact t.get h
theorem iv_lst {l : List Dt} {i : Int} {d : Dt} (h : atI l i = some d) (p : P c d) : IxV F X Γ c (.lst l) (.int i) P :=
  IxV.of ix_list fun σ H x y Q S h1 h2 k => by
    cases h1 with
    | lst a t =>
      cases h2
      obtain ⟨v, e, dv⟩ := atI_dvs t h
      exact ⟨_, _, i, v, rfl, rfl, .inl (.inl (of_mask a).2), e, k v H c d p S (Ex.refl _) dv⟩
theorem iv_tup {l : List Dt} {i : Int} {d : Dt} (h : atI l i = some d) (p : P c d) : IxV F X Γ c (.tup l) (.int i) P :=
  IxV.of ix_tup fun σ H x y Q S h1 h2 k => by
    cases h1 with
    | tup a t =>
      cases h2
      obtain ⟨v, e, dv⟩ := atI_dvs t h
      exact ⟨_, _, i, v, rfl, rfl, (a.mono (mask_ex _ _)).t, e, k v H c d p S (Ex.refl _) dv⟩
theorem iv_str {z : Str} {i : Int} {a : Nat} (hz : z.length ≤ sizeLine) (h : atI z.cps.toList i = some a) (p : P c (.str ⟨#[a]⟩)) : IxV F X Γ c (.str z) (.int i) P :=
  IxV.of ix_str fun σ H x y Q S h1 h2 k => by cases h1; cases h2; exact ⟨z, i, a, rfl, rfl, hz, h, k _ H c _ p S (Ex.refl _) (.str _)⟩
def cutD {α : Type} (xs : List α) (lo hi : Option Int) : List α := (xs.drop (HT.sIx xs.length 0 lo)).take (HT.sIx xs.length xs.length hi - HT.sIx xs.length 0 lo)
theorem cut_dvs {K : PySem.W.Frag} {H : Hp} {xs : List V} {l : List Dt} (t : DVs K H xs l) (lo hi : Option Int) : DVs K H (cutV xs lo hi) (cutD l lo hi) := by
  unfold cutV cutD
  rw [t.length]
  exact (t.drop _).take _
theorem sv_lst {l : List Dt} {lo hi : Option Int} (p : P c (.lst (cutD l lo hi))) : SlV F X Γ c lo hi (.lst l) P :=
  SlV.of sl_list fun σ H x Q S h1 k => by
    cases h1 with
    | lst a t => exact ⟨_, _, rfl, .inl (.inl (of_mask a).2), fun q hq => k _ _ c _ p (S.new hq) (Kp.new (F := F) hq).hid (S.newL hq (cut_dvs t lo hi))⟩
theorem cutD_whole {α : Type} {xs : List α} {lo hi : Option Int} (h : HT.sIx xs.length 0 lo = 0 ∧ HT.sIx xs.length xs.length hi = xs.length) : cutD xs lo hi = xs := by
  unfold cutD
  rw [h.1, h.2, List.drop_zero, Nat.sub_zero, List.take_length]
theorem sv_tup {l : List Dt} {lo hi : Option Int} (p : P c (.tup (cutD l lo hi))) : SlV F X Γ c lo hi (.tup l) P :=
  SlV.of sl_tupF fun σ H x Q S h1 k => by
    cases h1 with
    | tup a t =>
      refine ⟨_, _, rfl, (a.mono (mask_ex _ _)).t, fun hw => ?_, fun hw q o hq ho => k _ _ c _ p (S.new hq) (Kp.new (F := F) hq).hid (S.newT hq ho (cut_dvs t lo hi))⟩
      rw [t.length] at hw
      rw [cutD_whole hw] at p
      exact k _ H c _ p S (Ex.refl _) (.tup a t)
theorem sv_str {z : Str} {lo hi : Option Int} (hz : z.length ≤ sizeLine) (p : P c (.str (cutS z lo hi))) : SlV F X Γ c lo hi (.str z) P :=
  SlV.of sl_str fun σ H x Q S h1 k => by cases h1; exact ⟨z, rfl, hz, k _ H c _ p S (Ex.refl _) (.str _)⟩
theorem cv_len {d : Dt} {l : List Dt} (hs : seqD d = some l) (p : P c (.int l.length)) : ClV F X Γ c (.builtin "len") [d] P :=
  ClV.of call_len_seq fun σ H vs Q S dv k => by
    cases dv with
    | cons h1 t =>
      cases t
      obtain ⟨a, xs, rfl, hq, dv⟩ := dv_seq (h1.mono (mask_ex _ _)) hs
      exact ⟨a, xs, rfl, hq, by rw [dv.length]; exact k _ H c _ p S (Ex.refl _) (.int _)⟩
theorem cv_lenF {l : List Dt} (p : P c (.int l.length)) : ClV F X Γ c (.builtin "len") [.fzl l] P :=
  ClV.of call_len_seq fun σ H vs Q S dv k => by
    cases dv with
    | cons h1 t =>
      cases t
      cases h1 with
      | fzl a t => exact ⟨_, _, rfl, .inl (ex_l (mask_ex _ _) a), by rw [t.length]; exact k _ H c _ p S (Ex.refl _) (.int _)⟩
theorem iv_fzl {l : List Dt} {i : Int} {d : Dt} (h : atI l i = some d) (p : P c d) : IxV F X Γ c (.fzl l) (.int i) P :=
  IxV.of ix_list fun σ H x y Q S h1 h2 k => by
    cases h1 with
    | fzl a t =>
      cases h2
      obtain ⟨v, e, dv⟩ := atI_dvs t h
      exact ⟨_, _, i, v, rfl, rfl, ex_l (mask_ex _ _) a, e, k v H c d p S (Ex.refl _) dv⟩
theorem cv_lenS {z : Str} (hz : z.length ≤ sizeLine) (p : P c (.int z.length)) : ClV F X Γ c (.builtin "len") [.str z] P :=
  ClV.of call_len_str fun σ H vs Q S dv k => by
    cases dv with
    | cons h1 t => cases t; cases h1; exact ⟨z, rfl, hz, k _ H c _ p S (Ex.refl _) (.int _)⟩
theorem cv_all {bs : List Bool} (hc : X.calm = true) (p : P c (.bl (bs.all id))) : ClV F X Γ c (.builtin "all") [.lst (bs.map Dt.bl)] P :=
  ClV.of (cr_all hc) fun σ H vs Q S dv k => by
    cases dv with
    | cons h1 t =>
      cases t
      cases h1 with
      | lst a t =>
        have e := t.of_bls
        subst e
        exact ⟨_, bs, rfl, .inl (.inl (of_mask a).2), k _ H c _ p S (Ex.refl _) (.bl _)⟩
theorem cv_any {bs : List Bool} (hc : X.calm = true) (p : P c (.bl (bs.any id))) : ClV F X Γ c (.builtin "any") [.lst (bs.map Dt.bl)] P :=
  ClV.of (cr_any hc) fun σ H vs Q S dv k => by
    cases dv with
    | cons h1 t =>
      cases t
      cases h1 with
      | lst a t =>
        have e := t.of_bls
        subst e
        exact ⟨_, bs, rfl, .inl (.inl (of_mask a).2), k _ H c _ p S (Ex.refl _) (.bl _)⟩
theorem cv_max2 {i j : Int} (hc : X.calm = true) (p : P c (.int (if j > i then j else i))) : ClV F X Γ c (.builtin "max") [.int i, .int j] P :=
  ClV.of (call_max2 hc) fun σ H vs Q S dv k => by
    cases dv with
    | cons h1 t => cases t with | cons h2 t => cases t; cases h1; cases h2; exact ⟨i, j, rfl, k _ H c _ p S (Ex.refl _) (.int _)⟩
theorem cv_min2 {i j : Int} (hc : X.calm = true) (p : P c (.int (if j < i then j else i))) : ClV F X Γ c (.builtin "min") [.int i, .int j] P :=
  ClV.of (call_min2 hc) fun σ H vs Q S dv k => by
    cases dv with
    | cons h1 t => cases t with | cons h2 t => cases t; cases h1; cases h2; exact ⟨i, j, rfl, k _ H c _ p S (Ex.refl _) (.int _)⟩
theorem cv_abs {i : Int} (p : P c (.int (if i < 0 then -i else i))) : ClV F X Γ c (.builtin "abs") [.int i] P :=
  ClV.of call_abs fun σ H vs Q S dv k => by
    cases dv with
    | cons h1 t => cases t; cases h1; exact ⟨i, rfl, k _ H c _ p S (Ex.refl _) (.int _)⟩
theorem cv_tuple {d : Dt} {l : List Dt} (hs : seqD d = some l) (p : P c (.tup l)) : ClV F X Γ c (.type "tuple") [d] P :=
  ClV.of call_tupleF fun σ H vs Q S dv k => by
    cases dv with
    | cons h1 t =>
      cases t
      cases h1 with
      | lst a t => cases hs; exact ⟨_, _, rfl, .inl ⟨.inl (.inl (of_mask a).2), fun q o hq ho => k _ _ c _ p (S.new hq) (Kp.new (F := F) hq).hid (S.newT hq ho t)⟩⟩
      | tup a t => cases hs; exact ⟨_, _, rfl, .inr ⟨(a.mono (mask_ex _ _)).t, k _ H c _ p S (Ex.refl _) (.tup a t)⟩⟩
      | _ => cases hs
theorem cv_list {d : Dt} {l : List Dt} (hs : seqD d = some l) (p : P c (.lst l)) : ClV F X Γ c (.type "list") [d] P :=
  ClV.of call_list_of fun σ H vs Q S dv k => by
    cases dv with
    | cons h1 t =>
      cases t
      cases h1 with
      | lst a t => cases hs; exact ⟨_, _, rfl, .inl (.inl (.inl (of_mask a).2)), fun q hq => k _ _ c _ p (S.new hq) (Kp.new (F := F) hq).hid (S.newL hq t)⟩
      | tup a t => cases hs; exact ⟨_, _, rfl, .inr (a.mono (mask_ex _ _)).t, fun q hq => k _ _ c _ p (S.new hq) (Kp.new (F := F) hq).hid (S.newL hq t)⟩
      | _ => cases hs
def tyD : Dt → String
  | .non => "NoneType" | .bl _ => "bool" | .int _ => "int" | .str _ => "str" | .lst _ => "list" | .tup _ => "tuple" | .par _ => "tuple" | .dct _ => "dict" | .dcu _ => "" | .fzl _ => "list" | .exc _ _ _ => "" | .obj _ => "" | .raw _ => ""
def noRaw : Dt → Bool
  | .dcu _ => false
  | .exc _ _ _ => false
  | .obj _ => false
  | .raw _ => false
  | _ => true
theorem dv_ty {K : PySem.W.Frag} {H : Hp} {v : V} {d : Dt} (h : DV K H v d) (nr : noRaw d = true) : TyX K H v (.type (tyD d)) := by
  cases h with
  | non => exact .base .non
  | bl b => exact .base (.bl b)
  | int b => exact .base (.int b)
  | str b => exact .base (.str b)
  | lst h t => exact .base (.lst h)
  | tup h t =>
    rcases h.t with (h | ⟨o, h⟩) | ⟨o, its, n, h1, h2, _⟩
    · exact .base (.tup h)
    · exact .fTuple h
    · exact .kTuple h1 h2
  | par h t => exact .base (.tup h)
  | dct h t => exact .fDict h
  | dcu h t => cases nr
  | fzl h t =>
    rcases h with (h | ⟨o, h⟩) | ⟨o, its, n, h1, h2, _⟩
    · exact .base (.lst h)
    · exact .base (.frz h)
    · exact .kList h1 h2
  | exc h t => cases nr
  | obj h => cases nr
  | raw v => cases nr
theorem cv_isi {d : Dt} {T : String} {b : Bool} (nr : noRaw d = true) (hk : kitB (tyD d) T = some b) (p : P c (.bl b)) : ClV F X Γ c (.builtin "isinstance") [d, .raw (.ty T)] P :=
  ClV.of call_isi fun σ H vs Q S dv k => by
    cases dv with
    | cons h1 t => cases t with
      | cons h2 t =>
        cases t
        cases h2
        exact ⟨_, _, _, _, b, rfl, .ty T, dv_ty (h1.mono (mask_ex _ _)) nr, kit_ty hk, k _ H c _ p S (Ex.refl _) (.bl _)⟩
/-- a built-in class by its name -/
theorem se_ty {x : Str} {T : String} (hm : X.mg x = none) (p : P c (.raw (.ty T))) (hv : bootBuiltins x = some (.type T) := by decide +kernel) (hg : Gl X x := by rfl) (hn : x ≠ "__name__" := by decide) (hdb : (x == ("__debug__" : Str)) = false := by decide) : SE F X Γ c (.Name x pos) P :=
  SE.here (pe_bltn (v := .ty T) hg hm hv rfl hn hdb) (fun _ => .raw _) p
def isStrD : Dt → Bool
  | .str _ => true
  | _ => false
def isTupD : Dt → Bool
  | .tup _ => true
  | .par _ => true
  | _ => false
theorem cv_isStr {d : Dt} (nr : noRaw d = true) (p : P c (.bl (isStrD d))) : ClV F X Γ c (.builtin "isinstance") [d, .raw (.ty "str")] P :=
  cv_isi nr (b := isStrD d) (by
    cases d with
    | non => exact (by decide +kernel : kitB "NoneType" "str" = some false)
    | bl _ => exact (by decide +kernel : kitB "bool" "str" = some false)
    | int _ => exact (by decide +kernel : kitB "int" "str" = some false)
    | str _ => exact (by decide +kernel : kitB "str" "str" = some true)
    | lst _ => exact (by decide +kernel : kitB "list" "str" = some false)
    | tup _ => exact (by decide +kernel : kitB "tuple" "str" = some false)
    | par _ => exact (by decide +kernel : kitB "tuple" "str" = some false)
    | dct _ => exact (by decide +kernel : kitB "dict" "str" = some false)
    | dcu _ => cases nr
    | fzl _ => exact (by decide +kernel : kitB "list" "str" = some false)
    | exc _ _ _ => cases nr
    | obj _ => cases nr
    | raw _ => cases nr) p
theorem cv_isTup {d : Dt} (nr : noRaw d = true) (p : P c (.bl (isTupD d))) : ClV F X Γ c (.builtin "isinstance") [d, .raw (.ty "tuple")] P :=
  cv_isi nr (b := isTupD d) (by
    cases d with
    | non => exact (by decide +kernel : kitB "NoneType" "tuple" = some false)
    | bl _ => exact (by decide +kernel : kitB "bool" "tuple" = some false)
    | int _ => exact (by decide +kernel : kitB "int" "tuple" = some false)
    | str _ => exact (by decide +kernel : kitB "str" "tuple" = some false)
    | lst _ => exact (by decide +kernel : kitB "list" "tuple" = some false)
    | tup _ => exact (by decide +kernel : kitB "tuple" "tuple" = some true)
    | par _ => exact (by decide +kernel : kitB "tuple" "tuple" = some true)
    | dct _ => exact (by decide +kernel : kitB "dict" "tuple" = some false)
    | dcu _ => cases nr
    | fzl _ => exact (by decide +kernel : kitB "list" "tuple" = some false)
    | exc _ _ _ => cases nr
    | obj _ => cases nr
    | raw _ => cases nr) p
def isIntD : Dt → Bool
  | .int _ => true
  | .bl _ => true
  | _ => false
def isBoolD : Dt → Bool
  | .bl _ => true
  | _ => false
theorem cv_isInt {d : Dt} (nr : noRaw d = true) (p : P c (.bl (isIntD d))) : ClV F X Γ c (.builtin "isinstance") [d, .raw (.ty "int")] P :=
  cv_isi nr (b := isIntD d) (by
    cases d with
    | non => exact (by decide +kernel : kitB "NoneType" "int" = some false)
    | bl _ => exact (by decide +kernel : kitB "bool" "int" = some true)
    | int _ => exact (by decide +kernel : kitB "int" "int" = some true)
    | str _ => exact (by decide +kernel : kitB "str" "int" = some false)
    | lst _ => exact (by decide +kernel : kitB "list" "int" = some false)
    | tup _ => exact (by decide +kernel : kitB "tuple" "int" = some false)
    | par _ => exact (by decide +kernel : kitB "tuple" "int" = some false)
    | dct _ => exact (by decide +kernel : kitB "dict" "int" = some false)
    | dcu _ => cases nr
    | fzl _ => exact (by decide +kernel : kitB "list" "int" = some false)
    | exc _ _ _ => cases nr
    | obj _ => cases nr
    | raw _ => cases nr) p
theorem cv_isBool {d : Dt} (nr : noRaw d = true) (p : P c (.bl (isBoolD d))) : ClV F X Γ c (.builtin "isinstance") [d, .raw (.ty "bool")] P :=
  cv_isi nr (b := isBoolD d) (by
    cases d with
    | non => exact (by decide +kernel : kitB "NoneType" "bool" = some false)
    | bl _ => exact (by decide +kernel : kitB "bool" "bool" = some true)
    | int _ => exact (by decide +kernel : kitB "int" "bool" = some false)
    | str _ => exact (by decide +kernel : kitB "str" "bool" = some false)
    | lst _ => exact (by decide +kernel : kitB "list" "bool" = some false)
    | tup _ => exact (by decide +kernel : kitB "tuple" "bool" = some false)
    | par _ => exact (by decide +kernel : kitB "tuple" "bool" = some false)
    | dct _ => exact (by decide +kernel : kitB "dict" "bool" = some false)
    | dcu _ => cases nr
    | fzl _ => exact (by decide +kernel : kitB "list" "bool" = some false)
    | exc _ _ _ => cases nr
    | obj _ => cases nr
    | raw _ => cases nr) p
theorem se_join {o e : Expr} {apos : Pos} (h : SE F X Γ c o fun c1 d => ∃ a, d = .str a ∧ SE F X Γ c1 e fun c2 d2 => ∃ ys : List Str, seqD d2 = some (ys.map Dt.str) ∧ (ys.map (·.length)).sum + ys.length * a.length ≤ 16777216 ∧ P c2 (.str (Txt.join a ys)))
    (hs : starEach [e] X.env = [(false, eval e X.env)] := by rfl) (hb : attributeBase o "join" X.env (eval o X.env) = eval o X.env := by rfl) (hl : (apos.endLine == pos.line) = true := by rfl) : SE F X Γ c (.Call (.Attribute o "join" apos) [e] [] pos) P :=
  SE.of (pe_join pE pE hs hb hl) fun σ H Q S k => by
    refine h σ H _ S fun v H1 c1 d1 p S1 k1 dv1 => ?_
    obtain ⟨a, rfl, p⟩ := p
    cases dv1
    refine ⟨⟨a, rfl⟩, p σ H1 _ S1 fun w H2 c2 d2 p2 S2 k2 dv2 => ?_⟩
    obtain ⟨ys, e, hz, p2⟩ := p2
    obtain ⟨q, xs, rfl, hq, dv⟩ := dv_seq (dv2.mono (mask_ex _ _)) e
    have e2 := dv.of_strs
    subst e2
    exact ⟨a, q, ys, rfl, rfl, hq, hz, k _ H2 c2 _ p2 S2 (k1.trans k2) (.str _)⟩
end
end D
end
section
set_option Elab.async false
set_option linter.all false
set_option maxRecDepth 100000
namespace D
open PySem L2
structure PEnds where
  nx : List Sl → Cells → Prop
  rt : List Sl → Cells → Dt → Prop
  bk : List Sl → Cells → Prop := fun _ _ => False
  ct : List Sl → Cells → Prop := fun _ _ => False
structure EO (K : PySem.W.Frag) (F : Fm) (c : Cells) (H : Hp) (Φ : PEnds) (D : Ends) : Prop where
  nx : ∀ Γ' c' σ' H', Φ.nx Γ' c' → SI K F Γ' c' σ' H' → Ex (Vw F c H) (Vw F c' H') → D.nx σ' H'
  rt : ∀ Γ' c' σ' H' v d, Φ.rt Γ' c' d → SI K F Γ' c' σ' H' → Ex (Vw F c H) (Vw F c' H') → DV K (Vw F c' H') v d → D.rt v H'
  bk : ∀ Γ' c' σ' H', Φ.bk Γ' c' → SI K F Γ' c' σ' H' → Ex (Vw F c H) (Vw F c' H') → D.bk σ' H'
  ct : ∀ Γ' c' σ' H', Φ.ct Γ' c' → SI K F Γ' c' σ' H' → Ex (Vw F c H) (Vw F c' H') → D.ct σ' H'
theorem EO.ext {K : PySem.W.Frag} {F : Fm} {c c1 : Cells} {H H1 : Hp} {Φ : PEnds} {D : Ends} (E : EO K F c H Φ D) (e : Ex (Vw F c H) (Vw F c1 H1)) : EO K F c1 H1 Φ D :=
  ⟨fun Γ' c' σ' H' p S k => E.nx Γ' c' σ' H' p S (e.trans k), fun Γ' c' σ' H' v d p S k => E.rt Γ' c' σ' H' v d p S (e.trans k), fun Γ' c' σ' H' p S k => E.bk Γ' c' σ' H' p S (e.trans k), fun Γ' c' σ' H' p S k => E.ct Γ' c' σ' H' p S (e.trans k)⟩
structure SS (F : Fm) (X : Cx) (Γ : List Sl) (c : Cells) (ss : List Stmt) (Φ : PEnds) : Prop where
  run : ∀ (σ : L2.St) (H : Hp) (D : Ends), SI X.K F Γ c σ H → EO X.K F c H Φ D → tSts X ss D σ H
instance {F : Fm} {X : Cx} {Γ : List Sl} {c : Cells} {ss : List Stmt} {Φ : PEnds} : CoeFun (SS F X Γ c ss Φ) fun _ => ∀ (σ : L2.St) (H : Hp) (D : Ends), SI X.K F Γ c σ H → EO X.K F c H Φ D → tSts X ss D σ H := ⟨SS.run⟩
structure S1 (F : Fm) (X : Cx) (Γ : List Sl) (c : Cells) (st : Stmt) (Φ : PEnds) : Prop where
  run : ∀ (σ : L2.St) (H : Hp) (D : Ends), SI X.K F Γ c σ H → EO X.K F c H Φ D → tSt X st D σ H
instance {F : Fm} {X : Cx} {Γ : List Sl} {c : Cells} {st : Stmt} {Φ : PEnds} : CoeFun (S1 F X Γ c st Φ) fun _ => ∀ (σ : L2.St) (H : Hp) (D : Ends), SI X.K F Γ c σ H → EO X.K F c H Φ D → tSt X st D σ H := ⟨S1.run⟩
end D
end
section
set_option Elab.async false
set_option linter.all false
set_option maxRecDepth 100000
namespace D
open PySem L2
section
variable {F : Fm} {X : Cx} {Γ : List Sl} {c : Cells} {Φ : PEnds} {pos : Pos}
theorem ss_nil (p : Φ.nx Γ c) : SS F X Γ c [] Φ := .mk fun σ H D S E => tSts_of pss_nil (E.nx Γ c σ H p S (Ex.refl _))
theorem ss_cons {s : Stmt} {rest : List Stmt} (h : S1 F X Γ c s { Φ with nx := fun Γ1 c1 => SS F X Γ1 c1 rest Φ }) : SS F X Γ c (s :: rest) Φ := .mk fun σ H D S E =>
  tSts_of (pss_cons pSt pSts) (h σ H { D with nx := tSts X rest D } S ⟨fun Γ1 c1 σ1 H1 q S1 e => q σ1 H1 D S1 (E.ext e), E.rt, E.bk, E.ct⟩)
theorem ss_one {s : Stmt} (h : S1 F X Γ c s Φ) : SS F X Γ c [s] Φ := .mk fun σ H D S E => tSts_of (pss_one pSt) (h σ H D S E)
theorem S1.of {s : Stmt} {t : TS} (hp : PS X s t) (h : ∀ (σ : L2.St) (H : Hp) (D : Ends), SI X.K F Γ c σ H → EO X.K F c H Φ D → t D σ H) : S1 F X Γ c s Φ := .mk fun σ H D S E => tSt_of hp (h σ H D S E)
theorem s_ret {e : Expr} (h : SE F X Γ c e (Φ.rt Γ)) : S1 F X Γ c (.Return (some e) pos) Φ :=
  S1.of (ps_ret pE) fun σ H D S E => h σ H _ S fun v H' c' d p S' e' dv => E.rt Γ c' σ H' v d p S' e' dv
theorem s_if {t : Expr} {a b : List Stmt} (h : ST F X Γ c t fun c1 k => if k = true then SS F X Γ c1 a Φ else SS F X Γ c1 b Φ) : S1 F X Γ c (.If t a b pos) Φ :=
  S1.of (ps_if pT pSts pSts) fun σ H D S E => h σ H _ S fun k H1 c1 p S1 e => by
    cases k with
    | true => exact (show SS F X Γ c1 a Φ from p) σ H1 D S1 (E.ext e)
    | false => exact (show SS F X Γ c1 b Φ from p) σ H1 D S1 (E.ext e)
theorem s_expr {e : Expr} (h : SE F X Γ c e fun c1 _ => Φ.nx Γ c1) (hs : swapsWith e none pos.line X.env = pure false := by rfl) : S1 F X Γ c (.Expr e pos) Φ :=
  S1.of (ps_expr pE hs) fun σ H D S E => h σ H _ S fun v H' c' d p S' e' dv => E.nx Γ c' σ H' p S' e'
def tGt (X : Cx) (tg : Expr) : TG := fun v σ H Q => ∃ g, PG X tg g ∧ g v σ H Q
theorem pGt {tg : Expr} : PG X tg (tGt X tg) := ⟨fun pins s σ H v u Q I r ⟨g, h, q⟩ => h.run pins s σ H v u Q I r q⟩
def tGts (X : Cx) (tgs : List Expr) : TGs := fun vs σ H Q => ∃ g, PGs X tgs g ∧ g vs σ H Q
theorem pGts {tgs : List Expr} : PGs X tgs (tGts X tgs) := ⟨fun pins s σ H v u Q I r ⟨g, h, q⟩ => h.run pins s σ H v u Q I r q⟩
structure SG (F : Fm) (X : Cx) (Γ : List Sl) (c : Cells) (tg : Expr) (d : Dt) (N : List Sl → Prop) : Prop where
  run : ∀ (σ : L2.St) (H : Hp) (v : V) (Q : L2.St → Hp → Prop), SI X.K F Γ c σ H → DV X.K (Vw F c H) v d → (∀ Γ' σ', N Γ' → SI X.K F Γ' c σ' H → Q σ' H) → tGt X tg v σ H Q
instance {F : Fm} {X : Cx} {Γ : List Sl} {c : Cells} {tg : Expr} {d : Dt} {N : List Sl → Prop} : CoeFun (SG F X Γ c tg d N) fun _ => ∀ (σ : L2.St) (H : Hp) (v : V) (Q : L2.St → Hp → Prop), SI X.K F Γ c σ H → DV X.K (Vw F c H) v d → (∀ Γ' σ', N Γ' → SI X.K F Γ' c σ' H → Q σ' H) → tGt X tg v σ H Q := ⟨SG.run⟩
structure SGs (F : Fm) (X : Cx) (Γ : List Sl) (c : Cells) (tgs : List Expr) (ds : List Dt) (N : List Sl → Prop) : Prop where
  run : ∀ (σ : L2.St) (H : Hp) (vs : List V) (Q : L2.St → Hp → Prop), SI X.K F Γ c σ H → DVs X.K (Vw F c H) vs ds → (∀ Γ' σ', N Γ' → SI X.K F Γ' c σ' H → Q σ' H) → tGts X tgs vs σ H Q
instance {F : Fm} {X : Cx} {Γ : List Sl} {c : Cells} {tgs : List Expr} {ds : List Dt} {N : List Sl → Prop} : CoeFun (SGs F X Γ c tgs ds N) fun _ => ∀ (σ : L2.St) (H : Hp) (vs : List V) (Q : L2.St → Hp → Prop), SI X.K F Γ c σ H → DVs X.K (Vw F c H) vs ds → (∀ Γ' σ', N Γ' → SI X.K F Γ' c σ' H → Q σ' H) → tGts X tgs vs σ H Q := ⟨SGs.run⟩
theorem sg_name (i : Nat) {x : Str} {d : Dt} {N : List Sl → Prop} (hN : X.N.Nodup) (p : N (Γ.set i (.dat d))) (hi : X.N[i]? = some x := by rfl) (hx : Loc X.env.scope x := by first | exact Or.inl rfl | exact Or.inr rfl)
    (hf : X.fn x = true ∨ X.env.scope.names.lookup x = some .local := by first | exact .inl rfl | exact .inr rfl) : SG F X Γ c (.Name x pos) d N :=
  .mk fun σ H v Q S dv k => ⟨gName i, pg_name hN hi hx hf, k _ _ p (S.setD dv)⟩
theorem sgs_nil {N : List Sl → Prop} (p : N Γ) : SGs F X Γ c [] [] N := .mk fun σ H vs Q S dv k => by cases dv; exact ⟨gNil, pgs_nil, rfl, k Γ σ p S⟩
theorem sgs_cons {t : Expr} {ts : List Expr} {d : Dt} {ds : List Dt} {N : List Sl → Prop} (h : SG F X Γ c t d fun Γ1 => SGs F X Γ1 c ts ds N)
    (hs : (assignEach (t :: ts) X.env).map (·.2) = assign t X.env :: (assignEach ts X.env).map (·.2) := by rfl) : SGs F X Γ c (t :: ts) (d :: ds) N := .mk fun σ H vs Q S dv k => by
  cases dv with
  | cons h1 t1 =>
    refine ⟨gCons (tGt X t) (tGts X ts), pgs_cons pGt pGts hs, _, _, rfl, ?_⟩
    exact h σ H _ _ S h1 fun Γ1 σ1 p S1 => p σ1 H _ Q S1 t1 fun Γ2 σ2 p2 S2 => k Γ2 σ2 p2 S2
theorem sg_tup {es : List Expr} {kk : Nat} {ds : List Dt} {N : List Sl → Prop} (hc : X.calm = true) (h : SGs F X Γ c es ds N) (hn : (assignEach es X.env).length = ds.length := by rfl) (hst : (assignEach es X.env).findIdx? (·.1) = none := by rfl) : SG F X Γ c (.Tuple es kk pos) (.tup ds) N := .mk fun σ H v Q S dv k => by
  cases dv with
  | tup a t => exact ⟨_, pg_tup (n := ds.length) hc pGts hn hst, _, _, rfl, (a.mono (mask_ex _ _)).t, t.length, h σ H _ Q S t k⟩
theorem sg_par {es : List Expr} {kk : Nat} {ds : List Dt} {N : List Sl → Prop} (hc : X.calm = true) (h : SGs F X Γ c es ds N) (hn : (assignEach es X.env).length = ds.length := by rfl) (hst : (assignEach es X.env).findIdx? (·.1) = none := by rfl) : SG F X Γ c (.Tuple es kk pos) (.par ds) N := .mk fun σ H v Q S dv k => by
  cases dv with
  | par a t => exact ⟨_, pg_tup (n := ds.length) hc pGts hn hst, _, _, rfl, .inl (.inl (mask_ex _ _ _ _ a)), t.length, h σ H _ Q S t k⟩
theorem s_asg {tg e : Expr} (h : SE F X Γ c e fun c1 d => SG F X Γ c1 tg d fun Γ' => Φ.nx Γ' c1) (hs : swapsWithSole [tg] e pos.line X.env = pure false := by rfl) (hw : swappedStores [tg] e X.env = pure none := by rfl)
    (h1 : (assignEach [tg] X.env).map (·.2) = [assign tg X.env] := by rfl) : S1 F X Γ c (.Assign [tg] e pos) Φ :=
  S1.of (ps_asg pE pGt hs hw h1) fun σ H D S E => h σ H _ S fun v H' c' d p S' e' dv => p σ H' v _ S' dv fun Γ2 σ2 p2 S2 => E.nx Γ2 c' σ2 H' p2 S2 e'
/-- a, b = e1, e2, both names plain locals -/
theorem s_par (i j : Nat) {x y : Str} {a b : Expr} {px py pt : Pos} {kt k2 pt2} (hc : X.calm = true) (hN : X.N.Nodup) (hij : i ≠ j) (h : SA F X Γ c [a, b] fun c1 ds => ∃ d1 d2, ds = [d1, d2] ∧ Φ.nx ((Γ.set i (.dat d1)).set j (.dat d2)) c1)
    (hi : X.N[i]? = some x := by rfl) (hj : X.N[j]? = some y := by rfl) (hx : X.env.scope.names.lookup x = some .local := by rfl) (hy : X.env.scope.names.lookup y = some .local := by rfl)
    (hw : swappedStores [.Tuple [.Name x px, .Name y py] kt pt] (.Tuple [a, b] k2 pt2) X.env = pure (some [x, y]) := by rfl) (hs : swapsWithSole [.Tuple [.Name x px, .Name y py] kt pt] (.Tuple [a, b] k2 pt2) pos.line X.env = pure false := by rfl) :
    S1 F X Γ c (.Assign [.Tuple [.Name x px, .Name y py] kt pt] (.Tuple [a, b] k2 pt2) pos) Φ :=
  S1.of (ps_par hc hN hi hj hij hx hy pAs hw hs) fun σ H D S E => h σ H _ S fun vs H' c' ds p S' e' dv => by
    obtain ⟨d1, d2, rfl, p⟩ := p
    cases dv with
    | cons h1 t => cases t with
      | cons h2 t =>
        cases t
        exact ⟨_, _, rfl, E.nx _ c' _ H' p ((S'.setD h1).setD h2) e'⟩
structure SEL (F : Fm) (X : Cx) (Γ : List Sl) (c : Cells) (e : Expr) (P : Cells → List Dt → Prop) : Prop where
  run : ∀ (σ : L2.St) (H : Hp) (Q : VK), SI X.K F Γ c σ H → (∀ p xs H1 c' l, P c' l → SI X.K F Γ c' σ H1 → Ex (Vw F c H) (Vw F c' H1) → H1 p = none → DVs X.K (Vw F c' H1) xs l → Q (.ref p) (upd H1 p (.lst xs))) → tE X e σ H Q
instance {F : Fm} {X : Cx} {Γ : List Sl} {c : Cells} {e : Expr} {P : Cells → List Dt → Prop} : CoeFun (SEL F X Γ c e P) fun _ => ∀ (σ : L2.St) (H : Hp) (Q : VK), SI X.K F Γ c σ H → (∀ p xs H1 c' l, P c' l → SI X.K F Γ c' σ H1 → Ex (Vw F c H) (Vw F c' H1) → H1 p = none → DVs X.K (Vw F c' H1) xs l → Q (.ref p) (upd H1 p (.lst xs))) → tE X e σ H Q := ⟨SEL.run⟩
theorem SEL.se {e : Expr} {P : Cells → Dt → Prop} (h : SEL F X Γ c e fun c1 l => P c1 (.lst l)) : SE F X Γ c e P := .mk fun σ H Q S k =>
  h σ H Q S fun p xs H1 c' l q S1 e1 hp dv => k _ _ c' _ q (S1.new hp) (e1.trans (Kp.new (F := F) hp).hid) (S1.newL hp dv)
theorem sel_lst {es : List Expr} {P : Cells → List Dt → Prop} (h : SA F X Γ c es fun c1 ds => ds.length ≤ sizeLine ∧ P c1 ds) : SEL F X Γ c (.List es pos) P := .mk fun σ H Q S k =>
  tE_of (pe_lst pAs) (h σ H _ S fun vs H1 c1 ds p S1 k1 dv => ⟨by rw [dv.length]; exact p.1, fun q hq => k q vs H1 c1 ds p.2 S1 k1 hq dv⟩)
theorem sel_cat {a b : Expr} {P : Cells → List Dt → Prop} (h : SE F X Γ c a fun c1 d1 => ∃ l, d1 = .lst l ∧ SE F X Γ c1 b fun c2 d2 => ∃ m, d2 = .lst m ∧ l.length + m.length ≤ sizeLine ∧ P c2 (l ++ m)) : SEL F X Γ c (.BinOp a .Add b pos) P := .mk fun σ H Q S k => by
  refine tE_of (pe_op op_cat pE pE) ?_
  refine h σ H _ S fun v H1 c1 d1 p S1 k1 dv1 => ?_
  obtain ⟨l, rfl, p⟩ := p
  refine p σ H1 _ S1 fun w H2 c2 d2 p2 S2 k2 dv2 => ?_
  obtain ⟨m, rfl, hz, p2⟩ := p2
  cases dv1.mono k2 with
  | lst a1 t1 => cases dv2 with
    | lst a2 t2 => exact ⟨_, _, _, _, rfl, rfl, (of_mask a1).2, (of_mask a2).2, by rw [t1.length, t2.length]; exact hz, fun q hq => k q _ H2 c2 _ p2 S2 (k1.trans k2) hq (t1.append t2)⟩
/-- a new list as a cell of one's own -/
theorem SEL.sc {e : Expr} {P : Cells → Dt → Prop} (h : SEL F X Γ c e fun c1 l => ∀ a, P (c1 ++ [(a, .lst l)]) (.raw (.ref a))) : SE F X Γ c e P := .mk fun σ H Q S k =>
  h σ H Q S fun p xs H1 c' l q S1 e1 hp dv => by
    obtain ⟨S2, e2⟩ := S1.addC (q := .lst l) (o := .lst xs) hp rfl ⟨xs, upd_same, dv⟩
    exact k _ _ _ _ (q p) S2 (e1.trans e2) (.raw _)
/-- the cell j, a list, is a datum from now on, which the slot i holds -/
theorem SI.frL {K : PySem.W.Frag} {σ : L2.St} {H : Hp} (S : SI K F Γ c σ H) (i j : Nat) {a : Addr} {l : List Dt} (hi : Γ[i]? = some (.dat (.raw (.ref a)))) (hj : c[j]? = some (a, .lst l)) : SI K F (Γ.set i (.dat (.lst l))) (c.eraseIdx j) σ H ∧ Ex (Vw F c H) (Vw F (c.eraseIdx j) H) := by
  obtain ⟨xs, h1, h2⟩ := S.cat hj
  obtain ⟨S2, e2, ha⟩ := S.letGo (H' := H) hj (fun _ _ => rfl) fun x hx => by cases List.mem_singleton.mp hx; exact ⟨_, h1, fun _ z => nomatch z⟩
  have hv := ha a (List.mem_cons_self ..)
  obtain ⟨v, s1, s2⟩ := S.sl i _ hi
  have ev : v = .ref a := by cases s2; rfl
  subst ev
  have es : σ.set i (some (.ref a)) = σ := by
    refine List.ext_getElem? fun k => ?_
    by_cases hik : i = k
    · subst hik
      rw [List.getElem?_set_self (List.getElem?_eq_some_iff.mp s1).1, s1]
    · rw [List.getElem?_set_ne hik]
  have q := S2.setD (i := i) (v := .ref a) (d := .lst l) (.lst (hv.trans h1) (h2.mono e2))
  rw [es] at q
  exact ⟨q, e2⟩
theorem ss_freeze (i j : Nat) {a : Addr} {l : List Dt} {ss : List Stmt} (hi : Γ[i]? = some (.dat (.raw (.ref a)))) (hj : c[j]? = some (a, .lst l)) (h : SS F X (Γ.set i (.dat (.lst l))) (c.eraseIdx j) ss Φ) : SS F X Γ c ss Φ := .mk fun σ H D S E => by
  obtain ⟨S2, e2⟩ := S.frL i j hi hj
  exact h σ H D S2 (E.ext e2)
/-- methods of a list of one's own: o.append(e) -/
theorem se_append (j : Nat) {a : Addr} {l : List Dt} {o e : Expr} {apos : Pos} {P : Cells → Dt → Prop} (h : SE F X Γ c o fun c0 d0 => d0 = .raw (.ref a) ∧ (∃ l0, c0[j]? = some (a, .lst l0)) ∧ SE F X Γ c0 e fun c1 d => c1[j]? = some (a, .lst l) ∧ l.length < sizeLine ∧ P (c1.set j (a, .lst (l ++ [d]))) .non)
    (hb : attributeBase o "append" X.env (eval o X.env) = eval o X.env := by rfl)
    (hall : (((backTo pos (starEach [e] X.env)).all (fun x => !x.1)) && ((backToKw pos (keywordEach [] X.env)).all (fun x => x.1.isSome)) && decide ([e].length + ([] : List Keyword).length + (if ([] : List Keyword).isEmpty = true then 0 else 1) < 30)) = true := by rfl)
    (hline : (apos.endLine == pos.line) = true := by rfl) (hst : starEach [e] X.env = (false, eval e X.env) :: starEach [] X.env := by rfl) (hpl : (backTo pos (starEach [] X.env)).any (·.1) = false := by rfl) : SE F X Γ c (.Call (.Attribute o "append" apos) [e] [] pos) P :=
  SE.of (pe_bm PySem.F.plainAttrs_list PySem.F.slot_list_append PySem.F.type_list_append mt_append pE (pa_cons pE pa_nil hst) hb hall hline hst hpl) fun σ H Q S k => by
    refine h σ H _ S fun v0 H0 c0 d0 p0 S0 e0 dv0 => ?_
    obtain ⟨rfl, ⟨l0, hj0⟩, p0⟩ := p0
    cases dv0
    obtain ⟨xs, h1, _⟩ := S0.cat hj0
    refine ⟨Or.inl ⟨rfl, xs, .inl (.inl h1)⟩, p0 σ H0 _ S0 fun v H' c' d p S' e' dv => ?_⟩
    obtain ⟨hj, hz, p⟩ := p
    obtain ⟨ys, h2, h3⟩ := S'.cat hj
    obtain ⟨S2, e2⟩ := S'.updC (q' := .lst (l ++ [d])) (o := .lst (ys ++ [v])) hj rfl rfl ⟨_, upd_same, h3.append (.cons dv .nil)⟩
    exact ⟨a, ys, v, rfl, rfl, h2, by rw [h3.length]; exact hz, k _ _ _ _ p S2 ((e0.trans e').trans e2) .non⟩
end
end D
end
section
set_option Elab.async false
set_option linter.all false
set_option maxRecDepth 100000
namespace D
open PySem L2
def wI (X : Cx) (tg iter : Expr) : TI := fun σ H R => ∃ w, PI X tg iter w ∧ w σ H R
theorem pI {X : Cx} {tg iter : Expr} : PI X tg iter (wI X tg iter) := ⟨fun pins s σ H R I ⟨w, h, q⟩ => h.run pins s σ H R I q⟩
/-- the i-th item: there already, or a pair that is new -/
def Item (K : PySem.W.Frag) (V0 : Hp) (H1 : Hp) (x : V) (H2 : Hp) (d : Dt) : Prop :=
  (H2 = H1 ∧ DV K V0 x d) ∨ ∃ T x1 x2 d1 d2, x = .ref T ∧ H1 T = none ∧ H2 = upd H1 T (.tup [x1, x2]) ∧ d = .par [d1, d2] ∧ DV K V0 x1 d1 ∧ DV K V0 x2 d2
def Src (K : PySem.W.Frag) (V0 : Hp) (J : It) (ds : List Dt) : Prop :=
  ∃ (G : Hp → Prop) (Y : Nat → Hp → V → Hp → Prop), Walk J ds.length G Y ∧ (∀ H, Ex V0 H → G H) ∧ ∀ i H1 x H2, i < ds.length → Y i H1 x H2 → Ex V0 H1 → ∃ d, ds[i]? = some d ∧ Item K V0 H1 x H2 d
structure SW (F : Fm) (X : Cx) (Γ : List Sl) (c : Cells) (tg iter : Expr) (P : Cells → List Dt → Prop) : Prop where
  run : ∀ (σ : L2.St) (H : Hp) (R : It → Hp → Prop), SI X.K F Γ c σ H → (∀ J H' c' ds, P c' ds → SI X.K F Γ c' σ H' → Ex (Vw F c H) (Vw F c' H') → Src X.K (Vw F c' H') J ds → R J H') → wI X tg iter σ H R
instance {F : Fm} {X : Cx} {Γ : List Sl} {c : Cells} {tg iter : Expr} {P : Cells → List Dt → Prop} : CoeFun (SW F X Γ c tg iter P) fun _ => ∀ (σ : L2.St) (H : Hp) (R : It → Hp → Prop), SI X.K F Γ c σ H → (∀ J H' c' ds, P c' ds → SI X.K F Γ c' σ H' → Ex (Vw F c H) (Vw F c' H') → Src X.K (Vw F c' H') J ds → R J H') → wI X tg iter σ H R := ⟨SW.run⟩
/-- the signs of a text -/
def signs (z : Str) : List Dt := z.cps.toList.map fun a => Dt.str ⟨#[a]⟩
def idxs (n : Nat) : List Dt := (List.range n).map fun (i : Nat) => Dt.int (i : Int)
def enumD (l : List Dt) : List Dt := (List.range l.length).map fun (i : Nat) => Dt.par [.int (i : Int), l.getD i .non]
def zipD (l m : List Dt) : List Dt := (l.zip m).map fun p => Dt.par [p.1, p.2]
section
variable {F : Fm} {X : Cx} {Γ : List Sl} {c : Cells} {Φ : PEnds} {pos : Pos} {tg : Expr} {P : Cells → List Dt → Prop} {K : PySem.W.Frag}
theorem src_at {V0 : Hp} {J : It} {xs : List V} {l : List Dt} {G : Hp → Prop} (w : Walk J xs.length G (YAt xs)) (hG : ∀ H, Ex V0 H → G H) (t : DVs K V0 xs l) : Src K V0 J l :=
  ⟨G, YAt xs, t.length ▸ w, hG, fun i H1 x H2 hi y _ => by
    obtain ⟨d, h1, h2⟩ := t.getV y.2
    exact ⟨d, h1, .inl ⟨y.1, h2⟩⟩⟩
theorem sw_lst {e : Expr} (h : SE F X Γ c e fun c1 d => ∃ l, d = .lst l ∧ P c1 l) : SW F X Γ c tg e P := .mk fun σ H R S k =>
  ⟨_, pi_list pE, h σ H _ S fun v H1 c1 d p S1 k1 dv => by
    obtain ⟨l, rfl, p⟩ := p
    cases dv with
    | lst a t => exact ⟨_, rfl, ⟨_, .inl (.inl (of_mask a).2)⟩, k _ H1 c1 l p S1 k1 (src_at walk_list (fun H e => .inl (.inl (e _ _ a))) t)⟩⟩
theorem src_str {V0 : Hp} {z : Str} : Src K V0 (Its z) (signs z) := by
  have hl : (signs z).length = z.cps.size := by unfold signs; rw [List.length_map, Array.length_toList]
  refine ⟨_, _, hl.symm ▸ walk_str, fun _ _ => True.intro, fun i H1 x H2 hi y _ => ?_⟩
  obtain ⟨h1, a, h2, rfl⟩ := y
  refine ⟨.str ⟨#[a]⟩, ?_, .inl ⟨h1, .str _⟩⟩
  unfold signs
  rw [List.getElem?_map, Array.getElem?_toList, h2]
  rfl
theorem src_range {V0 : Hp} {n : Nat} : Src K V0 (Itr 0 n) (idxs n) := by
  have hl : (idxs n).length = n := by unfold idxs; rw [List.length_map, List.length_range]
  refine ⟨fun _ => True, YFn fun i => .int (0 + (i : Nat)), by rw [hl]; exact walk_range, fun _ _ => True.intro, fun i H1 x H2 hi y _ => ?_⟩
  obtain ⟨h1, h2⟩ := y
  rw [hl] at hi
  refine ⟨.int (i : Int), ?_, .inl ⟨h1, ?_⟩⟩
  · unfold idxs
    rw [List.getElem?_map, List.getElem?_range hi]
    rfl
  · rw [h2]
    show DV K V0 (V.int (0 + (i : Int))) _
    rw [Int.zero_add]
    exact .int _
theorem sw_range {e : Expr} {p : Pos} (hm : X.mg "range" = none) (h : SE F X Γ c e fun c1 d => ∃ j : Int, d = .int j ∧ -(2 ^ 62) ≤ j ∧ j < 2 ^ 62 ∧ P c1 (idxs j.toNat)) (hg : Gl X "range" := by rfl) (hs : starEach [e] X.env = [(false, eval e X.env)] := by rfl) : SW F X Γ c tg (.Call (.Name "range" p) [e] [] pos) P := .mk fun σ H R S k =>
  ⟨_, pi_range1 hg hm (pa_cons pE pa_nil hs) hs, h σ H _ S fun v H1 c1 d p S1 k1 dv => by
    obtain ⟨j, rfl, a, b, p⟩ := p
    cases dv
    exact ⟨j, rfl, a, b, k _ H1 c1 _ p S1 k1 src_range⟩⟩
theorem Item.dv {F : Fm} {Γ1 : List Sl} {c c1 : Cells} {σ : L2.St} {H H1 H2 : Hp} {x : V} {d : Dt} (it : Item K (Vw F c H) H1 x H2 d) (S : SI K F Γ1 c1 σ H1) (e : Ex (Vw F c H) (Vw F c1 H1)) : SI K F Γ1 c1 σ H2 ∧ Ex (Vw F c1 H1) (Vw F c1 H2) ∧ DV K (Vw F c1 H2) x d := by
  rcases it with ⟨rfl, dv⟩ | ⟨T, x1, x2, d1, d2, rfl, hT, rfl, rfl, h1, h2⟩
  · exact ⟨S, Ex.refl _, dv.mono e⟩
  · exact ⟨S.new hT, (Kp.new (F := F) hT).hid, S.newP hT (.cons (h1.mono e) (.cons (h2.mono e) .nil))⟩
theorem s_for {iter : Expr} {body : List Stmt} (hp : PassesOwn (model X.prog X.w) X.A X.env X.xe) (hc : X.calm = true)
    (h : SW F X Γ c tg iter fun c1 ds => ∃ J : Nat → List Sl → Cells → Prop, J 0 Γ c1 ∧ (∀ i d Γ' c', ds[i]? = some d → J i Γ' c' → SG F X Γ' c' tg d fun Γ2 => SS F X Γ2 c' body { Φ with nx := J (i + 1), ct := J (i + 1), bk := Φ.nx }) ∧ ∀ Γ' c', J ds.length Γ' c' → Φ.nx Γ' c')
    (hs : ∀ x, foldedSetIterable iter X.env x = pure x := by intro _; rfl) : S1 F X Γ c (.For tg iter body [] pos) Φ :=
  S1.of (ps_for hp hc pI pGt pSts hs) fun σ H D S E => h σ H _ S fun It H1 c1 ds p S1 e1 src => by
    obtain ⟨J, j0, turn, done⟩ := p
    obtain ⟨G, Y, w, hG, hY⟩ := src
    refine for_it w (fun i σ' H' => ∃ Γ' c', J i Γ' c' ∧ SI X.K F Γ' c' σ' H' ∧ Ex (Vw F c1 H1) (Vw F c' H')) ⟨Γ, c1, j0, S1, Ex.refl _⟩ (fun i σ' H' _ ⟨Γ', c', _, _, e'⟩ => hG H' (e'.trans (mask_ex _ _))) ?_ ?_
    · rintro i x σ' H' H2 hi ⟨Γ', c', j, S', e'⟩ y
      obtain ⟨d, hd, it⟩ := hY i H' x H2 hi y (e'.trans (mask_ex _ _))
      obtain ⟨S2, e2, dv⟩ := it.dv S' e'
      refine turn i d Γ' c' hd j σ' H2 x _ S2 dv fun Γ3 σ3 q S3 => ?_
      have e4 := (e1.trans e').trans e2
      exact q σ3 H2 _ S3 ⟨fun Γ4 c4 σ4 H4 j4 S4 k4 => ⟨Γ4, c4, j4, S4, (e'.trans e2).trans k4⟩, fun Γ4 c4 σ4 H4 v4 d4 j4 S4 k4 => E.rt Γ4 c4 σ4 H4 v4 d4 j4 S4 (e4.trans k4), fun Γ4 c4 σ4 H4 j4 S4 k4 => E.nx Γ4 c4 σ4 H4 j4 S4 (e4.trans k4), fun Γ4 c4 σ4 H4 j4 S4 k4 => ⟨Γ4, c4, j4, S4, (e'.trans e2).trans k4⟩⟩
    · rintro σ' H' ⟨Γ', c', j, S', e'⟩
      exact E.nx Γ' c' σ' H' (done Γ' c' j) S' (e1.trans e')
end
end D
end
section
set_option Elab.async false
set_option linter.all false
set_option maxRecDepth 100000
namespace D
open PySem L2
def FD (F : Fm) (D : Addr) (o : HO) : Fm := { F with H0 := upd F.H0 D o, M := D :: F.M }
def rm (H : Hp) (D : Addr) : Hp := fun a => if a = D then none else H a
theorem rm_ne {H : Hp} {D a : Addr} (h : a ≠ D) : rm H D a = H a := if_neg h
theorem rm_same {H : Hp} {D : Addr} : rm H D D = none := if_pos rfl
theorem upd_rm {H : Hp} {D : Addr} {o : HO} (h : H D = some o) : upd (rm H D) D o = H := by
  funext a
  by_cases e : a = D
  · rw [e, upd_same, h]
  · rw [upd_ne e, rm_ne e]
def wipeG (Γ : List Sl) : List Nat → List Sl
  | [] => Γ
  | v :: vs => (wipeG Γ vs).set v .un
section
variable {K : PySem.W.Frag} {F : Fm} {Γ : List Sl} {c : Cells} {σ : L2.St} {H : Hp} {D : Addr} {o o' : HO}
theorem hid_FD : ∀ a, a ∈ hid (FD F D o) c ↔ a = D ∨ a ∈ hid F c := fun a => by
  unfold hid FD
  simp only [List.mem_append, List.mem_cons]
  constructor
  · rintro (h | h | h)
    · exact .inr (.inl h)
    · exact .inl h
    · exact .inr (.inr h)
  · rintro (h | h | h)
    · exact .inr (.inl h)
    · exact .inl h
    · exact .inr (.inr h)
theorem vw_FD (a : Addr) : Vw (FD F D o) c H a = if a = D then none else Vw F c H a := by
  by_cases e : a = D
  · rw [if_pos e]
    exact mask_in ((hid_FD a).mpr (.inl e))
  · rw [if_neg e]
    by_cases h : a ∈ hid F c
    · show mask _ _ _ = mask _ _ _
      rw [mask_in h, mask_in ((hid_FD a).mpr (.inr h))]
    · show mask _ _ _ = mask _ _ _
      rw [mask_out h, mask_out fun z => by rcases (hid_FD a).mp z with z | z; exact e z; exact h z]
theorem vw_FD_upd {u : HO} : Vw (FD F D o') c (upd H D u) = Vw (FD F D o) c H := by
  funext a
  rw [vw_FD, vw_FD]
  by_cases e : a = D
  · rw [if_pos e, if_pos e]
  · rw [if_neg e, if_neg e]
    show mask _ _ _ = mask _ _ _
    unfold mask
    rw [upd_ne e]
theorem SI.hide (S : SI K F Γ c σ H) (h : H D = none) (hn : ∀ xs, o ≠ .tup xs) : SI K (FD F D o) Γ c σ (upd H D o) ∧ Ex (Vw F c H) (Vw (FD F D o) c (upd H D o)) := by
  have nh : D ∉ hid F c := S.fresh h
  have sub : Ex (Vw F c H) (Vw (FD F D o) c (upd H D o)) := fun a u q => by
    obtain ⟨n, e⟩ := of_mask q
    have hb : a ≠ D := ne_of_none e h
    rw [vw_FD, if_neg hb]
    show mask _ _ _ = _
    rw [mask_out n, upd_ne hb]
    exact e
  have na : ∀ a ∈ addrs c, a ≠ D := fun a ha z => nh (List.mem_append_left _ (by rw [← z]; exact ha))
  refine ⟨⟨S.len, S.nd, fun j d hj => ?_, fun p hp => ?_, fun b u q => ?_, fun b hb => ?_, fun b hb => ?_, fun b hb => ?_⟩, sub⟩
  · obtain ⟨v, h1, h2⟩ := S.sl j d hj
    exact ⟨v, h1, h2.mono sub⟩
  · exact (S.ce p hp).mono sub fun x hx => upd_ne (na x (mem_addrs hp hx))
  · obtain ⟨n, e⟩ := of_mask q
    rw [show (FD F D o).W = F.W from rfl] at n ⊢
    rw [mask_out n]
    by_cases hb : b = D
    · subst hb
      rw [show (FD F b o).H0 = upd F.H0 b o from rfl, upd_same] at e
      rw [upd_same]
      exact e
    · rw [show (FD F D o).H0 = upd F.H0 D o from rfl, upd_ne hb] at e
      rw [upd_ne hb]
      exact (of_mask (S.keep b u (by rw [mask_out n]; exact e))).2
  · have q := S.fr b hb
    refine ⟨?_, fun z => by rcases List.mem_cons.mp z with z | z; exact na b hb z; exact q.2 z⟩
    rcases q.1 with f | f
    · exact .inl f
    · exact .inr (by rw [show (FD F D o).H0 = upd F.H0 D o from rfl, upd_ne (na b hb)]; exact f)
  · rcases List.mem_cons.mp hb with z | z
    · rw [z]; exact ⟨_, upd_same, hn⟩
    · exact (S.live b z).mono fun u q => by rw [upd_ne (ne_of_none q h)]; exact q
  · obtain ⟨u, q⟩ := S.wl b hb
    exact ⟨u, by rw [upd_ne (ne_of_none q h)]; exact q⟩
theorem SI.grow (S : SI K (FD F D o) Γ c σ H) (hn : ∀ xs, o' ≠ .tup xs) : SI K (FD F D o') Γ c σ (upd H D o') := by
  have e1 : Vw (FD F D o') c (upd H D o') = Vw (FD F D o) c H := vw_FD_upd
  have na : ∀ a ∈ addrs c, a ≠ D := fun a ha z => (S.fr a ha).2 (by rw [z]; exact List.mem_cons_self ..)
  refine ⟨S.len, S.nd, fun j d hj => ?_, fun p hp => ?_, fun b u q => ?_, fun b hb => ?_, fun b hb => ?_, fun b hb => ?_⟩
  · obtain ⟨v, h1, h2⟩ := S.sl j d hj
    exact ⟨v, h1, h2.mono (fun a o q => (congrFun e1 a).trans q)⟩
  · exact (S.ce p hp).mono (fun a o q => (congrFun e1 a).trans q) fun x hx => upd_ne (na x (mem_addrs hp hx))
  · obtain ⟨n, e⟩ := of_mask q
    rw [mask_out n]
    by_cases hb : b = D
    · subst hb
      rw [show (FD F b o').H0 = upd F.H0 b o' from rfl, upd_same] at e
      rw [upd_same]
      exact e
    · rw [show (FD F D o').H0 = upd F.H0 D o' from rfl, upd_ne hb] at e
      rw [upd_ne hb]
      exact (of_mask (S.keep b u (by rw [mask_out (show b ∉ (FD F D o).W from n), show (FD F D o).H0 = upd F.H0 D o from rfl, upd_ne hb]; exact e))).2
  · have q := S.fr b hb
    refine ⟨?_, q.2⟩
    rcases q.1 with f | f
    · exact .inl f
    · exact .inr (by rw [show (FD F D o').H0 = upd F.H0 D o' from rfl, upd_ne (na b hb)]; rwa [show (FD F D o).H0 = upd F.H0 D o from rfl, upd_ne (na b hb)] at f)
  · by_cases z : b = D
    · rw [z]; exact ⟨_, upd_same, hn⟩
    · exact (S.live b hb).mono fun u q => by rw [upd_ne z]; exact q
  · by_cases z : b = D
    · rw [z]; exact ⟨_, upd_same⟩
    · obtain ⟨u, q⟩ := S.wl b hb
      exact ⟨u, by rw [upd_ne z]; exact q⟩
theorem vw_rm : Ex (Vw (FD F D o) c H) (Vw F c (rm H D)) := fun a u q => by
  rw [vw_FD] at q
  by_cases e : a = D
  · rw [if_pos e] at q; cases q
  · rw [if_neg e] at q
    obtain ⟨n, q⟩ := of_mask q
    show mask _ _ _ = _
    rw [mask_out n, rm_ne e]
    exact q
theorem SI.unhide (S : SI K (FD F D o) Γ c σ H) (h0 : F.H0 D = none) (nM : D ∉ F.M) (nW : D ∉ F.W) : SI K F Γ c σ (rm H D) := by
  have na : ∀ a ∈ addrs c, a ≠ D := fun a ha z => (S.fr a ha).2 (by rw [z]; exact List.mem_cons_self ..)
  refine ⟨S.len, S.nd, fun j d hj => ?_, fun p hp => ?_, fun b u q => ?_, fun b hb => ?_, fun b hb => ?_, fun b hb => ?_⟩
  · obtain ⟨v, h1, h2⟩ := S.sl j d hj
    exact ⟨v, h1, h2.mono vw_rm⟩
  · exact (S.ce p hp).mono vw_rm fun x hx => rm_ne (na x (mem_addrs hp hx))
  · obtain ⟨n, e⟩ := of_mask q
    have hb : b ≠ D := fun z => by rw [z, h0] at e; cases e
    rw [mask_out n, rm_ne hb]
    exact (of_mask (S.keep b u (by rw [mask_out (show b ∉ (FD F D o).W from n), show (FD F D o).H0 = upd F.H0 D o from rfl, upd_ne hb]; exact e))).2
  · have q := S.fr b hb
    refine ⟨?_, fun z => q.2 (List.mem_cons_of_mem _ z)⟩
    rcases q.1 with f | f
    · exact .inl f
    · exact .inr (by rwa [show (FD F D o).H0 = upd F.H0 D o from rfl, upd_ne (na b hb)] at f)
  · exact (S.live b (List.mem_cons_of_mem _ hb)).mono fun u q => by rw [rm_ne fun z => nM (by rw [← z]; exact hb)]; exact q
  · obtain ⟨u, q⟩ := S.wl b hb
    exact ⟨u, by rw [rm_ne fun z => nW (by rw [← z]; exact hb)]; exact q⟩
theorem SI.hD (S : SI K (FD F D o) Γ c σ H) (nW : D ∉ F.W) : H D = some o :=
  (of_mask (S.keep D o (by rw [mask_out (show D ∉ (FD F D o).W from nW)]; exact upd_same))).2
theorem SI.nW (S : SI K F Γ c σ H) (h : H D = none) : D ∉ F.W := fun z => by
  obtain ⟨u, q⟩ := S.wl D z
  rw [h] at q; cases q
/-- the slots of before, what was done since -/
theorem SI.back {Γ' : List Sl} {c' : Cells} {σ' : L2.St} {H' : Hp} (S : SI K F Γ c σ H) (S' : SI K F Γ' c' σ' H') (e : Ex (Vw F c H) (Vw F c' H')) : SI K F Γ c' σ H' :=
  ⟨S.len, S'.nd, fun i d hi => by obtain ⟨v, h1, h2⟩ := S.sl i d hi; exact ⟨v, h1, h2.mono e⟩, S'.ce, S'.keep, S'.fr, S'.live, S'.wl⟩
theorem SI.wipe (S : SI K F Γ c σ H) : ∀ vs : List Nat, SI K F (wipeG Γ vs) c (L2.wipe σ vs) H
  | [] => S
  | v :: vs => (SI.wipe S vs).setS fun d e => nomatch e
theorem Item.dv' {V0 H2 : Hp} {x : V} {d : Dt} (it : Item K V0 H x H2 d) (S : SI K F Γ c σ H) (e : Ex V0 (Vw F c H)) : SI K F Γ c σ H2 ∧ Ex (Vw F c H) (Vw F c H2) ∧ DV K (Vw F c H2) x d := by
  rcases it with ⟨rfl, dv⟩ | ⟨T, x1, x2, d1, d2, rfl, hT, rfl, rfl, h1, h2⟩
  · exact ⟨S, Ex.refl _, dv.mono e⟩
  · exact ⟨S.new hT, (Kp.new (F := F) hT).hid, S.newP hT (.cons (h1.mono e) (.cons (h2.mono e) .nil))⟩
end
abbrev blk (X : Cx) (scope : Scope) (s0 : Shared) (H0 : Hp) (C : Addr) (cl : List (Str × Addr)) (fp : List Addr) : Cx := X.blk s0 H0 scope (compEnvC scope cl C X.env) fp
def tEb (X : Cx) (scope : Scope) (e : Expr) : TE := fun σ H Q => ∀ (s0 : Shared) (H0 : Hp) (C : Addr) (cl : List (Str × Addr)) (fp : List Addr), tE (blk X scope s0 H0 C cl fp) e σ H Q
theorem pEb {X : Cx} {scope : Scope} {e : Expr} (s0 : Shared) (H0 : Hp) (C : Addr) (cl : List (Str × Addr)) (fp : List Addr) : PE (X.blk s0 H0 scope (compEnvC scope cl C X.env) fp) e (tEb X scope e) := ⟨fun pins s σ H Q I h => (h s0 H0 C cl fp).run pins s I⟩
def tTb (X : Cx) (scope : Scope) (e : Expr) : TT := fun σ H Q => ∀ (s0 : Shared) (H0 : Hp) (C : Addr) (cl : List (Str × Addr)) (fp : List Addr), tT (blk X scope s0 H0 C cl fp) e σ H Q
theorem pTb {X : Cx} {scope : Scope} {e : Expr} (s0 : Shared) (H0 : Hp) (C : Addr) (cl : List (Str × Addr)) (fp : List Addr) : PT (X.blk s0 H0 scope (compEnvC scope cl C X.env) fp) e (tTb X scope e) := ⟨fun pins s σ H Q I h => (h s0 H0 C cl fp).run pins s I⟩
def tGb (X : Cx) (scope : Scope) (tg : Expr) : TG := fun v σ H Q => ∀ (s0 : Shared) (H0 : Hp) (C : Addr) (cl : List (Str × Addr)) (fp : List Addr), tGt (blk X scope s0 H0 C cl fp) tg v σ H Q
theorem pGb {X : Cx} {scope : Scope} {tg : Expr} (s0 : Shared) (H0 : Hp) (C : Addr) (cl : List (Str × Addr)) (fp : List Addr) : PG (X.blk s0 H0 scope (compEnvC scope cl C X.env) fp) tg (tGb X scope tg) := ⟨fun pins s σ H v u Q I r h => pGt.run pins s σ H v u Q I r (h s0 H0 C cl fp)⟩
/-- a block's target: only its own slots change -/
structure SGb (F : Fm) (X : Cx) (Γ : List Sl) (c : Cells) (vs : List Nat) (tg : Expr) (d : Dt) (N : List Sl → Prop) : Prop where
  run : ∀ (σ : L2.St) (H : Hp) (v : V) (Q : L2.St → Hp → Prop), SI X.K F Γ c σ H → DV X.K (Vw F c H) v d → (∀ Γ' σ', N Γ' → SI X.K F Γ' c σ' H → wipe σ' vs = wipe σ vs → Q σ' H) → tGt X tg v σ H Q
instance {F : Fm} {X : Cx} {Γ : List Sl} {c : Cells} {vs : List Nat} {tg : Expr} {d : Dt} {N : List Sl → Prop} : CoeFun (SGb F X Γ c vs tg d N) fun _ => ∀ (σ : L2.St) (H : Hp) (v : V) (Q : L2.St → Hp → Prop), SI X.K F Γ c σ H → DV X.K (Vw F c H) v d → (∀ Γ' σ', N Γ' → SI X.K F Γ' c σ' H → wipe σ' vs = wipe σ vs → Q σ' H) → tGt X tg v σ H Q := ⟨SGb.run⟩
structure SGbs (F : Fm) (X : Cx) (Γ : List Sl) (c : Cells) (vs : List Nat) (tgs : List Expr) (ds : List Dt) (N : List Sl → Prop) : Prop where
  run : ∀ (σ : L2.St) (H : Hp) (ws : List V) (Q : L2.St → Hp → Prop), SI X.K F Γ c σ H → DVs X.K (Vw F c H) ws ds → (∀ Γ' σ', N Γ' → SI X.K F Γ' c σ' H → wipe σ' vs = wipe σ vs → Q σ' H) → tGts X tgs ws σ H Q
instance {F : Fm} {X : Cx} {Γ : List Sl} {c : Cells} {vs : List Nat} {tgs : List Expr} {ds : List Dt} {N : List Sl → Prop} : CoeFun (SGbs F X Γ c vs tgs ds N) fun _ => ∀ (σ : L2.St) (H : Hp) (ws : List V) (Q : L2.St → Hp → Prop), SI X.K F Γ c σ H → DVs X.K (Vw F c H) ws ds → (∀ Γ' σ', N Γ' → SI X.K F Γ' c σ' H → wipe σ' vs = wipe σ vs → Q σ' H) → tGts X tgs ws σ H Q := ⟨SGbs.run⟩
theorem wipe_set {σ : L2.St} {i : Nat} {o : Option V} : ∀ {vs : List Nat}, i ∈ vs → wipe (σ.set i o) vs = wipe σ vs
  | [], h => nomatch h
  | v :: vs, h => by
    refine List.ext_getElem? fun j => ?_
    unfold wipe
    by_cases hv : v = j
    · subst hv
      by_cases hl : v < σ.length
      · rw [List.getElem?_set_self (by rw [wipe_length, List.length_set]; exact hl), List.getElem?_set_self (by rw [wipe_length]; exact hl)]
      · rw [List.getElem?_eq_none (by rw [List.length_set, wipe_length, List.length_set]; omega), List.getElem?_eq_none (by rw [List.length_set, wipe_length]; omega)]
    · rw [List.getElem?_set_ne hv, List.getElem?_set_ne hv]
      by_cases hi : i ∈ vs
      · rw [wipe_set hi]
      · have e : i = v := by
          rcases List.mem_cons.mp h with h | h
          · exact h
          · exact absurd h hi
        by_cases hj : j ∈ vs
        · have w : ∀ {τ : L2.St} {vs : List Nat}, j ∈ vs → j < τ.length → (wipe τ vs)[j]? = some none := by
            intro τ vs
            induction vs with
            | nil => intro h; exact nomatch h
            | cons u us ih =>
              intro h hl
              unfold wipe
              by_cases hu : u = j
              · subst hu; rw [List.getElem?_set_self (by rw [wipe_length]; exact hl)]
              · rw [List.getElem?_set_ne hu]
                rcases List.mem_cons.mp h with h | h
                · exact absurd h.symm hu
                · exact ih h hl
          by_cases hl : j < σ.length
          · rw [w hj (by rw [List.length_set]; exact hl), w hj hl]
          · rw [List.getElem?_eq_none (by rw [wipe_length, List.length_set]; omega), List.getElem?_eq_none (by rw [wipe_length]; omega)]
        · rw [wipe_out hj, wipe_out hj, List.getElem?_set_ne (by rw [e]; exact hv)]
section
variable {F : Fm} {X : Cx} {Γ : List Sl} {c : Cells} {Φ : PEnds} {pos : Pos} {P : Cells → List Dt → Prop} {vs : List Nat}
theorem sgb_name (i : Nat) {x : Str} {d : Dt} {N : List Sl → Prop} (hN : X.N.Nodup) (p : N (Γ.set i (.dat d))) (hv : i ∈ vs := by decide) (hi : X.N[i]? = some x := by rfl) (hx : Loc X.env.scope x := by first | exact Or.inl rfl | exact Or.inr rfl)
    (hf : X.fn x = true ∨ X.env.scope.names.lookup x = some .local := by first | exact .inl rfl | exact .inr rfl) : SGb F X Γ c vs (.Name x pos) d N :=
  .mk fun σ H v Q S dv k => ⟨gName i, pg_name hN hi hx hf, k _ _ p (S.setD dv) (wipe_set hv)⟩
theorem sgbs_nil {N : List Sl → Prop} (p : N Γ) : SGbs F X Γ c vs [] [] N := .mk fun σ H ws Q S dv k => by cases dv; exact ⟨gNil, pgs_nil, rfl, k Γ σ p S rfl⟩
theorem sgbs_cons {t : Expr} {ts : List Expr} {d : Dt} {ds : List Dt} {N : List Sl → Prop} (h : SGb F X Γ c vs t d fun Γ1 => SGbs F X Γ1 c vs ts ds N)
    (hs : (assignEach (t :: ts) X.env).map (·.2) = assign t X.env :: (assignEach ts X.env).map (·.2) := by rfl) : SGbs F X Γ c vs (t :: ts) (d :: ds) N := .mk fun σ H ws Q S dv k => by
  cases dv with
  | cons h1 t1 =>
    refine ⟨gCons (tGt X t) (tGts X ts), pgs_cons pGt pGts hs, _, _, rfl, ?_⟩
    exact h σ H _ _ S h1 fun Γ1 σ1 p S1 w1 => p σ1 H _ Q S1 t1 fun Γ2 σ2 p2 S2 w2 => k Γ2 σ2 p2 S2 (w2.trans w1)
theorem sgb_tup {es : List Expr} {kk : Nat} {ds : List Dt} {N : List Sl → Prop} (hc : X.calm = true) (h : SGbs F X Γ c vs es ds N) (hn : (assignEach es X.env).length = ds.length := by rfl) (hst : (assignEach es X.env).findIdx? (·.1) = none := by rfl) : SGb F X Γ c vs (.Tuple es kk pos) (.tup ds) N := .mk fun σ H v Q S dv k => by
  cases dv with
  | tup a t => exact ⟨_, pg_tup (n := ds.length) hc pGts hn hst, _, _, rfl, (a.mono (mask_ex _ _)).t, t.length, h σ H _ Q S t k⟩
theorem sgb_par {es : List Expr} {kk : Nat} {ds : List Dt} {N : List Sl → Prop} (hc : X.calm = true) (h : SGbs F X Γ c vs es ds N) (hn : (assignEach es X.env).length = ds.length := by rfl) (hst : (assignEach es X.env).findIdx? (·.1) = none := by rfl) : SGb F X Γ c vs (.Tuple es kk pos) (.par ds) N := .mk fun σ H v Q S dv k => by
  cases dv with
  | par a t => exact ⟨_, pg_tup (n := ds.length) hc pGts hn hst, _, _, rfl, .inl (.inl (mask_ex _ _ _ _ a)), t.length, h σ H _ Q S t k⟩
/-- the turns of a list's comprehension -/
theorem lc_turns {σ : L2.St} {H1 : Hp} {c1 : Cells} {J : It} {ds : List Dt} {D : Addr} {Q : VK} {g : TG} {tt : TT} {te : TE} (S1 : SI X.K F Γ c1 σ H1) (src : Src X.K (Vw F c1 H1) J ds) (hD : H1 D = none) (hz : ds.length ≤ sizeLine)
    (Jv : Nat → Cells → List Dt → Prop) (j0 : Jv 0 c1 [])
    (turn : ∀ i d c' acc, ds[i]? = some d → Jv i c' acc → ∀ (F' : Fm) σ' H' x, SI X.K F' (wipeG Γ vs) c' σ' H' → DV X.K (Vw F' c' H') x d → ∀ (R : V → L2.St → Hp → Prop) (R' : L2.St → Hp → Prop),
      (∀ y H4 c3 dy Γ2 σ2, Jv (i + 1) c3 (acc ++ [dy]) → SI X.K F' Γ2 c3 σ2 H4 → Ex (Vw F' c' H') (Vw F' c3 H4) → DV X.K (Vw F' c3 H4) y dy → R y σ2 H4) →
      (∀ H3 c3 Γ2 σ2, Jv (i + 1) c3 acc → SI X.K F' Γ2 c3 σ2 H3 → Ex (Vw F' c' H') (Vw F' c3 H3) → R' σ2 H3) →
      g x σ' H' fun σ2 H2 => wipe σ2 vs = wipe σ' vs ∧ tt σ2 H2 fun b H3 => if b = true then te σ2 H3 fun y H4 => R y σ2 H4 else R' σ2 H3)
    (done : ∀ c' acc xs H', Jv ds.length c' acc → SI X.K F Γ c' σ H' → Ex (Vw F c1 H1) (Vw F c' H') → H' D = none → DVs X.K (Vw F c' H') xs acc → Q (.ref D) (upd H' D (.lst xs))) :
    ∃ W : Nat → Nat → Hp → Prop, (∃ m, W 0 m (upd H1 D (.lst []))) ∧ ∀ i m H, W i m H →
      (J.stop i H ∧ Q (.ref D) H) ∨ (J.go i H ∧ ∃ Nx : Hp → Prop, (∀ H', Nx H' → ∃ m', m' < m ∧ W (i + 1) m' H') ∧ ∀ x H', J.yld i H x H' → g x (wipe σ vs) H' fun σ2 H2 => wipe σ2 vs = wipe σ vs ∧ tt σ2 H2 fun b H3 =>
        if b = true then te σ2 H3 fun y H4 => ∃ acc, H4 D = some (.lst acc) ∧ acc.length < sizeLine ∧ Nx (upd H4 D (.lst (acc ++ [y]))) else Nx H3) := by
  obtain ⟨G, Y, w, hG, hY⟩ := src
  have nh : D ∉ hid F c1 := S1.fresh hD
  have nM : D ∉ F.M := fun z => nh (List.mem_append_right _ z)
  have nW := S1.nW hD
  have h0 := S1.h0 hD
  obtain ⟨Sh, eh⟩ := S1.hide (D := D) (o := .lst []) hD (fun _ z => nomatch z)
  have ww : wipe (wipe σ vs) vs = wipe σ vs := by
    have : ∀ (us : List Nat), (∀ u ∈ us, u ∈ vs) → wipe (wipe σ us) vs = wipe σ vs := by
      intro us
      induction us with
      | nil => intro _; rfl
      | cons u us ih =>
        intro h
        show wipe ((wipe σ us).set u none) vs = _
        rw [wipe_set (h u (List.mem_cons_self ..))]
        exact ih fun v hv => h v (List.mem_cons_of_mem _ hv)
    exact this vs fun u h => h
  refine lc_it w (fun i H' => ∃ c' acc xs, Jv i c' acc ∧ acc.length ≤ i ∧ SI X.K (FD F D (.lst xs)) Γ c' σ H' ∧ Ex (Vw F c1 H1) (Vw (FD F D (.lst xs)) c' H') ∧ DVs X.K (Vw (FD F D (.lst xs)) c' H') xs acc) ⟨c1, [], [], j0, Nat.le_refl _, Sh, eh, .nil⟩
    (fun i H' _ ⟨c', acc, xs, _, _, _, e', _⟩ => hG H' (e'.trans (mask_ex _ _))) ?_ ?_
  · rintro i x H' H2 hi ⟨c', acc, xs, jv, la, S', e', dvs⟩ y
    obtain ⟨d, hd, it⟩ := hY i H' x H2 hi y (e'.trans (mask_ex _ _))
    obtain ⟨S2, e2, dv⟩ := it.dv' S' e'
    have q := turn i d c' acc hd jv (FD F D (.lst xs)) (wipe σ vs) H2 x (S2.wipe vs) dv
      (fun y σ2 H4 => ∃ acc, H4 D = some (.lst acc) ∧ acc.length < sizeLine ∧ ∃ c' acc' xs, Jv (i + 1) c' acc' ∧ acc'.length ≤ i + 1 ∧ SI X.K (FD F D (.lst xs)) Γ c' σ (upd H4 D (.lst (acc ++ [y]))) ∧ Ex (Vw F c1 H1) (Vw (FD F D (.lst xs)) c' (upd H4 D (.lst (acc ++ [y])))) ∧ DVs X.K (Vw (FD F D (.lst xs)) c' (upd H4 D (.lst (acc ++ [y])))) xs acc')
      (fun σ2 H3 => ∃ c' acc xs, Jv (i + 1) c' acc ∧ acc.length ≤ i + 1 ∧ SI X.K (FD F D (.lst xs)) Γ c' σ H3 ∧ Ex (Vw F c1 H1) (Vw (FD F D (.lst xs)) c' H3) ∧ DVs X.K (Vw (FD F D (.lst xs)) c' H3) xs acc) ?_ ?_
    · rw [ww] at q
      exact q
    · intro y H4 c3 dy Γ2 σ2 jn S4 e4 dvy
      have S5 : SI X.K (FD F D (.lst xs)) Γ c3 σ H4 := S2.back S4 e4
      refine ⟨xs, S5.hD nW, by rw [dvs.length]; omega, c3, acc ++ [dy], xs ++ [y], jn, ?_, S5.grow (fun _ z => nomatch z), ?_, ?_⟩
      · rw [List.length_append]
        exact Nat.succ_le_succ la
      · rw [vw_FD_upd (o := .lst xs)]
        exact e'.trans (e2.trans e4)
      · rw [vw_FD_upd (o := .lst xs)]
        exact (dvs.mono (e2.trans e4)).append (.cons dvy .nil)
    · intro H3 c3 Γ2 σ2 jn S3 e3
      exact ⟨c3, acc, xs, jn, Nat.le_succ_of_le la, S2.back S3 e3, e'.trans (e2.trans e3), dvs.mono (e2.trans e3)⟩
  · rintro H' ⟨c', acc, xs, jv, la, S', e', dvs⟩
    have q := done c' acc xs (rm H' D) jv (S'.unhide h0 nM nW) (e'.trans vw_rm) rm_same (dvs.mono vw_rm)
    rw [upd_rm (S'.hD nW)] at q
    exact q
/-- in any context of the block -/
def AB (X : Cx) (scope : Scope) (φ : Cx → Prop) : Prop := ∀ (s0 : Shared) (H0 : Hp) (C : Addr) (cl : List (Str × Addr)) (fp : List Addr), φ (blk X scope s0 H0 C cl fp)
/-- one turn of [elt for tg in iter] -/
def Turn0 (X : Cx) (Γ : List Sl) (scope : Scope) (vs : List Nat) (tg elt : Expr) (d : Dt) (c' : Cells) (N : Cells → Dt → Prop) : Prop :=
  ∀ F' : Fm, AB X scope fun Y => SGb F' Y (wipeG Γ vs) c' vs tg d fun Γ2 => AB X scope fun Y => SE F' Y Γ2 c' elt N
/-- one turn of [elt for tg in iter if t] -/
def Turn1 (X : Cx) (Γ : List Sl) (scope : Scope) (vs : List Nat) (tg t elt : Expr) (d : Dt) (c' : Cells) (N : Cells → Dt → Prop) (N0 : Cells → Prop) : Prop :=
  ∀ F' : Fm, AB X scope fun Y => SGb F' Y (wipeG Γ vs) c' vs tg d fun Γ2 => AB X scope fun Y => ST F' Y Γ2 c' t fun c2 b => if b = true then AB X scope fun Y => SE F' Y Γ2 c2 elt N else N0 c2
def SELt (F : Fm) (X : Cx) (Γ : List Sl) (c : Cells) (t : TE) (P : Cells → List Dt → Prop) : Prop :=
  ∀ (σ : L2.St) (H : Hp) (Q : VK), SI X.K F Γ c σ H → (∀ p xs H1 c' l, P c' l → SI X.K F Γ c' σ H1 → Ex (Vw F c H) (Vw F c' H1) → H1 p = none → DVs X.K (Vw F c' H1) xs l → Q (.ref p) (upd H1 p (.lst xs))) → t σ H Q
theorem s_setT {st : Stmt} {t : TE} (i : Nat) (hp : PS X st (tAsg t (gName i))) (h : SELt F X Γ c t fun c1 l => Φ.nx (Γ.set i (.dat (.lst l))) c1) : S1 F X Γ c st Φ :=
  S1.of hp fun σ H D S E => h σ H _ S fun p xs H1 c' l q S1 e1 hp dv => E.nx _ c' _ _ q ((S1.new hp).setD (S1.newL hp dv)) (e1.trans (Kp.new (F := F) hp).hid)
theorem lct_lc {elt tg iter : Expr} {scope : Scope}
    (h : SW F X Γ c tg iter fun c1 ds => ds.length ≤ sizeLine ∧ ∃ Jv : Nat → Cells → List Dt → Prop, Jv 0 c1 [] ∧
      (∀ i d c' acc, ds[i]? = some d → Jv i c' acc → Turn0 X Γ scope vs tg elt d c' fun c2 y => Jv (i + 1) c2 (acc ++ [y])) ∧ ∀ c' acc, Jv ds.length c' acc → P c' acc) : SELt F X Γ c (tLc (wI X tg iter) (tGb X scope tg) tYes (tEb X scope elt) vs) P := fun σ H Q S k => by
  refine h σ H _ S fun J H1 c1 ds p S1 e1 src D hD => ?_
  obtain ⟨hz, Jv, j0, turn, done⟩ := p
  refine lc_turns (g := tGb X scope tg) (tt := tYes) (te := tEb X scope elt) S1 src hD hz Jv j0 (fun i d c' acc hd jv F' σ' H' x S' dv R R' k1 k2 => ?_) fun c' acc xs H' jv S' e' hn dv => k D xs H' c' acc (done c' acc jv) S' (e1.trans e') hn dv
  intro s0 H0 C cl fp
  refine turn i d c' acc hd jv F' s0 H0 C cl fp σ' H' x _ S' dv fun Γ2 σ2 q S2 w => ⟨w, ?_⟩
  intro s0 H0 C cl fp
  exact q s0 H0 C cl fp σ2 H' _ S2 fun y H4 c3 dy jn S4 e4 dvy => k1 y H4 c3 dy Γ2 σ2 jn S4 e4 dvy
theorem lct_lcIf {elt tg iter t : Expr} {scope : Scope}
    (h : SW F X Γ c tg iter fun c1 ds => ds.length ≤ sizeLine ∧ ∃ Jv : Nat → Cells → List Dt → Prop, Jv 0 c1 [] ∧
      (∀ i d c' acc, ds[i]? = some d → Jv i c' acc → Turn1 X Γ scope vs tg t elt d c' (fun c2 y => Jv (i + 1) c2 (acc ++ [y])) fun c2 => Jv (i + 1) c2 acc) ∧ ∀ c' acc, Jv ds.length c' acc → P c' acc) : SELt F X Γ c (tLc (wI X tg iter) (tGb X scope tg) (tTb X scope t) (tEb X scope elt) vs) P := fun σ H Q S k => by
  refine h σ H _ S fun J H1 c1 ds p S1 e1 src D hD => ?_
  obtain ⟨hz, Jv, j0, turn, done⟩ := p
  refine lc_turns (g := tGb X scope tg) (tt := tTb X scope t) (te := tEb X scope elt) S1 src hD hz Jv j0 (fun i d c' acc hd jv F' σ' H' x S' dv R R' k1 k2 => ?_) fun c' acc xs H' jv S' e' hn dv => k D xs H' c' acc (done c' acc jv) S' (e1.trans e') hn dv
  intro s0 H0 C cl fp
  refine turn i d c' acc hd jv F' s0 H0 C cl fp σ' H' x _ S' dv fun Γ2 σ2 q S2 w => ⟨w, ?_⟩
  intro s0 H0 C cl fp
  refine q s0 H0 C cl fp σ2 H' _ S2 fun b H3 c2 hb S3 e3 => ?_
  cases b with
  | false => exact k2 H3 c2 Γ2 σ2 hb S3 e3
  | true =>
    rw [if_pos rfl] at hb
    intro s0 H0 C cl fp
    exact hb s0 H0 C cl fp σ2 H3 _ S3 fun y H4 c3 dy jn S4 e4 dvy => k1 y H4 c3 dy Γ2 σ2 jn S4 (e3.trans e4) dvy
/-- [elt for tg in iter], as a new list -/
theorem sel_lc {elt tg iter : Expr} {scope : Scope} (own : List (Str × Nat)) (hc : X.calm = true) (hN : X.N.Nodup) (ok : BlkOk X.N X.env.scope scope own)
    (h : SW F X Γ c tg iter fun c1 ds => ds.length ≤ sizeLine ∧ ∃ Jv : Nat → Cells → List Dt → Prop, Jv 0 c1 [] ∧
      (∀ i d c' acc, ds[i]? = some d → Jv i c' acc → Turn0 X Γ scope (own.map (·.2)) tg elt d c' fun c2 y => Jv (i + 1) c2 (acc ++ [y])) ∧ ∀ c' acc, Jv ds.length c' acc → P c' acc)
    (hfs : ∀ x, foldedSetIterable iter X.env x = pure x := by intro _; rfl) : SEL F X Γ c (.ListComp elt [⟨tg, iter, [], 0⟩] scope pos) P := .mk fun σ H Q S k =>
  tE_of (pe_lc (own := own) (g := tGb X scope tg) hc hN pI ok (fun s0 H0 C cl fp => pGb s0 H0 C cl fp) (fun _ _ _ _ _ => pts_nil) (fun s0 H0 C cl fp => pEb s0 H0 C cl fp) hfs) (lct_lc h σ H Q S k)
theorem sel_lcIf {elt tg iter t : Expr} {scope : Scope} (own : List (Str × Nat)) (hc : X.calm = true) (hN : X.N.Nodup) (ok : BlkOk X.N X.env.scope scope own)
    (h : SW F X Γ c tg iter fun c1 ds => ds.length ≤ sizeLine ∧ ∃ Jv : Nat → Cells → List Dt → Prop, Jv 0 c1 [] ∧
      (∀ i d c' acc, ds[i]? = some d → Jv i c' acc → Turn1 X Γ scope (own.map (·.2)) tg t elt d c' (fun c2 y => Jv (i + 1) c2 (acc ++ [y])) fun c2 => Jv (i + 1) c2 acc) ∧ ∀ c' acc, Jv ds.length c' acc → P c' acc)
    (hfs : ∀ x, foldedSetIterable iter X.env x = pure x := by intro _; rfl) : SEL F X Γ c (.ListComp elt [⟨tg, iter, [t], 0⟩] scope pos) P := .mk fun σ H Q S k =>
  tE_of (pe_lc (own := own) (g := tGb X scope tg) (tt := tTb X scope t) hc hN pI ok (fun s0 H0 C cl fp => pGb s0 H0 C cl fp) (fun s0 H0 C cl fp => pts_one (pTb s0 H0 C cl fp)) (fun s0 H0 C cl fp => pEb s0 H0 C cl fp) hfs) (lct_lcIf h σ H Q S k)
/-- x = [elt for tg in iter] -/
theorem ps_lc {elt tg iter : Expr} {y : Str} {py spos : Pos} {scope : Scope} (i : Nat) (own : List (Str × Nat)) (hc : X.calm = true) (hN : X.N.Nodup) (ok : BlkOk X.N X.env.scope scope own) (hsw : swapsWith (.ListComp elt [⟨tg, iter, [], 0⟩] scope pos) (some (.Name y py)) spos.line X.env = pure true := by exact sw_true rfl rfl rfl (by decide +kernel))
    (hy : X.N[i]? = some y := by rfl) (hyl : X.env.scope.names.lookup y = some .local := by rfl) (hfs : ∀ x, foldedSetIterable iter X.env x = pure x := by intro _; rfl) :
    PS X (.Assign [.Name y py] (.ListComp elt [⟨tg, iter, [], 0⟩] scope pos) spos) (tAsg (tLc (wI X tg iter) (tGb X scope tg) tYes (tEb X scope elt) (own.map (·.2))) (gName i)) :=
  ps_setLc (own := own) (g := tGb X scope tg) hc hN hy hyl hsw pI ok (fun s0 H0 C cl fp => pGb s0 H0 C cl fp) (fun _ _ _ _ _ => pts_nil) (fun s0 H0 C cl fp => pEb s0 H0 C cl fp) hfs
theorem ps_lcIf {elt tg iter t : Expr} {y : Str} {py spos : Pos} {scope : Scope} (i : Nat) (own : List (Str × Nat)) (hc : X.calm = true) (hN : X.N.Nodup) (ok : BlkOk X.N X.env.scope scope own) (hsw : swapsWith (.ListComp elt [⟨tg, iter, [t], 0⟩] scope pos) (some (.Name y py)) spos.line X.env = pure true := by exact sw_true rfl rfl rfl (by decide +kernel))
    (hy : X.N[i]? = some y := by rfl) (hyl : X.env.scope.names.lookup y = some .local := by rfl) (hfs : ∀ x, foldedSetIterable iter X.env x = pure x := by intro _; rfl) :
    PS X (.Assign [.Name y py] (.ListComp elt [⟨tg, iter, [t], 0⟩] scope pos) spos) (tAsg (tLc (wI X tg iter) (tGb X scope tg) (tTb X scope t) (tEb X scope elt) (own.map (·.2))) (gName i)) :=
  ps_setLc (own := own) (g := tGb X scope tg) (tt := tTb X scope t) hc hN hy hyl hsw pI ok (fun s0 H0 C cl fp => pGb s0 H0 C cl fp) (fun s0 H0 C cl fp => pts_one (pTb s0 H0 C cl fp)) (fun s0 H0 C cl fp => pEb s0 H0 C cl fp) hfs
theorem ST.mono {e : Expr} {P P' : Cells → Bool → Prop} (h : ST F X Γ c e P) (hp : ∀ c d, P c d → P' c d) : ST F X Γ c e P' := .mk fun σ H Q S k => h σ H Q S fun b H' c' p => k b H' c' (hp c' b p)
end
end D
end
section
set_option Elab.async false
set_option linter.all false
set_option maxRecDepth 100000
namespace D
open PySem L2 PyProof.Rows
theorem mask_eq {M M' : List Addr} {H : Hp} (h : ∀ a, a ∈ M ↔ a ∈ M') : mask M H = mask M' H := by
  funext a
  by_cases z : a ∈ M
  · rw [mask_in z, mask_in ((h a).mp z)]
  · rw [mask_out z, mask_out fun w => z ((h a).mpr w)]
/-- behind a call: what stays, and the cells that are given back -/
structure Aft (K : PySem.W.Frag) (M : List Addr) (H : Hp) (C C' : Cells) (H' : Hp) : Prop where
  keep : ∀ b o, H b = some o → b ∉ addrs C → H' b = some o
  nd : (addrs C').Nodup
  fr : ∀ x ∈ addrs C', x ∉ M ∧ (x ∈ addrs C ∨ H x = none)
  ce : ∀ p ∈ C', CelAt K (mask (addrs C' ++ M) H') H' p.1 p.2
  wl : ∀ x ∈ addrs C, ∃ o, H' x = some o
/-- an exception by data: its class, its fields (none: it has no dict of its own) -/
structure Xc where
  cls : Addr
  fs : Option (List (Str × Dt))
def XcAt (K : PySem.W.Frag) (V : Hp) (x : Xc) (cls : Value) (d : Option Addr) : Prop :=
  cls = .ref x.cls ∧ match x.fs with
    | none => d = none
    | some l => ∃ dd xs, d = some dd ∧ V dd = some (.xd xs) ∧ DVx K V xs l
theorem XcAt.mono {K : PySem.W.Frag} {V V' : Hp} {x : Xc} {cls : Value} {d : Option Addr} (h : XcAt K V x cls d) (e : Ex V V') : XcAt K V' x cls d := by
  obtain ⟨C, fs⟩ := x
  obtain ⟨h1, h2⟩ := h
  refine ⟨h1, ?_⟩
  cases fs with
  | none => exact h2
  | some l =>
    obtain ⟨dd, xs, a, b, t⟩ := h2
    exact ⟨dd, xs, a, e _ _ b, t.mono e⟩
/-- THE PROMISE of a def: arguments, cells handed in; what comes back, what may be raised -/
def spG (K : PySem.W.Frag) {α : Type} (args : α → List Dt) (cells : α → Cells) (pre : α → Prop) (post : α → Cells → Dt → Prop) (exc : α → Cells → Xc → Prop) : Sp := fun vs H Q E =>
  ∃ (M : List Addr) (a : α), (∀ x ∈ M, Lv H x) ∧ (addrs (cells a)).Nodup ∧ (∀ x ∈ addrs (cells a), x ∉ M) ∧ (∀ p ∈ cells a, CelAt K (mask (addrs (cells a) ++ M) H) H p.1 p.2) ∧
    DVs K (mask (addrs (cells a) ++ M) H) vs (args a) ∧ pre a ∧ (∀ v H' C' d, post a C' d → Aft K M H (cells a) C' H' → DV K (mask (addrs C' ++ M) H') v d → Q v H') ∧
    ∀ cls dx H' C' x, exc a C' x → Aft K M H (cells a) C' H' → XcAt K (mask (addrs C' ++ M) H') x cls dx → E cls dx H'
/-- what is taken of what is raised -/
structure XT (F : Fm) (X : Cx) (Wd : List Sl → Cells → Xc → Prop) : Prop where
  ex : ∃ W : WX, Takes X W ∧ ∀ Γ c σ H x cls dx, Wd Γ c x → SI X.K F Γ c σ H → XcAt X.K (Vw F c H) x cls dx → W cls dx σ H
theorem XT.no {F : Fm} {X : Cx} : XT F X fun _ _ _ => False := ⟨_, takes0, fun _ _ _ _ _ _ _ z => z.elim⟩
section
variable {K : PySem.W.Frag} {F : Fm} {Γ : List Sl} {σ : L2.St} {H H' : Hp} {l m m' r : Cells}
theorem mem_lmr {x : Addr} : x ∈ addrs (l ++ m ++ r) ↔ x ∈ addrs l ∨ x ∈ addrs m ∨ x ∈ addrs r := by
  rw [addrs_app, addrs_app, List.mem_append, List.mem_append, or_assoc]
theorem vw_lmr : mask (addrs m ++ (addrs l ++ addrs r ++ F.M)) H = Vw F (l ++ m ++ r) H := mask_eq fun a => by
  unfold hid
  simp only [List.mem_append, mem_lmr, addrs_app]
  constructor
  · rintro (h | (h | h) | h)
    · exact .inl (.inl (.inr h))
    · exact .inl (.inl (.inl h))
    · exact .inl (.inr h)
    · exact .inr h
  · rintro (((h | h) | h) | h)
    · exact .inr (.inl (.inl h))
    · exact .inl h
    · exact .inr (.inl (.inr h))
    · exact .inr (.inr h)
/-- the caller behind the call -/
theorem SI.after (S : SI K F Γ (l ++ m ++ r) σ H) (A : Aft K (addrs l ++ addrs r ++ F.M) H m m' H') : SI K F Γ (l ++ m' ++ r) σ H' ∧ Ex (Vw F (l ++ m ++ r) H) (Vw F (l ++ m' ++ r) H') := by
  have nd := S.nd
  rw [addrs_app, addrs_app] at nd
  obtain ⟨n1, n2, n3⟩ := List.nodup_append.mp nd
  obtain ⟨n4, n5, n6⟩ := List.nodup_append.mp n1
  have ml : ∀ x ∈ addrs l, x ∉ addrs m := fun x hx z => n6 x hx x z rfl
  have mr : ∀ x ∈ addrs r, x ∉ addrs m := fun x hx z => n3 x (List.mem_append_right _ z) x hx rfl
  have nm : ∀ x ∈ addrs m', x ∉ addrs l ∧ x ∉ addrs r ∧ x ∉ F.M := fun x hx => by
    have := (A.fr x hx).1
    exact ⟨fun z => this (List.mem_append_left _ (List.mem_append_left _ z)), fun z => this (List.mem_append_left _ (List.mem_append_right _ z)), fun z => this (List.mem_append_right _ z)⟩
  have ev : Ex (Vw F (l ++ m ++ r) H) (Vw F (l ++ m' ++ r) H') := fun x o q => by
    obtain ⟨n, e⟩ := of_mask q
    have n' : ¬ (x ∈ addrs l ∨ x ∈ addrs m ∨ x ∈ addrs r) := fun z => n (List.mem_append_left _ (mem_lmr.mpr z))
    have nM : x ∉ F.M := fun z => n (List.mem_append_right _ z)
    show mask _ _ _ = _
    rw [mask_out]
    · exact A.keep x o e fun z => n' (.inr (.inl z))
    · intro z
      rcases List.mem_append.mp z with z | z
      · rcases mem_lmr.mp z with z | z | z
        · exact n' (.inl z)
        · rcases (A.fr x z).2 with w | w
          · exact n' (.inr (.inl w))
          · rw [e] at w; cases w
        · exact n' (.inr (.inr z))
      · exact nM z
  have kp : ∀ p, (p ∈ l ∨ p ∈ r) → CelAt K (Vw F (l ++ m' ++ r) H') H' p.1 p.2 := fun p hp => by
    have hc : p ∈ l ++ m ++ r := by
      rcases hp with h | h
      · exact List.mem_append_left _ (List.mem_append_left _ h)
      · exact List.mem_append_right _ h
    refine (S.ce p hc).mono ev fun x hx => ?_
    obtain ⟨o, e, _⟩ := (S.ce p hc).live x hx
    rw [e]
    refine A.keep x o e ?_
    rcases hp with h | h
    · exact ml x (mem_addrs h hx)
    · exact mr x (mem_addrs h hx)
  refine ⟨⟨S.len, ?_, fun i d hi => ?_, fun p hp => ?_, fun x o q => ?_, fun x hx => ?_, fun x hx => ?_, fun x hx => ?_⟩, ev⟩
  · rw [addrs_app, addrs_app]
    refine List.nodup_append.mpr ⟨List.nodup_append.mpr ⟨n4, A.nd, fun x hx y hy e => (nm y hy).1 (e ▸ hx)⟩, n2, fun x hx y hy e => ?_⟩
    rcases List.mem_append.mp hx with hx | hx
    · exact n3 x (List.mem_append_left _ hx) y hy e
    · exact (nm x hx).2.1 (e ▸ hy)
  · obtain ⟨v, h1, h2⟩ := S.sl i d hi
    exact ⟨v, h1, h2.mono ev⟩
  · rcases List.mem_append.mp hp with hp | hp
    · rcases List.mem_append.mp hp with hp | hp
      · exact kp p (.inl hp)
      · have := A.ce p hp
        rw [vw_lmr] at this
        exact this
    · exact kp p (.inr hp)
  · obtain ⟨n, h0⟩ := of_mask q
    have h1 := (of_mask (S.keep x o q)).2
    rw [mask_out n]
    refine A.keep x o h1 fun z => ?_
    rcases (S.fr x (mem_lmr.mpr (.inr (.inl z)))).1 with f | f
    · exact n f
    · rw [h0] at f; cases f
  · rcases mem_lmr.mp hx with hx | hx | hx
    · exact S.fr x (mem_lmr.mpr (.inl hx))
    · refine ⟨?_, (nm x hx).2.2⟩
      rcases (A.fr x hx).2 with w | w
      · exact (S.fr x (mem_lmr.mpr (.inr (.inl w)))).1
      · exact .inr (S.h0 w)
    · exact S.fr x (mem_lmr.mpr (.inr (.inr hx)))
  · exact (S.live x hx).mono fun o e => A.keep x o e fun z => (S.fr x (mem_lmr.mpr (.inr (.inl z)))).2 hx
  · by_cases z : x ∈ addrs m
    · exact A.wl x z
    · obtain ⟨o, e⟩ := S.wl x hx
      exact ⟨o, A.keep x o e z⟩
end
/-- a def that stands under its name and keeps a promise -/
structure DefOk (P : Program) (w : World) (K : PySem.W.Frag) (mg : Str → Option Value) (base : Heap) (k : Nat) (x : Str) (ps : List Str) (sp : Sp) : Prop where
  ex : ∃ f fd, FnOk P w K mg base (L2.CX P w) k f fd ps sp ∧ mg x = some (.ref f) ∧ PySem.W.keepIn K (.ref f) = true ∧ Binds K fd ps []
theorem DefOk.mono {P : Program} {w : World} {K : PySem.W.Frag} {mg : Str → Option Value} {base : Heap} {j k : Nat} {x : Str} {ps : List Str} {sp : Sp} (D : DefOk P w K mg base j x ps sp) (h : j ≤ k) : DefOk P w K mg base k x ps sp := by
  obtain ⟨f, fd, h1, h2⟩ := D.ex
  exact ⟨f, fd, h1.mono h, h2⟩
section
variable {F : Fm} {X : Cx} {Γ : List Sl} {c : Cells} {P : Cells → Dt → Prop} {pos : Pos}
/-- what a call of a promise asks -/
theorem sp_use {α : Type} {args : α → List Dt} {cells : α → Cells} {pre : α → Prop} {post : α → Cells → Dt → Prop} {exc : α → Cells → Xc → Prop} {l r c1 : Cells} {σ : L2.St} {H : Hp} {vs : List V} {Q : VK} {W : WX} {a : α} {Wd : List Sl → Cells → Xc → Prop}
    (hW : ∀ Γ c σ H x cls dx, Wd Γ c x → SI X.K F Γ c σ H → XcAt X.K (Vw F c H) x cls dx → W cls dx σ H) (S : SI X.K F Γ c1 σ H) (hc : c1 = l ++ cells a ++ r) (dv : DVs X.K (Vw F c1 H) vs (args a)) (hp : pre a)
    (hq : ∀ v H' c' d, post a c' d → SI X.K F Γ (l ++ c' ++ r) σ H' → Ex (Vw F c1 H) (Vw F (l ++ c' ++ r) H') → DV X.K (Vw F (l ++ c' ++ r) H') v d → Q v H') (hx : ∀ c' x, exc a c' x → Wd Γ (l ++ c' ++ r) x) :
    spG X.K args cells pre post exc vs H Q (WE W σ) := by
  subst hc
  have nd := S.nd
  rw [addrs_app, addrs_app] at nd
  obtain ⟨n1, n2, n3⟩ := List.nodup_append.mp nd
  obtain ⟨n4, n5, n6⟩ := List.nodup_append.mp n1
  refine ⟨addrs l ++ addrs r ++ F.M, a, fun x hx => ?_, n5, fun x hx z => ?_, fun p hp => ?_, ?_, hp, fun v H' C' d pd A dv' => ?_, fun cls dx H' C' x ex A xa => ?_⟩
  · refine S.hlive x ?_
    rcases List.mem_append.mp hx with h | h
    · refine List.mem_append_left _ (mem_lmr.mpr ?_)
      rcases List.mem_append.mp h with h | h
      · exact .inl h
      · exact .inr (.inr h)
    · exact List.mem_append_right _ h
  · rcases List.mem_append.mp z with h | h
    · rcases List.mem_append.mp h with h | h
      · exact n6 x h x hx rfl
      · exact n3 x (List.mem_append_right _ hx) x h rfl
    · exact (S.fr x (mem_lmr.mpr (.inr (.inl hx)))).2 h
  · rw [vw_lmr]
    exact S.ce p (List.mem_append_left _ (List.mem_append_right _ hp))
  · rw [vw_lmr]
    exact dv
  · obtain ⟨S2, e2⟩ := S.after A
    exact hq v H' C' d pd S2 e2 (by rw [← vw_lmr]; exact dv')
  · obtain ⟨S2, e2⟩ := S.after A
    exact hW Γ _ σ H' x cls dx (hx C' x ex) S2 (by rw [← vw_lmr]; exact xa)
theorem se_fG {α : Type} {args : α → List Dt} {cells : α → Cells} {pre : α → Prop} {post : α → Cells → Dt → Prop} {exc : α → Cells → Xc → Prop} {k : Nat} {ps : List Str} {x : Str} {p : Pos} {e : Expr} {es : List Expr} {Wd : List Sl → Cells → Xc → Prop}
    (Df : DefOk X.prog X.w X.K X.mg X.base k x ps (spG X.K args cells pre post exc)) (hr : Room k X.A) (xt : XT F X Wd)
    (h : SA F X Γ c (e :: es) fun c1 ds => ∃ a l r, ds = args a ∧ c1 = l ++ cells a ++ r ∧ pre a ∧ (∀ c' d, post a c' d → P (l ++ c' ++ r) d) ∧ ∀ c' x, exc a c' x → Wd Γ (l ++ c' ++ r) x) (hg : Gl X x := by rfl) (hdb : (x == ("__debug__" : Str)) = false := by decide)
    (he : starEach (e :: es) X.env = (false, eval e X.env) :: starEach es X.env := by rfl) (hpl : (backTo pos (starEach es X.env)).any (·.1) = false := by rfl) : SE F X Γ c (.Call (.Name x p) (e :: es) [] pos) P := by
  obtain ⟨f, fd, h1, h2, h3, h4⟩ := Df.ex
  obtain ⟨W, tk, hW⟩ := xt.ex
  refine SE.of (pe_callS h1 hr hg h2 h3 h4 (fun σ => passAt tk σ) pAs hdb he hpl) fun σ H Q S k => h σ H _ S fun vs H1 c1 ds q S1 k1 dv => ?_
  obtain ⟨a, l, r, rfl, hc, hp, q1, q2⟩ := q
  exact sp_use hW S1 hc dv hp (fun v H' c' d pd S2 e2 dv' => k v H' _ d (q1 c' d pd) S2 (k1.trans e2) dv') q2
end
def startP (N : List Str) (ds : List Dt) : List Sl := ds.map Sl.dat ++ List.replicate (N.length - ds.length) Sl.un
theorem slots_dat {K : PySem.W.Frag} {H : Hp} : ∀ {vs : List V} {ds : List Dt} (n : Nat), DVs K H vs ds → ∀ (i : Nat) (d : Dt), (ds.map Sl.dat ++ List.replicate n Sl.un)[i]? = some (.dat d) → ∃ v, (vs.map some ++ List.replicate n (none : Option V))[i]? = some (some v) ∧ DV K H v d
  | _, _, n, .nil, i, d, h => by
    simp only [List.map_nil, List.nil_append] at h
    have := List.mem_of_getElem? h
    cases (List.mem_replicate.mp this).2
  | _, _, n, .cons h1 t, 0, d, h => by
    simp at h
    subst h
    exact ⟨_, rfl, h1⟩
  | _ :: vs, _ :: ds, n, .cons h1 t, i + 1, d, h => by
    have h' : (ds.map Sl.dat ++ List.replicate n Sl.un)[i]? = some (.dat d) := by simpa using h
    have q := slots_dat n t i d h'
    simpa using q
section
variable {P : Program} {w : World} {K : PySem.W.Frag} {mg : Str → Option Value} {base : Heap}
theorem fn_G {α : Type} {args : α → List Dt} {cells : α → Cells} {pre : α → Prop} {post : α → Cells → Dt → Prop} {exc : α → Cells → Xc → Prop} {x qual : Str} {st : Stmt} {f : Addr} {fd : FuncData} {N ps : List Str} {k : Nat} (Fu : Fun K x qual st f fd) (S : FnScope N ps (defScope st)) (hl : ∀ a, (args a).length = ps.length)
    (h : ∀ (cdv : Value) (A : Around) (outer : List Env) (s : Shared) (H : Hp) (E : XK) (F : Fm) (a : α), pre a → Room k (A.deeper (envOfC qual (defScope st) s.heap.objs.size f cdv)) →
      XT F (cxOf (L2.CX P w) P w K mg base N qual (defScope st) f cdv A outer s H E) (fun _ => exc a) →
      SS F (cxOf (L2.CX P w) P w K mg base N qual (defScope st) f cdv A outer s H E) (startP N (args a)) (cells a) (defBody st) { nx := fun _ c' => post a c' .non, rt := fun _ c' d => post a c' d }) : FnOk P w K mg base (L2.CX P w) (k + 1) f fd ps (spG K args cells pre post exc) := by
  refine Fu.okX S (fun vs H Q E ⟨M, a, _, _, _, _, dv, _⟩ => by rw [dv.length, hl a]) (fun cdv A outer s H vs Q E hr ⟨M, a, hM, nd, dj, ce, dv, hp, k, kx⟩ => ?_)
  have aft : ∀ {Γ' : List Sl} {c' : Cells} {σ' : L2.St} {H' : Hp}, SI K { H0 := H, M := M, W := addrs (cells a) } Γ' c' σ' H' → Aft K M H (cells a) c' H' := fun S' =>
    ⟨fun b o e n => (of_mask (S'.keep b o (by rw [mask_out n]; exact e))).2, S'.nd, fun x hx => ⟨(S'.fr x hx).2, (S'.fr x hx).1⟩, S'.ce, S'.wl⟩
  have hq := h cdv A outer s H E { H0 := H, M := M, W := addrs (cells a) } a hp hr ⟨fun cls d _ H => E cls d H, takes_of rfl rfl rfl rfl, fun Γ' c' σ' H' x cls dx ex S' xa => kx cls dx H' c' x ex (aft S') xa⟩
  refine ⟨_, pSts, hq _ H _ ⟨?_, nd, fun i d hi => ?_, ce, Ex.refl _, fun x hx => ⟨.inl hx, dj x hx⟩, hM, fun x hx => ?_⟩ ⟨?_, ?_, fun _ _ _ _ z => z.elim, fun _ _ _ _ z => z.elim⟩⟩
  · unfold L2.start startP
    rw [List.length_append, List.length_append, List.length_map, List.length_map, List.length_replicate, List.length_replicate, dv.length]
  · unfold L2.start
    rw [dv.length]
    exact slots_dat _ dv i d hi
  · obtain ⟨p, h1, h2⟩ := of_addrs hx
    exact ((ce p h1).live x h2).ex
  · intro Γ' c' σ' H' p S' e'
    exact k .non H' c' .non p (aft S') .non
  · intro Γ' c' σ' H' v d p S' e' dv'
    exact k v H' c' d p (aft S') dv'
/-- a def that changes nothing -/
def spP (K : PySem.W.Frag) {α : Type} (args : α → List Dt) (pre : α → Prop) (post : α → Dt → Prop) : Sp := spG K args (fun _ => []) pre (fun a c' d => c' = [] ∧ post a d) fun _ _ _ => False
def LIM : Nat := 1000000000
/-- a def whose first argument is the bag -/
def spB (K : PySem.W.Frag) {α : Type} (args : α → List Dt) (pre : α → Prop) (cost : α → Nat) (post : α → Dt → Prop) : Sp :=
  spG K (fun (a : Addr × Nat × α) => .raw (.ref a.1) :: args a.2.2) (fun a => [(a.1, .bag a.2.1)]) (fun a => a.2.1 + cost a.2.2 ≤ LIM ∧ pre a.2.2) (fun a c' d => (∃ n, n ≤ a.2.1 + cost a.2.2 ∧ c' = [(a.1, .bag n)]) ∧ post a.2.2 d) fun _ _ _ => False
theorem fn_P {α : Type} {args : α → List Dt} {pre : α → Prop} {post : α → Dt → Prop} {x qual : Str} {st : Stmt} {f : Addr} {fd : FuncData} {N ps : List Str} {k : Nat} (Fu : Fun K x qual st f fd) (S : FnScope N ps (defScope st)) (hl : ∀ a, (args a).length = ps.length)
    (h : ∀ (cdv : Value) (A : Around) (outer : List Env) (s : Shared) (H : Hp) (E : XK) (F : Fm) (a : α), pre a → Room k (A.deeper (envOfC qual (defScope st) s.heap.objs.size f cdv)) →
      SS F (cxOf (L2.CX P w) P w K mg base N qual (defScope st) f cdv A outer s H E) (startP N (args a)) [] (defBody st) { nx := fun _ c' => c' = [] ∧ post a .non, rt := fun _ c' d => c' = [] ∧ post a d }) : FnOk P w K mg base (L2.CX P w) (k + 1) f fd ps (spP K args pre post) :=
  fn_G Fu S hl fun cdv A outer s H E F a hp hr _ => h cdv A outer s H E F a hp hr
theorem fn_B {α : Type} {args : α → List Dt} {pre : α → Prop} {cost : α → Nat} {post : α → Dt → Prop} {x qual : Str} {st : Stmt} {f : Addr} {fd : FuncData} {N ps : List Str} {k : Nat} (Fu : Fun K x qual st f fd) (S : FnScope N ps (defScope st)) (hl : ∀ a, (args a).length + 1 = ps.length)
    (h : ∀ (cdv : Value) (A : Around) (outer : List Env) (s : Shared) (H : Hp) (E : XK) (F : Fm) (b : Addr) (n : Nat) (a : α), pre a → n + cost a ≤ LIM → Room k (A.deeper (envOfC qual (defScope st) s.heap.objs.size f cdv)) →
      SS F (cxOf (L2.CX P w) P w K mg base N qual (defScope st) f cdv A outer s H E) (startP N (.raw (.ref b) :: args a)) [(b, .bag n)] (defBody st) { nx := fun _ c' => (∃ m, m ≤ n + cost a ∧ c' = [(b, .bag m)]) ∧ post a .non, rt := fun _ c' d => (∃ m, m ≤ n + cost a ∧ c' = [(b, .bag m)]) ∧ post a d }) : FnOk P w K mg base (L2.CX P w) (k + 1) f fd ps (spB K args pre cost post) :=
  fn_G Fu S (fun a => by rw [List.length_cons]; exact hl a.2.2) fun cdv A outer s H E F a hp hr _ => h cdv A outer s H E F a.1 a.2.1 a.2.2 hp.2 hp.1 hr
end
section
variable {F : Fm} {X : Cx} {Γ : List Sl} {c : Cells} {P : Cells → Dt → Prop} {pos : Pos}
theorem se_fP {α : Type} {args : α → List Dt} {pre : α → Prop} {post : α → Dt → Prop} {k : Nat} {ps : List Str} {x : Str} {p : Pos} {e : Expr} {es : List Expr}
    (Df : DefOk X.prog X.w X.K X.mg X.base k x ps (spP X.K args pre post)) (hr : Room k X.A)
    (h : SA F X Γ c (e :: es) fun c1 ds => ∃ a, ds = args a ∧ pre a ∧ ∀ d, post a d → P c1 d) (hg : Gl X x := by rfl) (hdb : (x == ("__debug__" : Str)) = false := by decide)
    (he : starEach (e :: es) X.env = (false, eval e X.env) :: starEach es X.env := by rfl) (hpl : (backTo pos (starEach es X.env)).any (·.1) = false := by rfl) : SE F X Γ c (.Call (.Name x p) (e :: es) [] pos) P :=
  se_fG Df hr XT.no (.mk fun σ H Q S k => h σ H Q S fun vs H' c' ds q => k vs H' c' ds (by
    obtain ⟨a, h1, h2, h3⟩ := q
    refine ⟨a, c', [], h1, by simp, h2, ?_, fun _ _ z => z⟩
    rintro c2 d ⟨rfl, pd⟩
    rw [List.append_nil, List.append_nil]
    exact h3 d pd)) hg hdb he hpl
theorem SI.bagW {K : PySem.W.Frag} {σ : L2.St} {H : Hp} (S : SI K F Γ c σ H) {j : Nat} {b : Addr} {n m : Nat} (hj : c[j]? = some (b, .bag n)) (h : n ≤ m) : SI K F Γ (c.set j (b, .bag m)) σ H ∧ Ex (Vw F c H) (Vw F (c.set j (b, .bag m)) H) :=
  S.chg (q' := .bag m) hj rfl (fun _ _ => rfl) (BagAt.mono (S.cat hj) h)
theorem split_at {α : Type} {l : List α} {j : Nat} {x : α} (h : l[j]? = some x) : l = l.take j ++ [x] ++ l.drop (j + 1) ∧ ∀ y, l.set j y = l.take j ++ [y] ++ l.drop (j + 1) := by
  have hl : j < l.length := (List.getElem?_eq_some_iff.mp h).1
  have e : l[j] = x := (List.getElem?_eq_some_iff.mp h).2
  refine ⟨?_, fun y => ?_⟩
  · rw [List.append_assoc, ← e]
    show l = l.take j ++ (l[j] :: l.drop (j + 1))
    rw [← List.drop_eq_getElem_cons hl, List.take_append_drop]
  · rw [List.append_assoc]
    show l.set j y = l.take j ++ (y :: l.drop (j + 1))
    rw [List.set_eq_take_append_cons_drop, if_pos hl]
theorem se_fB {α : Type} {args : α → List Dt} {pre : α → Prop} {cost : α → Nat} {post : α → Dt → Prop} {k : Nat} {ps : List Str} {x : Str} {p : Pos} {e : Expr} {es : List Expr} (j : Nat)
    (Df : DefOk X.prog X.w X.K X.mg X.base k x ps (spB X.K args pre cost post)) (hr : Room k X.A)
    (h : SA F X Γ c (e :: es) fun c1 ds => ∃ b n a, c1[j]? = some (b, .bag n) ∧ ds = .raw (.ref b) :: args a ∧ pre a ∧ n + cost a ≤ LIM ∧ ∀ d, post a d → P (c1.set j (b, .bag (n + cost a))) d) (hg : Gl X x := by rfl) (hdb : (x == ("__debug__" : Str)) = false := by decide)
    (he : starEach (e :: es) X.env = (false, eval e X.env) :: starEach es X.env := by rfl) (hpl : (backTo pos (starEach es X.env)).any (·.1) = false := by rfl) : SE F X Γ c (.Call (.Name x p) (e :: es) [] pos) P := by
  refine .mk fun σ H Q S k => ?_
  refine se_fG (P := fun c2 d => ∃ c1 b n m, c1[j]? = some (b, .bag n) ∧ n ≤ m ∧ P (c1.set j (b, .bag m)) d ∧ c2 = c1) Df hr XT.no (.mk fun σ H Q S k => h σ H Q S fun vs H' c' ds q => k vs H' c' ds (by
    obtain ⟨b, n, a, h1, h2, h3, h4, h5⟩ := q
    obtain ⟨e1, e2⟩ := split_at h1
    refine ⟨(b, n, a), c'.take j, c'.drop (j + 1), h2, e1, ⟨h4, h3⟩, ?_, fun _ _ z => z⟩
    rintro c2 d ⟨⟨m, hm, rfl⟩, pd⟩
    refine ⟨_, b, m, n + cost a, ?_, hm, ?_, rfl⟩
    · rw [← e2]
      exact List.getElem?_set_self (List.getElem?_eq_some_iff.mp h1).1
    · rw [← e2, List.set_set]
      exact h5 d pd)) hg hdb he hpl σ H Q S ?_
  rintro v H' c' d ⟨c1, b, n, m, h1, h2, h3, rfl⟩ S' e' dv
  obtain ⟨S2, e2⟩ := S'.bagW h1 h2
  exact k v H' _ d h3 S2 (e'.trans e2) (dv.mono e2)
end
end D
end
section
set_option Elab.async false
set_option linter.all false
set_option maxRecDepth 100000
namespace D
open PySem L2 PyProof.Rows
abbrev tl (s : Str) : List Nat := s.cps.toList
theorem tl_app (a b : Str) : tl (a ++ b) = tl a ++ tl b := TL.tl_append a b
theorem len_app (a b : Str) : (a ++ b).length = a.length + b.length := by rw [TL.len_tl, TL.len_tl a, TL.len_tl b, TL.tl_append, List.length_append]
theorem len_tl (s : Str) : s.length = (tl s).length := TL.len_tl s
theorem tl_join (y : Str) (l : List Str) : tl (Txt.join y l) = TL.joinL (tl y) (l.map tl) := by
  rw [TL.join_eq]
  exact TL.tl_join y l
theorem joinL_nil : ∀ l : List (List Nat), TL.joinL [] l = l.flatten
  | [] => rfl
  | [p] => by simp [TL.joinL]
  | p :: q :: r => by
    show p ++ ([] ++ TL.joinL [] (q :: r)) = (p :: q :: r).flatten
    rw [joinL_nil (q :: r)]
    rfl
theorem tl_join0 {y : Str} (h : tl y = []) (l : List Str) : tl (Txt.join y l) = (l.map tl).flatten := by rw [tl_join, h, joinL_nil]
/-- plain texts: a length, signs of seven bits -/
structure Asc (n : Nat) (s : Str) : Prop where
  len : s.length ≤ n
  cp : ∀ a ∈ tl s, a < 128
theorem Asc.mono {n m : Nat} {s : Str} (h : Asc n s) (l : n ≤ m) : Asc m s := ⟨Nat.le_trans h.len l, h.cp⟩
theorem Asc.ok {n : Nat} {s : Str} (h : Asc n s) : PyData.strOk s = true := by
  unfold PyData.strOk
  rw [Array.all_eq_true_iff_forall_mem]
  intro a ha
  have := h.cp a (by simpa [tl] using ha)
  exact decide_eq_true (by omega)
theorem Asc.app {n m : Nat} {a b : Str} (h : Asc n a) (k : Asc m b) : Asc (n + m) (a ++ b) := ⟨by rw [len_app]; exact Nat.add_le_add h.len k.len, fun x hx => by
  rw [tl_app] at hx
  rcases List.mem_append.mp hx with z | z
  · exact h.cp x z
  · exact k.cp x z⟩
theorem tl_cut (z : Str) (lo hi : Option Int) : tl (cutS z lo hi) = ((tl z).drop (HT.sIx z.length 0 lo)).take (HT.sIx z.length z.length hi - HT.sIx z.length 0 lo) := rfl
theorem cutD_from {α : Type} (l : List α) {k : Int} (h : 0 ≤ k) : cutD l (some k) none = l.drop k.toNat := by
  unfold cutD
  show (l.drop (if k < 0 then _ else min k.toNat l.length)).take (l.length - (if k < 0 then _ else min k.toNat l.length)) = _
  rw [if_neg (by omega)]
  by_cases e : k.toNat ≤ l.length
  · rw [Nat.min_eq_left e, List.take_of_length_le (by rw [List.length_drop]; omega)]
  · rw [Nat.min_eq_right (by omega), List.drop_length, List.drop_of_length_le (by omega)]
    simp
theorem cutD_to {α : Type} (l : List α) {k : Int} (h : 0 ≤ k) : cutD l none (some k) = l.take k.toNat := by
  unfold cutD
  show (l.drop 0).take ((if k < 0 then _ else min k.toNat l.length) - 0) = _
  rw [if_neg (by omega), List.drop_zero, Nat.sub_zero]
  by_cases e : k.toNat ≤ l.length
  · rw [Nat.min_eq_left e]
  · rw [Nat.min_eq_right (by omega), List.take_length, List.take_of_length_le (by omega)]
theorem cutD_mem {α : Type} {l : List α} {lo hi : Option Int} {a : α} (h : a ∈ cutD l lo hi) : a ∈ l := List.mem_of_mem_drop (List.mem_of_mem_take h)
theorem eqd_lst_nil (l : List Dt) : eqd (.lst l) (.lst []) = l.isEmpty := by
  unfold eqd
  cases l with
  | nil => rfl
  | cons d l => rfl
section
variable {F : Fm} {X : Cx} {Γ : List Sl} {c : Cells} {Φ : PEnds} {pos : Pos}
theorem so_none {P : Cells → Option Int → Prop} (p : P c none) : SO F X Γ c none P := p
theorem so_some {e : Expr} {P : Cells → Option Int → Prop} (h : SE F X Γ c e fun c1 d => ∃ i, d = .int i ∧ P c1 (some i)) : SO F X Γ c (some e) P := h
end
end D
end
section
set_option Elab.async false
set_option linter.all false
set_option maxRecDepth 100000
namespace D
open PySem L2 PyProof.Rows
theorem room65 {k : Nat} {A : Around} (hr : Room k A) : A.units + 65 < cLine := by have := hr.un; omega
section
variable {F : Fm} {X : Cx} {Γ : List Sl} {c : Cells} {P : Cells → Dt → Prop} {Φ : PEnds} {pos : Pos}
theorem se_neg {e : Expr} (h : SE F X Γ c e fun c1 d => ∃ i : Int, d = .int i ∧ P c1 (.int (-i))) : SE F X Γ c (.UnaryOp .USub e pos) P :=
  SE.of (pe_un un_neg pE) fun σ H Q S k => h σ H _ S fun v H1 c1 d p S1 e1 dv => by
    obtain ⟨i, rfl, p⟩ := p
    cases dv
    exact ⟨i, rfl, k _ H1 c1 _ p S1 e1 (.int _)⟩
end
end D
end
section
set_option Elab.async false
set_option linter.all false
set_option maxRecDepth 100000
namespace D
open PySem L2 PyProof.Rows
end D
end
section
set_option Elab.async false
set_option linter.all false
set_option maxRecDepth 100000
namespace D
open PySem L2 PyProof.Rows
section
variable {κ : Type} [DecidableEq κ]
def dval (l : List (κ × Dt)) (k : κ) : Option Dt := (l.find? fun kv => decide (kv.1 = k)).map (·.2)
def dput (l : List (κ × Dt)) (k : κ) (d : Dt) : List (κ × Dt) := if (l.any fun kv => decide (kv.1 = k)) = true then l.map (fun kv => if kv.1 = k then (kv.1, d) else kv) else l ++ [(k, d)]
def ddrop (l : List (κ × Dt)) (k : κ) : List (κ × Dt) := l.filter fun kv => decide (kv.1 ≠ k)
end
/-- the values, key by key -/
inductive DVp {κ : Type} (K : PySem.W.Frag) (H : Hp) : List (κ × V) → List (κ × Dt) → Prop
  | nil : DVp K H [] []
  | cons {k : κ} {v : V} {vs : List (κ × V)} {d : Dt} {ds : List (κ × Dt)} : DV K H v d → DVp K H vs ds → DVp K H ((k, v) :: vs) ((k, d) :: ds)
section
variable {K : PySem.W.Frag} {H : Hp}
theorem DVk.p : ∀ {xs : List (Key × V)} {l : List (Key × Dt)}, DVk K H xs l → DVp K H xs l
  | _, _, .nil => .nil
  | _, _, .cons h t => .cons h (DVk.p t)
theorem DVp.k : ∀ {xs : List (Key × V)} {l : List (Key × Dt)}, DVp K H xs l → DVk K H xs l
  | _, _, .nil => .nil
  | _, _, .cons h t => .cons h (DVp.k t)
theorem DVu.p : ∀ {xs : List (List Key × V)} {l : List (List Key × Dt)}, DVu K H xs l → DVp K H xs l
  | _, _, .nil => .nil
  | _, _, .cons h t => .cons h (DVu.p t)
theorem DVp.u : ∀ {xs : List (List Key × V)} {l : List (List Key × Dt)}, DVp K H xs l → DVu K H xs l
  | _, _, .nil => .nil
  | _, _, .cons h t => .cons h (DVp.u t)
section
variable {κ : Type} [DecidableEq κ]
theorem DVp.length : ∀ {xs : List (κ × V)} {l : List (κ × Dt)}, DVp K H xs l → xs.length = l.length
  | _, _, .nil => rfl
  | _, _, .cons _ t => congrArg (· + 1) (DVp.length t)
theorem DVp.get : ∀ {xs : List (κ × V)} {l : List (κ × Dt)} {i : Nat} {k : κ} {v : V}, DVp K H xs l → xs[i]? = some (k, v) → ∃ d, l[i]? = some (k, d) ∧ DV K H v d
  | _, _, _, _, _, .nil, h => by simp at h
  | _, _, 0, _, _, .cons h t, e => by simp at e; obtain ⟨rfl, rfl⟩ := e; exact ⟨_, rfl, h⟩
  | _, _, i + 1, k, v, .cons h t, e => by
    obtain ⟨d, h1, h2⟩ := DVp.get (i := i) t (by simpa using e)
    exact ⟨d, by simpa using h1, h2⟩
theorem dval_pos {p : κ × Dt} {r : List (κ × Dt)} {k : κ} (e : p.1 = k) : dval (p :: r) k = some p.2 := by simp [dval, List.find?_cons, e]
theorem dval_neg {p : κ × Dt} {r : List (κ × Dt)} {k : κ} (e : ¬ p.1 = k) : dval (p :: r) k = dval r k := by simp [dval, List.find?_cons, e]
theorem dval_any (k : κ) : ∀ l : List (κ × Dt), (l.any fun kv => decide (kv.1 = k)) = (dval l k).isSome
  | [] => rfl
  | p :: l => by
    by_cases e : p.1 = k
    · rw [dval_pos e, List.any_cons]; simp [e]
    · rw [dval_neg e, List.any_cons, dval_any k l]; simp [e]
/-- the looked-up value: both there, or both not -/
theorem DVp.val (k : κ) : ∀ {xs : List (κ × V)} {l : List (κ × Dt)}, DVp K H xs l → (valV xs k = none ∧ dval l k = none) ∨ ∃ v d, valV xs k = some v ∧ dval l k = some d ∧ DV K H v d
  | _, _, .nil => .inl ⟨rfl, rfl⟩
  | _, _, .cons (k := j) (v := v) (d := d) h t => by
    by_cases e : j = k
    · exact .inr ⟨v, d, valV_pos e, dval_pos e, h⟩
    · rw [valV_neg (p := (j, v)) e, dval_neg (p := (j, d)) e]
      exact DVp.val k t
theorem DVp.repl (k : κ) {v : V} {d : Dt} (dv : DV K H v d) : ∀ {xs : List (κ × V)} {l : List (κ × Dt)}, DVp K H xs l → DVp K H (xs.map fun kv => if kv.1 = k then (kv.1, v) else kv) (l.map fun kv => if kv.1 = k then (kv.1, d) else kv)
  | _, _, .nil => .nil
  | _, _, .cons (k := j) h t => by
    by_cases e : j = k
    · simp only [List.map_cons, e, if_true]; exact .cons dv (DVp.repl k dv t)
    · simp only [List.map_cons, if_neg e]; exact .cons h (DVp.repl k dv t)
theorem DVp.app : ∀ {xs ys : List (κ × V)} {l m : List (κ × Dt)}, DVp K H xs l → DVp K H ys m → DVp K H (xs ++ ys) (l ++ m)
  | _, _, _, _, .nil, u => u
  | _, _, _, _, .cons h t, u => .cons h (DVp.app t u)
theorem DVp.put (k : κ) {v : V} {d : Dt} (dv : DV K H v d) {xs : List (κ × V)} {l : List (κ × Dt)} (t : DVp K H xs l) : DVp K H (putK xs k v) (dput l k d) := by
  have e : (xs.any fun kv => decide (kv.1 = k)) = (l.any fun kv => decide (kv.1 = k)) := by
    rw [valV_any, dval_any]
    rcases t.val k with ⟨h1, h2⟩ | ⟨a, b, h1, h2, _⟩ <;> rw [h1, h2] <;> rfl
  unfold putK dput
  rw [e]
  by_cases z : (l.any fun kv => decide (kv.1 = k)) = true
  · rw [if_pos z, if_pos z]; exact t.repl k dv
  · rw [if_neg z, if_neg z]; exact t.app (.cons dv .nil)
theorem DVp.drop (k : κ) : ∀ {xs : List (κ × V)} {l : List (κ × Dt)}, DVp K H xs l → DVp K H (dropK xs k) (ddrop l k)
  | _, _, .nil => .nil
  | _, _, .cons (k := j) h t => by
    unfold dropK ddrop
    by_cases e : j = k
    · simp only [List.filter_cons, e, ne_eq, not_true_eq_false, decide_false]
      exact DVp.drop k t
    · simp only [List.filter_cons, e, ne_eq, not_false_eq_true, decide_true, if_true]
      exact .cons h (DVp.drop k t)
end
end
/-- a datum as a key -/
def dkey : Dt → Option Key
  | .int i => some (.inl i)
  | .str s => some (.inr s)
  | _ => none
theorem dkey_dv {K : PySem.W.Frag} {H : Hp} {v : V} {d : Dt} {k : Key} (h : DV K H v d) (e : dkey d = some k) : v = kV k := by
  cases h <;> cases e <;> rfl
section
variable {F : Fm} {X : Cx} {Γ : List Sl} {c : Cells} {P : Cells → Dt → Prop} {Φ : PEnds} {pos : Pos}
/-- {} -/
theorem se_dnew {P : Cells → Dt → Prop} (p : ∀ a, P (c ++ [(a, .dk [])]) (.raw (.ref a))) : SE F X Γ c (.Dict [] [] pos) P := SE.of pe_dnewK fun σ H Q S k q hq => by
  obtain ⟨S2, e2⟩ := S.addC (q := .dk []) (o := .dK []) hq rfl ⟨[], upd_same, .nil⟩
  exact k _ _ _ _ (p q) S2 e2 (.raw _)
theorem se_dnewT {P : Cells → Dt → Prop} (p : ∀ a, P (c ++ [(a, .dt [])]) (.raw (.ref a))) : SE F X Γ c (.Dict [] [] pos) P := SE.of pe_dnewT fun σ H Q S k q hq => by
  obtain ⟨S2, e2⟩ := S.addC (q := .dt []) (o := .dT []) hq rfl ⟨[], upd_same, .nil⟩
  exact k _ _ _ _ (p q) S2 e2 (.raw _)
end
end D
end
section
set_option Elab.async false
set_option linter.all false
set_option maxRecDepth 100000
namespace D
open PySem L2 PyProof.Rows
section
variable {F : Fm} {X : Cx} {Γ : List Sl} {c : Cells} {P : Cells → Dt → Prop} {Φ : PEnds} {pos : Pos}
def keysD (l : List (Key × Dt)) : List Dt := l.map fun kv => match kv.1 with | .inl i => Dt.int i | .inr s => Dt.str s
def valsD (l : List (Key × Dt)) : List Dt := l.map (·.2)
def kD : Key → Dt
  | .inl i => .int i
  | .inr s => .str s
theorem keysD_eq (l : List (Key × Dt)) : keysD l = l.map fun kv => kD kv.1 := rfl
theorem kD_dv {K : PySem.W.Frag} {H : Hp} (k : Key) : DV K H (kV k) (kD k) := by cases k with
  | inl i => exact .int i
  | inr s => exact .str s
variable {tg : Expr} {Pl : Cells → List Dt → Prop}
theorem sw_vals {e : Expr} {apos : Pos} (h : SE F X Γ c e fun c1 d => ∃ l, d = .dct l ∧ Pl c1 (valsD l)) (hbase : attributeBase e "values" X.env (eval e X.env) = eval e X.env := by rfl) (hline : (apos.endLine == pos.line) = true := by rfl) : SW F X Γ c tg (.Call (.Attribute e "values" apos) [] [] pos) Pl := .mk fun σ H R S k =>
  ⟨_, pi_values pE hbase hline, h σ H _ S fun v H1 c1 d p S1 k1 dv => by
    obtain ⟨l, rfl, p⟩ := p
    cases dv with
    | dct a t =>
      refine ⟨_, _, _, rfl, (of_mask a).2, k _ H1 c1 _ p S1 k1 ?_⟩
      have hl : (valsD l).length = _ := (List.length_map _).trans t.p.length.symm
      refine ⟨_, _, hl.symm ▸ walk_values, fun H e => e _ _ a, fun i Ha x Hb hi y _ => ?_⟩
      obtain ⟨h1, key, h2⟩ := y
      obtain ⟨d, h3, h4⟩ := t.p.get h2
      refine ⟨d, ?_, .inl ⟨h1, h4⟩⟩
      unfold valsD
      rw [List.getElem?_map, h3]
      rfl⟩
theorem ss_dropC {ss : List Stmt} (j : Nat) {p : Addr × Cel} (hj : c[j]? = some p) (h : SS F X Γ (c.eraseIdx j) ss Φ) : SS F X Γ c ss Φ := .mk fun σ H D S E => by
  obtain ⟨S2, e2, _⟩ := S.letGo (H' := H) hj (fun _ _ => rfl) ((S.cat hj).live)
  exact h σ H D S2 (E.ext e2)
end
end D
end
section
set_option Elab.async false
set_option linter.all false
set_option maxRecDepth 100000
namespace D
open PySem PySem.Spec L2 PyProof.Rows
end D
end
section
set_option Elab.async false
set_option linter.all false
set_option maxRecDepth 100000
namespace D
open PySem PySem.Spec L2 PyProof.Rows
section
variable {X : Cx}
theorem swD_true {kx vx : Expr} {gs : List Comprehension} {sc : Scope} {pos py : Pos} {y : Str} {l : Nat} {env : Env} (hk : env.scope.kind = .function) (hy : env.scope.names.lookup y = some .local) (hl : (py.line == pos.line) = true)
    (ha : (sc.names.any fun (n, k) => n == y && (k == .local || k == .cell)) = false) : swapsWith (.DictComp kx vx gs sc pos) (some (.Name y py)) l env = pure true := by
  have k1 : env.kindOf y = some .local := hy
  have k2 : env.blockKind = .function := by unfold Env.blockKind; rw [hk]; rfl
  unfold swapsWith
  simp only [k2, k1, ha, Expr.pos, hl]
  rfl
/-- the end of an assignment of what a comprehension has made -/
theorem use_end {pins : List (Addr × Obj)} {σ : L2.St} {D : Ends} {i : Nat} {y : Str} {py : Pos} {L C : Addr} {t : Shared} {m : Str → Option Value} {H' : Hp} (hN : X.N.Nodup) (hy : X.N[i]? = some y) (hyl : X.env.scope.names.lookup y = some .local)
    (I' : Inv X pins σ H' t) (q : gName i (.ref L) σ H' D.nx) (hn : t.heap.Ns C m) (f : FpOk X pins H' C) : compPost (model X.prog X.w) X.A X.xe (some (assign (.Name y py) X.env)) (fun _ t' => SP X pins D .next t') (.ref L) C (.ok .next) t := by
  show wpAny _ _ (assign (.Name y py) X.env (.ref L)) _ _ _
  refine wpAny_assign_Name (store_ok2 (v := V.ref L) I' hN hy (.inl hyl) rfl (fun t2 I2 ⟨a, sb, ha⟩ => ?_) (.inr hyl))
  obtain ⟨f0, f1, f2, f3, f4, f5⟩ := f
  have haC : C ≠ a := ha.elim (fun z => by rw [z]; exact f1) fun z e => f4 y a z e.symm
  exact ⟨m, hn.sameBut sb haC, fun h3 sb3 => ⟨_, H', I2.turned (t' := t2.toks) (fun b o hb e => (sb3.2 b hb).trans e) f0 f1 f3 f4 f5, q⟩⟩
theorem ps_setDc {i : Nat} {y : Str} {py spos : Pos} {kx vx tg iter : Expr} {ifs : List Expr} {sc : Scope} {own : List (Str × Nat)} {ps : Pos} {wi : TI} {g : TG} {tt : TT} {tk tv : TE} (hc : X.calm = true) (hN : X.N.Nodup) (hy : X.N[i]? = some y) (hyl : X.env.scope.names.lookup y = some .local)
    (hsw : swapsWith (.DictComp kx vx [⟨tg, iter, ifs, 0⟩] sc ps) (some (.Name y py)) spos.line X.env = pure true) (hi : PI X tg iter wi) (ok : BlkOk X.N X.env.scope sc own)
    (hg : AB X sc fun Y => PG Y tg g) (ht : AB X sc fun Y => PTs Y ifs tt) (hk : AB X sc fun Y => PE Y kx tk) (he : AB X sc fun Y => PE Y vx tv) (hs : ∀ z, foldedSetIterable iter X.env z = pure z) :
    PS X (.Assign [.Name y py] (.DictComp kx vx [⟨tg, iter, ifs, 0⟩] sc ps) spos) (tAsg (tDc wi g tt tk tv (own.map (·.2))) (gName i)) := by
  refine ⟨fun pins s σ H D I h => ?_⟩
  rw [exec_Assign_Name_used _ _ _ _ hsw]
  refine wpAny_bind (wpAny_standAt (wpAny_bind ?_))
  show wpAny _ X.A (do let _ ← comprehension (.DictComp kx vx [⟨tg, iter, ifs, 0⟩] sc ps) sc X.env (firstIterPos [⟨tg, iter, ifs, 0⟩] ps) newDict false (eval iter X.env) (some (assign (.Name y py) X.env))) _ _ s
  have h : tDc wi g tt tk tv (own.map (·.2)) σ H (fun x H1 => gName i x σ H1 D.nx) := h
  exact wpAny_bind (thn (dc_core (Qf := fun _ t => SP X pins D .next t) hc hN I hi ok hg ht hk he hs h fun L C t m H' I' q hn f => use_end hN hy hyl I' q hn f) fun _ t hq => wpAny_pure (wpAny_pure hq))
end
end D
end
section
set_option Elab.async false
set_option linter.all false
set_option maxRecDepth 100000
namespace D
open PySem PySem.Spec L2 PyProof.Rows
theorem dput_length {κ : Type} [DecidableEq κ] (l : List (κ × Dt)) (k : κ) (d : Dt) : (dput l k d).length ≤ l.length + 1 := by
  unfold dput
  split
  · rw [List.length_map]; omega
  · rw [List.length_append]; simp
theorem ww {σ : L2.St} (vs : List Nat) : wipe (wipe σ vs) vs = wipe σ vs := by
  have : ∀ (us : List Nat), (∀ u ∈ us, u ∈ vs) → wipe (wipe σ us) vs = wipe σ vs := by
    intro us
    induction us with
    | nil => intro _; rfl
    | cons u us ih =>
      intro h
      show wipe ((wipe σ us).set u none) vs = _
      rw [wipe_set (h u (List.mem_cons_self ..))]
      exact ih fun v hv => h v (List.mem_cons_of_mem _ hv)
  exact this vs fun u h => h
/-- a new dict -/
def SDt (F : Fm) (X : Cx) (Γ : List Sl) (c : Cells) (t : TE) (P : Cells → List (Key × Dt) → Prop) : Prop :=
  ∀ (σ : L2.St) (H : Hp) (Q : VK), SI X.K F Γ c σ H → (∀ p xs H1 c' l, P c' l → SI X.K F Γ c' σ H1 → Ex (Vw F c H) (Vw F c' H1) → H1 p = none → DVk X.K (Vw F c' H1) xs l → Q (.ref p) (upd H1 p (.dK xs))) → t σ H Q
section
variable {F : Fm} {X : Cx} {Γ : List Sl} {c : Cells} {Φ : PEnds} {pos : Pos} {P : Cells → List (Key × Dt) → Prop} {vs vs1 : List Nat}
theorem SDt.se {e : Expr} {t : TE} {P : Cells → Dt → Prop} (hp : PE X e t) (h : SDt F X Γ c t fun c1 l => ∀ a, P (c1 ++ [(a, .dk l)]) (.raw (.ref a))) : SE F X Γ c e P :=
  SE.of hp fun σ H Q S k => h σ H Q S fun p xs H1 c' l q S1 e1 hp dv => by
    obtain ⟨S2, e2⟩ := S1.addC (q := .dk l) (o := .dK xs) hp rfl ⟨xs, upd_same, dv⟩
    exact k _ _ _ _ (q p) S2 (e1.trans e2) (.raw _)
theorem s_setDT {st : Stmt} {t : TE} (i : Nat) (hp : PS X st (tAsg t (gName i))) (h : SDt F X Γ c t fun c1 l => ∀ a, Φ.nx (Γ.set i (.dat (.raw (.ref a)))) (c1 ++ [(a, .dk l)])) : S1 F X Γ c st Φ :=
  S1.of hp fun σ H D S E => h σ H _ S fun p xs H1 c' l q S1 e1 hp dv => by
    obtain ⟨S2, e2⟩ := S1.addC (q := .dk l) (o := .dK xs) hp rfl ⟨xs, upd_same, dv⟩
    exact E.nx _ _ _ _ (q p) (S2.setD (.raw _)) (e1.trans e2)
/-- one turn of {k: v for tg in iter} -/
def TurnD (X : Cx) (Γ : List Sl) (sc : Scope) (vs : List Nat) (tg kx vx : Expr) (d : Dt) (c' : Cells) (N : Cells → Key → Dt → Prop) : Prop :=
  ∀ F' : Fm, AB X sc fun Y => SGb F' Y (wipeG Γ vs) c' vs tg d fun Γ2 => AB X sc fun Y => SE F' Y Γ2 c' kx fun c2 dk => ∃ k, dkey dk = some k ∧ AB X sc fun Y => SE F' Y Γ2 c2 vx fun c3 dv => N c3 k dv
theorem sdt_dc {kx vx tg iter : Expr} {sc : Scope}
    (h : SW F X Γ c tg iter fun c1 ds => ds.length ≤ sizeLine ∧ ∃ Jv : Nat → Cells → List (Key × Dt) → Prop, Jv 0 c1 [] ∧
      (∀ i d c' acc, ds[i]? = some d → Jv i c' acc → TurnD X Γ sc vs tg kx vx d c' fun c2 k y => Jv (i + 1) c2 (dput acc k y)) ∧ ∀ c' acc, Jv ds.length c' acc → P c' acc) : SDt F X Γ c (tDc (wI X tg iter) (tGb X sc tg) tYes (tEb X sc kx) (tEb X sc vx) vs) P := fun σ H Q S kk => by
  refine h σ H _ S fun J H1 c1 ds p S1 e1 src L hL => ?_
  obtain ⟨hz, Jv, j0, turn, done⟩ := p
  obtain ⟨G, Y, w, hG, hY⟩ := src
  have nM : L ∉ F.M := fun z => S1.fresh hL (List.mem_append_right _ z)
  have nW := S1.nW hL
  have h0 := S1.h0 hL
  obtain ⟨Sh, eh⟩ := S1.hide (D := L) (o := .dK []) hL (fun _ z => nomatch z)
  let Pv : Nat → Hp → Prop := fun i H' => ∃ c' acc xs, Jv i c' acc ∧ acc.length ≤ i ∧ SI X.K (FD F L (.dK xs)) Γ c' σ H' ∧ Ex (Vw F c1 H1) (Vw (FD F L (.dK xs)) c' H') ∧ DVk X.K (Vw (FD F L (.dK xs)) c' H') xs acc
  refine ⟨fun i m H => m = ds.length - i ∧ i ≤ ds.length ∧ Pv i H, ⟨ds.length, by simp, Nat.zero_le _, c1, [], [], j0, Nat.le_refl _, Sh, eh, .nil⟩, ?_⟩
  rintro i m H' ⟨rfl, hi, c', acc, xs, jv, la, S', e', dvs⟩
  have g := hG H' (e'.trans (mask_ex _ _))
  by_cases hlt : i < ds.length
  · refine .inr ⟨w.goes i H' hlt g, Pv (i + 1), fun H2 p2 => ⟨ds.length - (i + 1), by omega, rfl, hlt, p2⟩, fun x H2 y => ?_⟩
    obtain ⟨d, hd, it⟩ := hY i H' x H2 hlt (w.yields i H' x H2 hlt g y) (e'.trans (mask_ex _ _))
    obtain ⟨S2, e2, dv⟩ := it.dv' S' e'
    intro s0 H0 C cl fp
    refine turn i d c' acc hd jv (FD F L (.dK xs)) s0 H0 C cl fp (wipe σ vs) H2 x _ (S2.wipe vs) dv fun Γ2 σ2 q Sg hw => ⟨by rw [ww] at hw; exact hw, ?_⟩
    show tEb X sc kx σ2 H2 _
    intro s0 H0 C cl fp
    refine q s0 H0 C cl fp σ2 H2 _ Sg fun yk H3 c2 dk q2 S3 e3 dvk => ?_
    obtain ⟨key, hk, q2⟩ := q2
    intro s0 H0 C cl fp
    refine q2 s0 H0 C cl fp σ2 H3 _ S3 fun yv H4 c3 dy jn S4 e4 dvy => ?_
    have S5 : SI X.K (FD F L (.dK xs)) Γ c3 σ H4 := S2.back S4 (e3.trans e4)
    have ee := e2.trans (e3.trans e4)
    refine ⟨xs, key, dkey_dv dvk hk, S5.hD nW, by rw [dvs.p.length]; omega, c3, dput acc key dy, putK xs key yv, jn, ?_, S5.grow (fun _ z => nomatch z), ?_, ?_⟩
    · have := dput_length acc key dy; omega
    · rw [vw_FD_upd (o := .dK xs)]
      exact e'.trans ee
    · rw [vw_FD_upd (o := .dK xs)]
      exact ((dvs.mono ee).p.put key dvy).k
  · have ei : i = ds.length := by omega
    subst ei
    refine .inl ⟨w.stops H' g, ?_⟩
    have q := kk L xs (rm H' L) c' acc (done c' acc jv) (S'.unhide h0 nM nW) (e1.trans (e'.trans vw_rm)) rm_same (dvs.mono vw_rm)
    rw [upd_rm (S'.hD nW)] at q
    exact q
end
end D
end
section
set_option Elab.async false
set_option linter.all false
set_option maxRecDepth 100000
namespace D
open PySem PySem.Spec L2 PyProof.Rows
end D
end
section
set_option Elab.async false
set_option linter.all false
set_option maxRecDepth 100000
namespace D
open PySem PySem.Spec L2 PyProof.Rows
theorem enum_newT (t : Addr) (items : Array Value) :
    Meets (Builtin.«enumerate.__new__» ⟨[.type "enumerate", .ref t], []⟩) (fun _ R s => s.heap.IsTuple t items ∧
      R (.ok (.ret (.ref (s.heap.push { cls := .type "tuple_iterator", data := .fields #[.ref t, .int 0 0] }).objs.size)))
        { s with heap := (s.heap.push { cls := .type "tuple_iterator", data := .fields #[.ref t, .int 0 0] }).push { cls := .type "enumerate", data := .fields #[.none, .bool false, .ref s.heap.objs.size, rawInt 0, .none, .none] } }) :=
  .of_wp fun prog w A R s h => by
    obtain ⟨hp, g, d, tk, os⟩ := s
    obtain ⟨ht, h⟩ := h
    have hsub := sub_enumerate
    obtain ⟨o, ho, hcls, n, hdat⟩ := id ht
    have q1 : ∀ {A' : Around} {E : Value → Shared → Prop} {Q : Value → Shared → Prop}, Q (.ref hp.objs.size) ⟨(hp.push { cls := .type "tuple_iterator", data := .fields #[.ref t, .int 0 0] }), g, d, tk, os⟩ → wpAny (model prog w) A' (pyIter (.ref t)) Q E ⟨hp, g, d, tk, os⟩ :=
      fun q => wpAny_pyIter_tuple ht q
    wp_walk using wpAny_loadPart' ho
    refine wpAny_stack_any fun st => wpAny_pure ?_
    split
    · rename_i k _ _ _ _ _
      cases (k == Value.type "enumerate")
      · wp_walk using wpAny_loadPart' ho, q1
        exact ⟨_, rfl, h⟩
      · wp_walk using wpAny_loadPart' ho, q1
        exact ⟨_, rfl, h⟩
    · wp_walk using wpAny_loadPart' ho, q1
      exact ⟨_, rfl, h⟩
section
variable {prog : Program} {w : World} {A : Around} {E : Value → Shared → Prop} {s : Shared}
theorem call_enumT {t : Addr} {items : Array Value} {Q : Value → Shared → Prop} (hT : s.heap.IsTuple t items)
    (h : ∀ h', IsEnum h' (s.heap.objs.size + 1) s.heap.objs.size 0 .none → h'.IsTupleIter s.heap.objs.size t 0 → h'.objs.size = s.heap.objs.size + 2 → (∀ b o, s.heap.get? b = some o → h'.get? b = some o) → Q (.ref (s.heap.objs.size + 1)) { s with heap := h' }) :
    wpAny (model prog w) A (call (.type "enumerate") [.ref t]) Q E s := by
  refine callType_new F.called_enumerate (by decide) (F.typeCall_enumerate_1 _) (F.newCall_enumerate_1 _) (fun ob => F.args_object_init_2 ob _) F.entry_enumerate_new (enum_newT t items) ⟨hT, ?_⟩
  have hz : (s.heap.push { cls := .type "tuple_iterator", data := .fields #[.ref t, .int 0 0] }).objs.size = s.heap.objs.size + 1 := Heap.size_push ..
  show _ ∧ _
  rw [hz]
  have he : IsEnum ((s.heap.push { cls := .type "tuple_iterator", data := .fields #[.ref t, .int 0 0] }).push { cls := .type "enumerate", data := .fields #[.none, .bool false, .ref s.heap.objs.size, rawInt 0, .none, .none] }) (s.heap.objs.size + 1) s.heap.objs.size 0 .none := by
    have q := Heap.get?_push_size (s.heap.push { cls := .type "tuple_iterator", data := .fields #[.ref t, .int 0 0] }) (o := { cls := .type "enumerate", data := .fields #[.none, .bool false, .ref s.heap.objs.size, rawInt 0, .none, .none] }) rfl
    rwa [hz] at q
  exact ⟨⟨_, he, rfl⟩, h _ he ⟨_, Heap.get?_push_of_some _ (Heap.get?_push_size _ rfl), rfl, rfl⟩ (by rw [Heap.size_push, hz]) fun b o y => Heap.get?_push_of_some _ (Heap.get?_push_of_some _ y)⟩
end
/-- the tuple at a, each item in a new pair -/
def IteT (K : PySem.W.Frag) (a : Addr) : It :=
  ⟨fun i H => ∃ (xs : List V) (x : V), SqT K H a xs ∧ xs[i]? = some x, fun i H v H' => ∃ T x, v = .ref T ∧ H T = none ∧ H' = upd H T (.tup [.int (i : Nat), x]) ∧ ∀ xs, SqT K H a xs → xs[i]? = some x, fun i H => ∃ xs : List V, SqT K H a xs ∧ xs.length = i⟩
theorem turn_enumT {P : Program} {w : World} {K : PySem.W.Frag} {elts : List Expr} {kk : Nat} {tpos : Pos} (a e it : Addr) :
    Turn P w K (.Tuple elts kk tpos) (IteT K a) [e, it] e (fun i h => (∃ old, IsEnum h e it ((i : Nat) : Int) old) ∧ h.IsTupleIter it a i ∧ e ≠ it ∧ a ≠ it ∧ a ≠ e) where
  mem := by simp
  obj := fun i h st b hb => by
    obtain ⟨⟨old, he⟩, ⟨o, ho, hc, hd⟩, _⟩ := st
    rcases (show b = e ∨ b = it by simpa using hb) with z | z
    · subst z; exact ⟨_, he, fun v q => nomatch q⟩
    · subst z; exact ⟨o, ho, fun v q => by rw [hd] at q; cases q⟩
  keep := fun i h h' st k => let ⟨⟨old, he⟩, hi, hne⟩ := st; ⟨⟨old, k e (by simp) _ he⟩, hi.at fun o q => k it (by simp) o q, hne⟩
  item := by
    intro X hP hw hK hc i pins s σ H E I hf st hg
    subst hP hw hK
    obtain ⟨⟨old, he⟩, hit, hne, hai, hae⟩ := st
    obtain ⟨xs, x, hq, hx⟩ := hg
    obtain ⟨its, rv, p, hz⟩ := I.tuple hq
    obtain ⟨u, hu, ru⟩ := rv.get hx
    have hel : e < s.heap.objs.size := Heap.lt_size he
    have hil : it < s.heap.objs.size := hit.elim fun _ q => Heap.lt_size q.1
    have hlt : i < its.toArray.size := by simpa using (List.getElem?_eq_some_iff.mp hu).1
    refine wpAny_pyNext_enum_itemD (Draws.tuple (prog := X.prog) (w := X.w) (A := X.A.in1) (I.ok.hd hc) it a hai its.toArray) he ⟨hit, p⟩ hlt hne (by simp [hne, Ne.symm hae]) fun u' h' tk hP ho hst hT hsz hk => ?_
    have eu : u' = u := by
      have : its.toArray[i]? = some u' := hP
      simp only [List.getElem?_toArray] at this
      rw [hu] at this
      exact (Option.some.inj this).symm
    subst eu
    refine ⟨_, rfl, wpAny_letOwnedTupleGo_enum (s := { s with heap := h', toks := tk + 1 }) ho fun h'' he' sb => ?_⟩
    have hT2 : h''.get? s.heap.objs.size = some { cls := .type "tuple", data := .seq #[.int i tk, u'] } := (sb.2 _ (Nat.ne_of_gt hel)).trans hT
    have new : ObjOk X.prog X.w (upd H s.heap.objs.size (.tup [.int (i : Nat), x])) h'' s.heap.objs.size (.tup [.int (i : Nat), x]) := ⟨by show 2 ≤ sizeLine; decide, [.int i tk, u'], .cons ⟨_, rfl⟩ (.cons ru .nil), ⟨_, hT2, rfl, _, rfl⟩⟩
    have I1 : Inv X pins σ (upd H s.heap.objs.size (.tup [.int (i : Nat), x])) { s with heap := h'', toks := tk + 1 } :=
      I.turnedNew (ch := [e, it]) (fun b ob hb q => (sb.2 b fun z => hb (by simp [z])).trans (hk b ob (fun z => hb (by simp [z])) (fun z => hb (by simp [z])) q)) hf (Nat.le_refl _) new
    refine ⟨.ref s.heap.objs.size, _, I1, rfl, ⟨_, x, rfl, I.hok.fresh (Nat.le_refl _), rfl, fun ys hy => by rw [I.tuple_inj hy hq]; exact hx⟩, ⟨⟨u', by rw [show ((i + 1 : Nat) : Int) = (i : Int) + 1 by omega]; exact he'⟩, hst.1.at fun o q => (sb.2 it (Ne.symm hne)).trans q, hne, hai, hae⟩, fun b hb => ?_⟩
    have hb' : b < s.heap.objs.size := by
      rcases (show b = e ∨ b = it by simpa using hb) with z | z
      · rw [z]; exact hel
      · rw [z]; exact hil
    rw [upd_ne (Nat.ne_of_lt hb')]
    exact (hf b hb).1
  done := by
    intro X hP hw hK hc i pins s σ H E I hf st hg
    subst hP hw hK
    obtain ⟨⟨old, he⟩, hit, hne, hai, hae⟩ := st
    obtain ⟨xs, hq, hx⟩ := hg
    obtain ⟨its, rv, p, hz⟩ := I.tuple hq
    obtain ⟨f0, f1, f2, f3, f4, f5⟩ := hf it (by simp)
    have hl := rv.length
    have en : i = its.toArray.size := by simp; omega
    subst en
    exact wpAny_pyNext_enum_endD (Draws.tuple (prog := X.prog) (w := X.w) (A := X.A.in1) (I.ok.hd hc) it a hai its.toArray) he ⟨hit, p⟩ fun h' eb => ⟨rfl, I.turned (t' := s.toks) (fun b o hb q => eb b o hb q) f0 f1 f3 f4 f5⟩
  self := fun A i s Q E st h => st.1.elim fun _ he => wpAny_pyIter_enum he h
def iEnumT (K : PySem.W.Frag) (ta : TA) : TI := fun σ H R => ta σ H fun vs H1 => ∃ a xs, vs = [.ref a] ∧ SqT K H1 a xs ∧ R (IteT K a) H1
theorem pi_enumT {X : Cx} {e : Expr} {ta : TA} {p pos tpos : Pos} {elts : List Expr} {kk : Nat} (hg : Gl X "enumerate") (hm : X.mg "enumerate" = none) (ha : PA X [e] ta) (hs : starEach [e] X.env = [(false, eval e X.env)] := by rfl) :
    PI X (.Tuple elts kk tpos) (.Call (.Name "enumerate" p) [e] [] pos) (iEnumT X.K ta) := by
  refine ⟨fun pins s σ H R I h => ?_⟩
  refine Call_ (ld_blt I hg hm boot_enumerate (PyProof.Rows.callWith_type1 (thn (ha.run pos pins s σ H _ I h) fun us t ⟨vs, H1, I1, r1, q1⟩ => ?_) hs rfl))
  obtain ⟨a, xs, rfl, hq, q⟩ := q1
  cases r1 with
  | cons r rr =>
    cases rr
    cases r
    obtain ⟨its, rv, p', hz⟩ := I1.tuple hq
    have hlt : a < t.heap.objs.size := p'.lt
    refine call_enumT p' fun h' he hit hsz hk => wpAny_pyIter_enum he ?_
    have I2 : Inv X pins σ H1 { t with heap := h' } := I1.kept (t' := t.toks) hk
    refine ⟨t.heap.objs.size + 1, [t.heap.objs.size + 1, t.heap.objs.size], _, _, H1, rfl, I2, turn_enumT a (t.heap.objs.size + 1) t.heap.objs.size, ⟨⟨.none, he⟩, hit, Nat.succ_ne_self _, Nat.ne_of_lt hlt, Nat.ne_of_lt (Nat.lt_succ_of_lt hlt)⟩, fun b hb => ?_, q⟩
    have hle : t.heap.objs.size ≤ b := by
      rcases (show b = t.heap.objs.size + 1 ∨ b = t.heap.objs.size by simpa using hb) with z | z
      · rw [z]; exact Nat.le_succ _
      · rw [z]; exact Nat.le_refl _
    exact I1.fpOk hle (I1.hok.fresh hle)
theorem walk_enumT {K : PySem.W.Frag} {a : Addr} {xs : List V} : Walk (IteT K a) xs.length (fun H => SqT K H a xs) (YPair (fun i => some (.int (i : Nat))) (fun i => xs[i]?)) :=
  ⟨fun i H hi h => ⟨xs, xs[i], h, List.getElem?_eq_getElem hi⟩, fun H h => ⟨xs, h, rfl⟩, fun i H x H' hi h ⟨T, y, e1, e2, e3, e4⟩ => ⟨T, .int (i : Nat), y, e1, e2, e3, rfl, e4 xs h⟩⟩
section
variable {F : Fm} {X : Cx} {Γ : List Sl} {c : Cells} {pos : Pos} {P : Cells → List Dt → Prop} {K : PySem.W.Frag}
theorem src_enumT {V0 : Hp} {a : Addr} {xs : List V} {l : List Dt} (h : SqT K V0 a xs) (t : DVs K V0 xs l) : Src K V0 (IteT K a) (enumD l) := by
  have hl : (enumD l).length = xs.length := by unfold enumD; rw [List.length_map, List.length_range, t.length]
  refine ⟨_, _, hl.symm ▸ walk_enumT (K := K) (a := a) (xs := xs), fun H e => ex_t e h, fun i H1 x H2 hi y _ => ?_⟩
  obtain ⟨T, x1, x2, h1, h2, h3, h4, h5⟩ := y
  rw [hl] at hi
  obtain ⟨d, h6, h7⟩ := t.getV h5
  cases h4
  refine ⟨.par [.int (i : Int), d], ?_, .inr ⟨T, _, x2, .int (i : Int), d, h1, h2, h3, rfl, .int _, h7⟩⟩
  unfold enumD
  rw [List.getElem?_map, List.getElem?_range (by rw [← t.length]; exact hi)]
  show some (Dt.par [.int (i : Int), l.getD i .non]) = _
  rw [List.getD_eq_getElem?_getD, h6]
  rfl
theorem sw_enumT {e : Expr} {p : Pos} {elts : List Expr} {kk : Nat} {tpos : Pos} (hm : X.mg "enumerate" = none) (h : SE F X Γ c e fun c1 d => ∃ l, d = .tup l ∧ P c1 (enumD l)) (hg : Gl X "enumerate" := by rfl) (hs : starEach [e] X.env = [(false, eval e X.env)] := by rfl) : SW F X Γ c (.Tuple elts kk tpos) (.Call (.Name "enumerate" p) [e] [] pos) P := .mk fun σ H R S k =>
  ⟨_, pi_enumT hg hm (pa_cons pE pa_nil hs) hs, h σ H _ S fun v H1 c1 d p S1 k1 dv => by
    obtain ⟨l, rfl, p⟩ := p
    cases dv with
    | tup a t => exact ⟨_, _, rfl, (a.mono (mask_ex _ _)).t, k _ H1 c1 _ p S1 k1 (src_enumT a.t t)⟩⟩
end
end D
end
section
set_option Elab.async false
set_option linter.all false
set_option maxRecDepth 100000
namespace D
open PySem L2 PyProof.Rows
def getG : List Str → List Sl → Str → Option Sl
  | n :: N, s :: Γ, x => if n == x then some s else getG N Γ x
  | _, _, _ => none
theorem getG_at {x : Str} {s : Sl} : ∀ {N : List Str} {Γ : List Sl}, getG N Γ x = some s → ∃ i : Nat, N[i]? = some x ∧ Γ[i]? = some s
  | [], _, h => by simp [getG] at h
  | _ :: _, [], h => by simp [getG] at h
  | n :: N, t :: Γ, h => by
    unfold getG at h
    by_cases e : (n == x) = true
    · rw [if_pos e] at h
      exact ⟨0, by simp [eq_of_beq e], by simpa using h⟩
    · rw [if_neg e] at h
      obtain ⟨i, h1, h2⟩ := getG_at h
      exact ⟨i + 1, by simpa using h1, by simpa using h2⟩
section
variable {F : Fm} {X : Cx} {Γ : List Sl} {c : Cells} {P : Cells → Dt → Prop} {pos : Pos}
theorem se_nm {x : Str} {d : Dt} (hs : getG X.N Γ x = some (.dat d)) (p : P c d) (hv : Vis X.env.scope x := by first | exact Or.inl rfl | exact Or.inr (Or.inl rfl) | exact Or.inr (Or.inr rfl))
    (hd : (x == ("__debug__" : Str)) = false := by decide) (hcd : (x == ("__classdict__" : Str)) = false := by decide) : SE F X Γ c (.Name x pos) P := by
  obtain ⟨i, h1, h2⟩ := getG_at hs
  exact se_var i h2 p h1 hv hd hcd
end
abbrev abc : Str := "abcdefghijklmnopqrstuvwxyz"
def nameC (s : Str) : Bool := decide (1 ≤ (s.length : Int)) && (decide ((s.length : Int) ≤ 8) && s.cps.toList.all fun a => decide (a ∈ abc.cps.toList))
theorem nameC_iff {s : Str} : nameC s = true ↔ 1 ≤ s.length ∧ s.length ≤ 8 ∧ ∀ a ∈ s.cps.toList, a ∈ abc.cps.toList := by
  unfold nameC
  rw [Bool.and_eq_true, Bool.and_eq_true, decide_eq_true_eq, decide_eq_true_eq, List.all_eq_true]
  constructor
  · rintro ⟨h1, h2, h3⟩
    exact ⟨by omega, by omega, fun a ha => of_decide_eq_true (h3 a ha)⟩
  · rintro ⟨h1, h2, h3⟩
    exact ⟨by omega, by omega, fun a ha => decide_eq_true (h3 a ha)⟩
theorem abc_asc : ∀ a ∈ abc.cps.toList, a < 128 := by decide +kernel
theorem name_asc {s : Str} (h : nameC s = true) : Asc 8 s := by
  rw [nameC_iff] at h
  exact ⟨h.2.1, fun a ha => abc_asc a (h.2.2 a ha)⟩
abbrev Nm := { s : Str // nameC s = true }
abbrev nD (x : Nm) : Dt := .str x.1
abbrev nL (l : List Nm) : Dt := .lst (l.map nD)
abbrev nT (l : List Nm) : Dt := .tup (l.map nD)
theorem fit_n {n : Nat} (x : Nm) : Fit n (nD x) := fit_str (name_asc x.2).ok
theorem eqV_str (a b : Str) : eqV (.str a) (.str b) = decide (a = b) := by
  show _ = _
  by_cases h : a = b
  · subst h; simp [eqV]
  · simp [eqV, h]
theorem inD_n (x : Nm) (l : List Nm) : inD (nD x) (l.map nD) = decide (x ∈ l) := by
  unfold inD inV
  rw [List.map_map]
  induction l with
  | nil => rfl
  | cons y l ih =>
    rw [List.map_cons, List.any_cons, ih]
    show (eqV (.str y.1) (.str x.1) || _) = _
    rw [eqV_str]
    by_cases e : y = x
    · subst e; simp
    · have : y.1 ≠ x.1 := fun z => e (Subtype.ext z)
      have e' : ¬ x = y := fun z => e z.symm
      simp [this, e']
theorem flats_n (l : List Nm) : (l.map nD).all flatD = true := by rw [List.all_eq_true]; intro d hd; obtain ⟨x, _, rfl⟩ := List.mem_map.mp hd; rfl
theorem big_line : 1000000 ≤ sizeLine := by decide
section
variable {F : Fm} {X : Cx} {Γ : List Sl} {c : Cells} {P : Cells → Dt → Prop} {pos : Pos}
theorem ov_inN {x : Nm} {l : List Nm} (p : P c (.bl (decide (x ∈ l)))) : OpV F X Γ c (compareOp .In) (nD x) (nL l) P := ov_in rfl rfl (flats_n l) (by rw [inD_n]; exact p)
theorem ov_inNT {x : Nm} {l : List Nm} (p : P c (.bl (decide (x ∈ l)))) : OpV F X Γ c (compareOp .In) (nD x) (nT l) P := ov_in rfl rfl (flats_n l) (by rw [inD_n]; exact p)
theorem ov_ninN {x : Nm} {l : List Nm} (p : P c (.bl (!decide (x ∈ l)))) : OpV F X Γ c (compareOp .NotIn) (nD x) (nL l) P := ov_notIn rfl rfl (flats_n l) (by rw [inD_n]; exact p)
theorem ov_ninNT {x : Nm} {l : List Nm} (p : P c (.bl (!decide (x ∈ l)))) : OpV F X Γ c (compareOp .NotIn) (nD x) (nT l) P := ov_notIn rfl rfl (flats_n l) (by rw [inD_n]; exact p)
theorem nm_eq (a b : Nm) : decide (a.1 = b.1) = decide (a = b) := by
  by_cases h : a = b
  · subst h; simp
  · have : a.1 ≠ b.1 := fun z => h (Subtype.ext z)
    simp [h, this]
theorem ov_eqN {a b : Nm} (p : P c (.bl (decide (a = b)))) : OpV F X Γ c (compareOp .Eq) (nD a) (nD b) P := ov_eqS (by rw [nm_eq]; exact p)
theorem ov_neN {a b : Nm} (p : P c (.bl (!decide (a = b)))) : OpV F X Γ c (compareOp .NotEq) (nD a) (nD b) P := ov_neS (by rw [nm_eq]; exact p)
theorem isE_map {α β : Type} (f : α → β) (l : List α) : (l.map f).isEmpty = l.isEmpty := by cases l <;> rfl
theorem ov_neNil {α : Type} {f : α → Dt} {l : List α} (hu : X.A.units + 64 < cLine) (hf : Fit 64 (.lst (l.map f))) (p : P c (.bl (!l.isEmpty))) : OpV F X Γ c (compareOp .NotEq) (.lst (l.map f)) (.lst []) P :=
  ov_neD hu hf (fit_lst fun _ h => nomatch h) (by rw [eqd_lst_nil, isE_map]; exact p)
theorem sv_fromL {α : Type} {f : α → Dt} {l : List α} {k : Int} (h : 0 ≤ k) (p : P c (.lst ((l.drop k.toNat).map f))) : SlV F X Γ c (some k) none (.lst (l.map f)) P := sv_lst (by rw [cutD_from _ h, ← List.map_drop]; exact p)
theorem sv_fromT {α : Type} {f : α → Dt} {l : List α} {k : Int} (h : 0 ≤ k) (p : P c (.tup ((l.drop k.toNat).map f))) : SlV F X Γ c (some k) none (.tup (l.map f)) P := sv_tup (by rw [cutD_from _ h, ← List.map_drop]; exact p)
theorem sv_toL {α : Type} {f : α → Dt} {l : List α} {k : Int} (h : 0 ≤ k) (p : P c (.lst ((l.take k.toNat).map f))) : SlV F X Γ c none (some k) (.lst (l.map f)) P := sv_lst (by rw [cutD_to _ h, ← List.map_take]; exact p)
theorem sv_toT {α : Type} {f : α → Dt} {l : List α} {k : Int} (h : 0 ≤ k) (p : P c (.tup ((l.take k.toNat).map f))) : SlV F X Γ c none (some k) (.tup (l.map f)) P := sv_tup (by rw [cutD_to _ h, ← List.map_take]; exact p)
theorem iv_cons {d : Dt} {l : List Dt} (p : P c d) : IxV F X Γ c (.lst (d :: l)) (.int 0) P := iv_lst (by simp [atI, ixN]) p
theorem iv_consT {d : Dt} {l : List Dt} (p : P c d) : IxV F X Γ c (.tup (d :: l)) (.int 0) P := iv_tup (by simp [atI, ixN]) p
theorem any_map {α : Type} (l : List α) (q : α → Bool) : ((l.map q).any id) = l.any q := by rw [List.any_map]; rfl
theorem all_map {α : Type} (l : List α) (q : α → Bool) : ((l.map q).all id) = l.all q := by rw [List.all_map]; rfl
theorem cv_anyM {α : Type} {l : List α} {q : α → Bool} (hc : X.calm = true) (p : P c (.bl (l.any q))) : ClV F X Γ c (.builtin "any") [.lst (l.map fun x => .bl (q x))] P := by
  have := cv_any (F := F) (Γ := Γ) (c := c) (P := P) (bs := l.map q) hc (by rw [any_map]; exact p)
  rw [List.map_map] at this
  exact this
theorem cv_allM {α : Type} {l : List α} {q : α → Bool} (hc : X.calm = true) (p : P c (.bl (l.all q))) : ClV F X Γ c (.builtin "all") [.lst (l.map fun x => .bl (q x))] P := by
  have := cv_all (F := F) (Γ := Γ) (c := c) (P := P) (bs := l.map q) hc (by rw [all_map]; exact p)
  rw [List.map_map] at this
  exact this
variable {vs : List Nat} {Pl : Cells → List Dt → Prop}
theorem map_t {α : Type} {elt tg : Expr} {scope : Scope} {enc : α → Dt} {l : List α} (g : α → Dt) (hz : l.length ≤ sizeLine)
    (turn : ∀ r, r ∈ l → Turn0 X Γ scope vs tg elt (enc r) c fun c2 y => c2 = c ∧ y = g r) (p : Pl c (l.map g)) :
    (l.map enc).length ≤ sizeLine ∧ ∃ Jv : Nat → Cells → List Dt → Prop, Jv 0 c [] ∧ (∀ i d c' acc, (l.map enc)[i]? = some d → Jv i c' acc → Turn0 X Γ scope vs tg elt d c' fun c2 y => Jv (i + 1) c2 (acc ++ [y])) ∧ ∀ c' acc, Jv (l.map enc).length c' acc → Pl c' acc := by
  refine ⟨by rw [List.length_map]; exact hz, fun i c' acc => c' = c ∧ acc = (l.take i).map g, ⟨rfl, by simp⟩, ?_, ?_⟩
  · rintro i d c' acc hd ⟨rfl, rfl⟩ F' s0 H0 C cl fp
    refine .mk fun σ H v Q S dv k => ?_
    rw [List.getElem?_map] at hd
    obtain ⟨r, hr, rfl⟩ := Option.map_eq_some_iff.mp hd
    refine turn r (List.mem_of_getElem? hr) F' s0 H0 C cl fp σ H v Q S dv fun Γ2 σ2 q S2 w => k Γ2 σ2 ?_ S2 w
    intro s0 H0 C cl fp
    refine (q s0 H0 C cl fp).mono ?_
    rintro c2 y ⟨rfl, rfl⟩
    refine ⟨rfl, ?_⟩
    rw [List.take_add_one, hr, List.map_append]
    rfl
  · rintro c' acc ⟨rfl, rfl⟩
    rw [List.length_map, List.take_length]
    exact p
theorem filter_t {α : Type} {elt t tg : Expr} {scope : Scope} {enc : α → Dt} {l : List α} (q : α → Bool) (g : α → Dt) (hz : l.length ≤ sizeLine)
    (turn : ∀ r, r ∈ l → Turn1 X Γ scope vs tg t elt (enc r) c (fun c2 y => q r = true ∧ c2 = c ∧ y = g r) fun c2 => c2 = c ∧ q r = false) (p : Pl c ((l.filter q).map g)) :
    (l.map enc).length ≤ sizeLine ∧ ∃ Jv : Nat → Cells → List Dt → Prop, Jv 0 c [] ∧ (∀ i d c' acc, (l.map enc)[i]? = some d → Jv i c' acc → Turn1 X Γ scope vs tg t elt d c' (fun c2 y => Jv (i + 1) c2 (acc ++ [y])) fun c2 => Jv (i + 1) c2 acc) ∧ ∀ c' acc, Jv (l.map enc).length c' acc → Pl c' acc := by
  refine ⟨by rw [List.length_map]; exact hz, fun i c' acc => c' = c ∧ acc = ((l.take i).filter q).map g, ⟨rfl, by simp⟩, ?_, ?_⟩
  · rintro i d c' acc hd ⟨rfl, rfl⟩ F' s0 H0 C cl fp
    refine .mk fun σ H v Q S dv k => ?_
    rw [List.getElem?_map] at hd
    obtain ⟨r, hr, rfl⟩ := Option.map_eq_some_iff.mp hd
    have e : ((l.take (i + 1)).filter q).map g = ((l.take i).filter q).map g ++ (if q r = true then [g r] else []) := by
      rw [List.take_add_one, hr, List.filter_append, List.map_append]
      congr 1
      show ([r].filter q).map g = _
      cases hq : q r with
      | true => rw [List.filter_cons_of_pos hq]; rfl
      | false => rw [List.filter_cons_of_neg (by rw [hq]; exact Bool.false_ne_true)]; rfl
    refine turn r (List.mem_of_getElem? hr) F' s0 H0 C cl fp σ H v Q S dv fun Γ2 σ2 z S2 w => k Γ2 σ2 ?_ S2 w
    intro s0 H0 C cl fp
    refine (z s0 H0 C cl fp).mono ?_
    intro c2 b hb
    cases b with
    | true =>
      rw [if_pos rfl] at hb
      rw [if_pos rfl]
      intro s0 H0 C cl fp
      refine SE.mono (hb s0 H0 C cl fp) ?_
      rintro c3 y ⟨hq, rfl, rfl⟩
      exact ⟨rfl, by rw [e, hq]; rfl⟩
    | false =>
      obtain ⟨rfl, hq⟩ := hb
      refine ⟨rfl, ?_⟩
      rw [e, hq]
      simp
  · rintro c' acc ⟨rfl, rfl⟩
    rw [List.length_map, List.take_length]
    exact p
/-- the end of a test in a filter: both ways at once -/
theorem filt_end {b : Bool} {A : Prop} {B : Prop} (h1 : b = true → A) (h2 : b = false → B) : if b = true then A else B := by
  cases b with
  | true => exact h1 rfl
  | false => exact h2 rfl
end
end D
end
section
set_option Elab.async false
set_option linter.all false
set_option maxRecDepth 100000
namespace D
open PySem L2 PyProof.Rows
section
variable {F : Fm} {X : Cx} {Γ : List Sl} {c c1 : Cells} {Φ : PEnds} {tg : Expr}
/-- a for over typed data: J tells of what is left -/
theorem for_t {α : Type} {enc : α → Dt} {l : List α} {body : List Stmt} (J : List α → List Sl → Cells → Prop) (h0 : J l Γ c1)
    (turn : ∀ pre r rest Γ' c', l = pre ++ r :: rest → J (r :: rest) Γ' c' → SG F X Γ' c' tg (enc r) fun Γ2 => SS F X Γ2 c' body { Φ with nx := J rest, ct := J rest, bk := Φ.nx })
    (done : ∀ Γ' c', J [] Γ' c' → Φ.nx Γ' c') :
    ∃ J : Nat → List Sl → Cells → Prop, J 0 Γ c1 ∧ (∀ i d Γ' c', (l.map enc)[i]? = some d → J i Γ' c' → SG F X Γ' c' tg d fun Γ2 => SS F X Γ2 c' body { Φ with nx := J (i + 1), ct := J (i + 1), bk := Φ.nx }) ∧ ∀ Γ' c', J (l.map enc).length Γ' c' → Φ.nx Γ' c' := by
  refine ⟨fun i => J (l.drop i), h0, fun i d Γ' c' hd hj => ?_, fun Γ' c' hj => done Γ' c' (by have hj : J (l.drop (l.map enc).length) Γ' c' := hj; rw [List.length_map, List.drop_length] at hj; exact hj)⟩
  rw [List.getElem?_map] at hd
  obtain ⟨r, hr, rfl⟩ := Option.map_eq_some_iff.mp hd
  have hl : i < l.length := (List.getElem?_eq_some_iff.mp hr).1
  have he : l.drop i = r :: l.drop (i + 1) := by
    rw [List.drop_eq_getElem_cons hl, (List.getElem?_eq_some_iff.mp hr).2]
  have hj : J (l.drop i) Γ' c' := hj
  rw [he] at hj
  exact turn (l.take i) r (l.drop (i + 1)) Γ' c' (by rw [← he, List.take_append_drop]) hj
end
def ixOf : List Str → Str → Nat
  | [], _ => 0
  | n :: N, x => if n == x then 0 else ixOf N x + 1
def ownOf (N : List Str) : Expr → List (Str × Nat)
  | .Name x _ => [(x, ixOf N x)]
  | .Tuple [.Name x _, .Name y _] _ _ => [(x, ixOf N x), (y, ixOf N y)]
  | _ => []
section
variable {F : Fm} {X : Cx} {Γ : List Sl} {c c1 : Cells} {P : Cells → Dt → Prop} {pos : Pos}
/-- what a map's turns give -/
def LcM (X : Cx) (Γ : List Sl) (scope : Scope) (vs : List Nat) (tg elt : Expr) (c1 : Cells) (ds : List Dt) (Q : List Dt → Prop) : Prop :=
  ∃ (α : Type) (enc : α → Dt) (l : List α) (g : α → Dt), ds = l.map enc ∧ l.length ≤ sizeLine ∧ (∀ r, r ∈ l → Turn0 X Γ scope vs tg elt (enc r) c1 fun c2 y => c2 = c1 ∧ y = g r) ∧ Q (l.map g)
def LcF (X : Cx) (Γ : List Sl) (scope : Scope) (vs : List Nat) (tg t elt : Expr) (c1 : Cells) (ds : List Dt) (Q : List Dt → Prop) : Prop :=
  ∃ (α : Type) (enc : α → Dt) (l : List α) (q : α → Bool) (g : α → Dt), ds = l.map enc ∧ l.length ≤ sizeLine ∧ (∀ r, r ∈ l → Turn1 X Γ scope vs tg t elt (enc r) c1 (fun c2 y => q r = true ∧ c2 = c1 ∧ y = g r) fun c2 => c2 = c1 ∧ q r = false) ∧ Q ((l.filter q).map g)
theorem lcM {α : Type} {enc : α → Dt} {l : List α} {scope : Scope} {vs : List Nat} {tg elt : Expr} {Q : List Dt → Prop} (g : α → Dt) (hz : l.length ≤ sizeLine) (turn : ∀ r, r ∈ l → Turn0 X Γ scope vs tg elt (enc r) c1 fun c2 y => c2 = c1 ∧ y = g r) (p : Q (l.map g)) : LcM X Γ scope vs tg elt c1 (l.map enc) Q :=
  ⟨α, enc, l, g, rfl, hz, turn, p⟩
theorem lcF {α : Type} {enc : α → Dt} {l : List α} {scope : Scope} {vs : List Nat} {tg t elt : Expr} {Q : List Dt → Prop} (q : α → Bool) (g : α → Dt) (hz : l.length ≤ sizeLine) (turn : ∀ r, r ∈ l → Turn1 X Γ scope vs tg t elt (enc r) c1 (fun c2 y => q r = true ∧ c2 = c1 ∧ y = g r) fun c2 => c2 = c1 ∧ q r = false) (p : Q ((l.filter q).map g)) : LcF X Γ scope vs tg t elt c1 (l.map enc) Q :=
  ⟨α, enc, l, q, g, rfl, hz, turn, p⟩
theorem sel_M {elt tg iter : Expr} {scope : Scope} {Pl : Cells → List Dt → Prop} (hc : X.calm = true) (hN : X.N.Nodup) (ok : BlkOk X.N X.env.scope scope (ownOf X.N tg))
    (h : SW F X Γ c tg iter fun c1 ds => LcM X Γ scope ((ownOf X.N tg).map (·.2)) tg elt c1 ds (Pl c1)) (hfs : ∀ x, foldedSetIterable iter X.env x = pure x := by intro _; rfl) : SEL F X Γ c (.ListComp elt [⟨tg, iter, [], 0⟩] scope pos) Pl :=
  sel_lc _ hc hN ok (.mk fun σ H R S k => h σ H R S fun J H' c' ds p S' => k J H' c' ds (by
    obtain ⟨α, enc, l, g, rfl, hz, turn, p⟩ := p
    exact map_t g hz turn p) S') hfs
theorem sel_F {elt tg iter t : Expr} {scope : Scope} {Pl : Cells → List Dt → Prop} (hc : X.calm = true) (hN : X.N.Nodup) (ok : BlkOk X.N X.env.scope scope (ownOf X.N tg))
    (h : SW F X Γ c tg iter fun c1 ds => LcF X Γ scope ((ownOf X.N tg).map (·.2)) tg t elt c1 ds (Pl c1)) (hfs : ∀ x, foldedSetIterable iter X.env x = pure x := by intro _; rfl) : SEL F X Γ c (.ListComp elt [⟨tg, iter, [t], 0⟩] scope pos) Pl :=
  sel_lcIf _ hc hN ok (.mk fun σ H R S k => h σ H R S fun J H' c' ds p S' => k J H' c' ds (by
    obtain ⟨α, enc, l, q, g, rfl, hz, turn, p⟩ := p
    exact filter_t q g hz turn p) S') hfs
theorem se_M {elt tg iter : Expr} {scope : Scope} (hc : X.calm = true) (hN : X.N.Nodup) (ok : BlkOk X.N X.env.scope scope (ownOf X.N tg))
    (h : SW F X Γ c tg iter fun c1 ds => LcM X Γ scope ((ownOf X.N tg).map (·.2)) tg elt c1 ds fun z => P c1 (.lst z)) (hfs : ∀ x, foldedSetIterable iter X.env x = pure x := by intro _; rfl) : SE F X Γ c (.ListComp elt [⟨tg, iter, [], 0⟩] scope pos) P := SEL.se (sel_M hc hN ok h hfs)
theorem se_F {elt tg iter t : Expr} {scope : Scope} (hc : X.calm = true) (hN : X.N.Nodup) (ok : BlkOk X.N X.env.scope scope (ownOf X.N tg))
    (h : SW F X Γ c tg iter fun c1 ds => LcF X Γ scope ((ownOf X.N tg).map (·.2)) tg t elt c1 ds fun z => P c1 (.lst z)) (hfs : ∀ x, foldedSetIterable iter X.env x = pure x := by intro _; rfl) : SE F X Γ c (.ListComp elt [⟨tg, iter, [t], 0⟩] scope pos) P := SEL.se (sel_F hc hN ok h hfs)
theorem se_any {p : Pos} {e : Expr} {es : List Expr} (hm : X.mg "any" = none) (h : SA F X Γ c (e :: es) fun c1 ds => ClV F X Γ c1 (.builtin "any") ds P) (hg : Gl X "any" := by rfl) (he : starEach (e :: es) X.env = (false, eval e X.env) :: starEach es X.env := by rfl) (hpl : (backTo pos (starEach es X.env)).any (·.1) = false := by rfl) : SE F X Γ c (.Call (.Name "any" p) (e :: es) [] pos) P := se_callB (id := "any") hm h (by decide +kernel) hg (by decide) (by decide) he hpl
theorem se_all {p : Pos} {e : Expr} {es : List Expr} (hm : X.mg "all" = none) (h : SA F X Γ c (e :: es) fun c1 ds => ClV F X Γ c1 (.builtin "all") ds P) (hg : Gl X "all" := by rfl) (he : starEach (e :: es) X.env = (false, eval e X.env) :: starEach es X.env := by rfl) (hpl : (backTo pos (starEach es X.env)).any (·.1) = false := by rfl) : SE F X Γ c (.Call (.Name "all" p) (e :: es) [] pos) P := se_callB (id := "all") hm h (by decide +kernel) hg (by decide) (by decide) he hpl
theorem se_len {p : Pos} {e : Expr} {es : List Expr} (hm : X.mg "len" = none) (h : SA F X Γ c (e :: es) fun c1 ds => ClV F X Γ c1 (.builtin "len") ds P) (hg : Gl X "len" := by rfl) (he : starEach (e :: es) X.env = (false, eval e X.env) :: starEach es X.env := by rfl) (hpl : (backTo pos (starEach es X.env)).any (·.1) = false := by rfl) : SE F X Γ c (.Call (.Name "len" p) (e :: es) [] pos) P := se_callB (id := "len") hm h (by decide +kernel) hg (by decide) (by decide) he hpl
theorem se_min {p : Pos} {e : Expr} {es : List Expr} (hm : X.mg "min" = none) (h : SA F X Γ c (e :: es) fun c1 ds => ClV F X Γ c1 (.builtin "min") ds P) (hg : Gl X "min" := by rfl) (he : starEach (e :: es) X.env = (false, eval e X.env) :: starEach es X.env := by rfl) (hpl : (backTo pos (starEach es X.env)).any (·.1) = false := by rfl) : SE F X Γ c (.Call (.Name "min" p) (e :: es) [] pos) P := se_callB (id := "min") hm h (by decide +kernel) hg (by decide) (by decide) he hpl
theorem se_max {p : Pos} {e : Expr} {es : List Expr} (hm : X.mg "max" = none) (h : SA F X Γ c (e :: es) fun c1 ds => ClV F X Γ c1 (.builtin "max") ds P) (hg : Gl X "max" := by rfl) (he : starEach (e :: es) X.env = (false, eval e X.env) :: starEach es X.env := by rfl) (hpl : (backTo pos (starEach es X.env)).any (·.1) = false := by rfl) : SE F X Γ c (.Call (.Name "max" p) (e :: es) [] pos) P := se_callB (id := "max") hm h (by decide +kernel) hg (by decide) (by decide) he hpl
theorem se_sorted {p : Pos} {e : Expr} {es : List Expr} (hm : X.mg "sorted" = none) (h : SA F X Γ c (e :: es) fun c1 ds => ClV F X Γ c1 (.builtin "sorted") ds P) (hg : Gl X "sorted" := by rfl) (he : starEach (e :: es) X.env = (false, eval e X.env) :: starEach es X.env := by rfl) (hpl : (backTo pos (starEach es X.env)).any (·.1) = false := by rfl) : SE F X Γ c (.Call (.Name "sorted" p) (e :: es) [] pos) P := se_callB (id := "sorted") hm h (by decide +kernel) hg (by decide) (by decide) he hpl
theorem se_isi {p : Pos} {e : Expr} {es : List Expr} (hm : X.mg "isinstance" = none) (h : SA F X Γ c (e :: es) fun c1 ds => ClV F X Γ c1 (.builtin "isinstance") ds P) (hg : Gl X "isinstance" := by rfl) (he : starEach (e :: es) X.env = (false, eval e X.env) :: starEach es X.env := by rfl) (hpl : (backTo pos (starEach es X.env)).any (·.1) = false := by rfl) : SE F X Γ c (.Call (.Name "isinstance" p) (e :: es) [] pos) P := se_callB (id := "isinstance") hm h (by decide +kernel) hg (by decide) (by decide) he hpl
theorem se_abs {p : Pos} {e : Expr} {es : List Expr} (hm : X.mg "abs" = none) (h : SA F X Γ c (e :: es) fun c1 ds => ClV F X Γ c1 (.builtin "abs") ds P) (hg : Gl X "abs" := by rfl) (he : starEach (e :: es) X.env = (false, eval e X.env) :: starEach es X.env := by rfl) (hpl : (backTo pos (starEach es X.env)).any (·.1) = false := by rfl) : SE F X Γ c (.Call (.Name "abs" p) (e :: es) [] pos) P := se_callB (id := "abs") hm h (by decide +kernel) hg (by decide) (by decide) he hpl
theorem se_sum {p : Pos} {e : Expr} {es : List Expr} (hm : X.mg "sum" = none) (h : SA F X Γ c (e :: es) fun c1 ds => ClV F X Γ c1 (.builtin "sum") ds P) (hg : Gl X "sum" := by rfl) (he : starEach (e :: es) X.env = (false, eval e X.env) :: starEach es X.env := by rfl) (hpl : (backTo pos (starEach es X.env)).any (·.1) = false := by rfl) : SE F X Γ c (.Call (.Name "sum" p) (e :: es) [] pos) P := se_callB (id := "sum") hm h (by decide +kernel) hg (by decide) (by decide) he hpl
theorem se_tupleC {p : Pos} {e : Expr} {es : List Expr} (hm : X.mg "tuple" = none) (h : SA F X Γ c (e :: es) fun c1 ds => ClV F X Γ c1 (.type "tuple") ds P) (hg : Gl X "tuple" := by rfl) (he : starEach (e :: es) X.env = (false, eval e X.env) :: starEach es X.env := by rfl) (hpl : (backTo pos (starEach es X.env)).any (·.1) = false := by rfl) : SE F X Γ c (.Call (.Name "tuple" p) (e :: es) [] pos) P := se_callT (id := "tuple") hm h (by decide +kernel) hg (by decide) (by decide) he hpl
theorem se_listC {p : Pos} {e : Expr} {es : List Expr} (hm : X.mg "list" = none) (h : SA F X Γ c (e :: es) fun c1 ds => ClV F X Γ c1 (.type "list") ds P) (hg : Gl X "list" := by rfl) (he : starEach (e :: es) X.env = (false, eval e X.env) :: starEach es X.env := by rfl) (hpl : (backTo pos (starEach es X.env)).any (·.1) = false := by rfl) : SE F X Γ c (.Call (.Name "list" p) (e :: es) [] pos) P := se_callT (id := "list") hm h (by decide +kernel) hg (by decide) (by decide) he hpl
end
section
variable {F : Fm} {X : Cx} {Γ : List Sl} {c c1 : Cells} {P : Cells → Dt → Prop} {pos : Pos} {vs : List Nat}
theorem sg_nm {x : Str} {d : Dt} {N : List Sl → Prop} (hN : X.N.Nodup) (p : N (Γ.set (ixOf X.N x) (.dat d))) (hi : X.N[ixOf X.N x]? = some x := by rfl) (hx : Loc X.env.scope x := by first | exact Or.inl rfl | exact Or.inr rfl)
    (hf : X.fn x = true ∨ X.env.scope.names.lookup x = some .local := by first | exact .inl rfl | exact .inr rfl) : SG F X Γ c (.Name x pos) d N := sg_name _ hN p hi hx hf
theorem sgb_nm {x : Str} {d : Dt} {N : List Sl → Prop} (hN : X.N.Nodup) (p : N (Γ.set (ixOf X.N x) (.dat d))) (hv : ixOf X.N x ∈ vs := by decide) (hi : X.N[ixOf X.N x]? = some x := by rfl) (hx : Loc X.env.scope x := by first | exact Or.inl rfl | exact Or.inr rfl)
    (hf : X.fn x = true ∨ X.env.scope.names.lookup x = some .local := by first | exact .inl rfl | exact .inr rfl) : SGb F X Γ c vs (.Name x pos) d N := sgb_name _ hN p hv hi hx hf
theorem vs_self {n : Nat} : n ∈ [n] := List.mem_singleton.mpr rfl
theorem vs_one {n m : Nat} : n ∈ [n, m] := List.mem_cons_self ..
theorem vs_two {n m : Nat} : m ∈ [n, m] := List.mem_cons_of_mem _ (List.mem_singleton.mpr rfl)
end
theorem abI {X : Cx} {scope : Scope} {φ : Cx → Prop} (h : ∀ (s0 : Shared) (H0 : Hp) (C : Addr) (cl : List (Str × Addr)) (fp : List Addr), φ (blk X scope s0 H0 C cl fp)) : AB X scope φ := h
theorem turn0I {X : Cx} {Γ : List Sl} {scope : Scope} {vs : List Nat} {tg elt : Expr} {d : Dt} {c' : Cells} {N : Cells → Dt → Prop} (h : ∀ (F' : Fm) (s0 : Shared) (H0 : Hp) (C : Addr) (cl : List (Str × Addr)) (fp : List Addr), SGb F' (blk X scope s0 H0 C cl fp) (wipeG Γ vs) c' vs tg d fun Γ2 => AB X scope fun Y => SE F' Y Γ2 c' elt N) : Turn0 X Γ scope vs tg elt d c' N := h
theorem turn1I {X : Cx} {Γ : List Sl} {scope : Scope} {vs : List Nat} {tg t elt : Expr} {d : Dt} {c' : Cells} {N : Cells → Dt → Prop} {N0 : Cells → Prop} (h : ∀ (F' : Fm) (s0 : Shared) (H0 : Hp) (C : Addr) (cl : List (Str × Addr)) (fp : List Addr), SGb F' (blk X scope s0 H0 C cl fp) (wipeG Γ vs) c' vs tg d fun Γ2 => AB X scope fun Y => ST F' Y Γ2 c' t fun c2 b => if b = true then AB X scope fun Y => SE F' Y Γ2 c2 elt N else N0 c2) : Turn1 X Γ scope vs tg t elt d c' N N0 := h
end D
end
section
set_option Elab.async false
set_option linter.all false
set_option maxRecDepth 100000
namespace D
open PySem L2 PyProof.Rows PyProof
theorem noI_tup : typeLookup (.type "tuple") (dunderI "add") = pure none := by rfl
section
variable {prog : Program} {w : World} {A : Around} {s : Shared} {E : Value → Shared → Prop}
theorem icat_tup {t b : Addr} {vs ws : List Value} {Q : Value → Shared → Prop} (ht : IsTup s.heap t vs.toArray) (hb : IsTup s.heap b ws.toArray)
    (h0 : vs = [] → Q (.ref b) s) (h1 : vs ≠ [] → ws = [] → Q (.ref t) s) (h2 : vs ≠ [] → ws ≠ [] → Q (.ref s.heap.objs.size) { s with heap := s.heap.push { cls := .type "tuple", data := .seq (vs ++ ws).toArray } })
    (hsz : vs.length + ws.length ≤ sizeLine) : wpAny (model prog w) A (inplaceOp .Add (.ref t) (.ref b)) Q E s := by
  obtain ⟨⟨cls, dd, data, sl⟩, ho, hc, n, hd⟩ := id ht
  obtain ⟨⟨cls2, dd2, data2, sl2⟩, ho2, hc2, n2, hd2⟩ := id hb
  simp only at hc hd hc2 hd2
  subst hc hd hc2 hd2
  have e : vs.toArray ++ ws.toArray = (vs ++ ws).toArray := by simp
  refine wpAny_inplaceOp_concat ⟨_, ho, rfl⟩ ⟨_, ho2, rfl⟩ noI_tup noFill_tuple_add seq_tuple_add ?_
  by_cases hv : vs = []
  · exact call_meets PySem.F.slot_tuple_add ⟨_, ho, rfl⟩ PySem.F.entry_tuple_add (PySem.F.args_tuple_add_2 _ _) (tuple_addW0 t b vs.toArray ws.toArray n n2 dd dd2 sl sl2 (by simp [hv])) ⟨ho, ho2, h0 hv⟩
  by_cases hw : ws = []
  · exact call_meets PySem.F.slot_tuple_add ⟨_, ho, rfl⟩ PySem.F.entry_tuple_add (PySem.F.args_tuple_add_2 _ _) (tuple_addW1 t b vs.toArray ws.toArray n n2 dd dd2 sl sl2 (by simpa using hv) (by simp [hw])) ⟨ho, ho2, h1 hv hw⟩
  · refine call_meets PySem.F.slot_tuple_add ⟨_, ho, rfl⟩ PySem.F.entry_tuple_add (PySem.F.args_tuple_add_2 _ _) (tuple_addW2 t b vs.toArray ws.toArray n n2 dd dd2 sl sl2 (by simpa using hv) (by simpa using hw) (by rw [List.size_toArray, List.size_toArray]; exact hsz)) ⟨ho, ho2, ?_⟩
    rw [e]
    exact h2 hv hw
end
section
variable {X : Cx}
theorem iop_catA : OpR X (inplaceOp .Add) (rCatF X.K) := by
  intro pins s σ H x y v u Q I rx ry h
  obtain ⟨a, b, xs, ys, rfl, rfl, ha, hb, hz, q0, q1, q2⟩ := h
  cases rx
  cases ry
  obtain ⟨its, r1, p1, _⟩ := I.tuple ha
  obtain ⟨its2, r2, p2, _⟩ := I.tuple hb
  refine icat_tup p1 p2 (fun z => ⟨.ref b, H, I, rfl, q0 (r1.nil_iff.mp z)⟩) (fun z z2 => ⟨.ref a, H, I, rfl, q1 (fun w => z (r1.nil_iff.mpr w)) (r2.nil_iff.mp z2)⟩) (fun z1 z => ?_) (by rw [← r1.length, ← r2.length]; exact hz)
  obtain ⟨o, ho, I2⟩ := laidF (t' := s.toks) (h' := s.heap) (xs := xs ++ ys) (us := its ++ its2) I (fun b u e => Heap.get?_push_of_some _ e) (Nat.le_refl _) (by rw [List.length_append]; exact hz) (r1.append r2)
  exact ⟨.ref s.heap.objs.size, _, I2, rfl, q2 (fun w => z1 (r1.nil_iff.mpr w)) (fun w => z (r2.nil_iff.mpr w)) _ o (I.hok.fresh (Nat.le_refl _)) ho⟩
end
section
variable {X : Cx} {tg : Expr}
def iSeq (K : PySem.W.Frag) (tl : TE) : TI := fun σ H R => tl σ H fun x H1 => (∃ a, x = .ref a ∧ (((∃ xs, SqL K H1 a xs) ∧ R (Itl K a) H1) ∨ ((∃ xs, SqT K H1 a xs) ∧ R (Itt K a) H1) ∨ ∃ o kvs, H1 a = some (.frz o (.dK kvs)) ∧ R (Itk a o kvs) H1)) ∨ ∃ z, x = .str z ∧ R (Its z) H1
theorem pi_seq {l : Expr} {tl : TE} (hl : PE X l tl) : PI X tg l (iSeq X.K tl) := ⟨fun pn sa sg HH RR I h => by
  refine thn (hl.run pn sa sg HH _ I h) fun v sb ⟨x, Hb, Ib, rb, qb⟩ => ?_
  rcases qb with ⟨a, e, z⟩ | ⟨z, e, q⟩
  · subst e
    cases rb
    have fpk : ∀ b, b ∈ [sb.heap.objs.size] → _ := fun b hb => by
      obtain rfl : b = sb.heap.objs.size := List.mem_singleton.mp hb
      exact Ib.fpOk (Nat.le_refl _) (Ib.hok.fresh (Nat.le_refl _))
    rcases z with ⟨⟨xs, hq⟩, q⟩ | ⟨⟨xs, hq⟩, q⟩ | ⟨o, kvs, hd, q⟩
    · obtain ⟨its, rv, p, hz⟩ := Ib.list hq
      exact wpAny_pyIter_list p.isList ⟨sb.heap.objs.size, [sb.heap.objs.size], _, _, Hb, rfl, Ib.kept (t' := sb.toks) fun b o e => Heap.get?_push_of_some _ e, turn_list a _, ⟨_, Heap.get?_push_size _ rfl, rfl, rfl⟩, fpk, q⟩
    · obtain ⟨its, rv, p, hz⟩ := Ib.tuple hq
      exact wpAny_pyIter_tuple (show sb.heap.IsTuple a its.toArray from p) ⟨sb.heap.objs.size, [sb.heap.objs.size], _, _, Hb, rfl, Ib.kept (t' := sb.toks) fun b o e => Heap.get?_push_of_some _ e, turn_tuple a _, ⟨_, Heap.get?_push_size _ rfl, rfl, rfl⟩, fpk, q⟩
    · obtain ⟨g1, g2, g3, es, ep, us, g4, g5, kv, hm⟩ := Ib.frzK hd
      exact iter_keys g1 g2 g3 g4 (pi_one (tk := sb.toks) Ib _ (turn_keys _ g4) ⟨_, Heap.get?_push_size _ rfl, rfl, by rw [g5] <;> rfl⟩ q)
  · subst e
    obtain ⟨t, rfl⟩ := rb
    cases ha : z.cps.all (· < 128)
    · exact wpAny_pyIter_wide ha (pi_one (tk := sb.toks) Ib _ (turn_str _ z t "str_iterator" (.inr rfl)) ⟨_, Heap.get?_push_size _ rfl, rfl, rfl⟩ q)
    · exact wpAny_pyIter_ascii ha (pi_one (tk := sb.toks) Ib _ (turn_str _ z t "str_ascii_iterator" (.inl rfl)) ⟨_, Heap.get?_push_size _ rfl, rfl, rfl⟩ q)⟩
end
/-- what a walk over a datum gives -/
def iterD : Dt → Option (List Dt)
  | .lst l => some l
  | .tup l => some l
  | .dct l => some (keysD l)
  | .str z => some (signs z)
  | _ => none
section
variable {F : Fm} {X : Cx} {Γ : List Sl} {c : Cells} {P : Cells → Dt → Prop} {Φ : PEnds} {pos : Pos}
theorem oi_add {i j : Int} (p : P c (.int (i + j))) : OpV F X Γ c (inplaceOp .Add) (.int i) (.int j) P := OpV.ints0 iop_add (fun _ => .int _) p
theorem oi_catT {l m : List Dt} (hz : l.length + m.length ≤ sizeLine) (p : P c (.tup (l ++ m))) : OpV F X Γ c (inplaceOp .Add) (.tup l) (.tup m) P :=
  OpV.of iop_catA fun σ H x y Q S h1 h2 k => by
    cases h1 with
    | tup a1 t1 => cases h2 with
      | tup a2 t2 =>
        refine ⟨_, _, _, _, rfl, rfl, (a1.mono (mask_ex _ _)).t, (a2.mono (mask_ex _ _)).t, by rw [t1.length, t2.length]; exact hz, fun e => ?_, fun e1 e2 => ?_, fun e1 e2 q o hq ho => k _ _ c _ p (S.new hq) (Kp.new (F := F) hq).hid (S.newT hq ho (t1.append t2))⟩
        · subst e
          cases t1
          exact k _ H c _ p S (Ex.refl _) (.tup a2 t2)
        · subst e2
          cases t2
          rw [List.append_nil] at p
          exact k _ H c _ p S (Ex.refl _) (.tup a1 t1)
theorem s_aug {x : Str} {e : Expr} {op : Operator} {pos' : Pos} {d0 : Dt} (hN : X.N.Nodup) (hs : getG X.N Γ x = some (.dat d0)) (h : SE F X Γ c e fun c1 d => OpV F X Γ c1 (inplaceOp op) d0 d fun c2 z => Φ.nx (Γ.set (ixOf X.N x) (.dat z)) c2)
    (hi : X.N[ixOf X.N x]? = some x := by rfl) (hg : Γ[ixOf X.N x]? = some (.dat d0) := by rfl) (hx : Loc X.env.scope x := by first | exact Or.inl rfl | exact Or.inr rfl) (hf : X.fn x = true ∨ X.env.scope.names.lookup x = some .local := by first | exact .inl rfl | exact .inr rfl) : S1 F X Γ c (.AugAssign (.Name x pos') op e pos) Φ :=
  S1.of (ps_aug (i := ixOf X.N x) (ti := rOp X (inplaceOp op)) hN hi hx pE opR hf) fun σ H D S E => by
    obtain ⟨v, h1, h2⟩ := S.sl _ _ hg
    refine ⟨v, h1, h σ H _ S fun w H1 c1 d q S1 e1 dv => ?_⟩
    obtain ⟨x, y, e2, r⟩ := q σ H1 [v, w] (fun z H2 => D.nx (σ.set (ixOf X.N x) (some z)) H2) S1 (.cons (h2.mono e1) (.cons dv .nil)) fun z H2 c2 d2 p S2 k2 dv2 => E.nx _ c2 _ H2 p (S2.setD dv2) (e1.trans k2)
    cases e2
    exact r
/-- x = e, by the name -/
theorem s_st {x : Str} {px : Pos} {e : Expr} (hN : X.N.Nodup) (h : SE F X Γ c e fun c1 d => Φ.nx (Γ.set (ixOf X.N x) (.dat d)) c1) (hi : X.N[ixOf X.N x]? = some x := by rfl) (hx : Loc X.env.scope x := by first | exact Or.inl rfl | exact Or.inr rfl)
    (hf : X.fn x = true ∨ X.env.scope.names.lookup x = some .local := by first | exact .inl rfl | exact .inr rfl) (hs : swapsWithSole [.Name x px] e pos.line X.env = pure false := by rfl) (hw : swappedStores [.Name x px] e X.env = pure none := by rfl) : S1 F X Γ c (.Assign [.Name x px] e pos) Φ :=
  s_asg (SE.mono h fun c1 d p => sg_name _ hN p hi hx hf) hs hw
theorem s_M {x : Str} {px lpos : Pos} {elt tg iter : Expr} {scope : Scope} (hc : X.calm = true) (hN : X.N.Nodup) (ok : BlkOk X.N X.env.scope scope (ownOf X.N tg))
    (h : SW F X Γ c tg iter fun c1 ds => LcM X Γ scope ((ownOf X.N tg).map (·.2)) tg elt c1 ds fun z => Φ.nx (Γ.set (ixOf X.N x) (.dat (.lst z))) c1)
    (hsw : swapsWith (.ListComp elt [⟨tg, iter, [], 0⟩] scope lpos) (some (.Name x px)) pos.line X.env = pure true := by exact sw_true rfl rfl rfl (by decide +kernel)) (hy : X.N[ixOf X.N x]? = some x := by rfl) (hyl : X.env.scope.names.lookup x = some .local := by rfl) (hfs : ∀ x, foldedSetIterable iter X.env x = pure x := by intro _; rfl) : S1 F X Γ c (.Assign [.Name x px] (.ListComp elt [⟨tg, iter, [], 0⟩] scope lpos) pos) Φ :=
  s_setT _ (ps_lc _ _ hc hN ok hsw hy hyl hfs) (lct_lc (.mk fun σ H R S k => h σ H R S fun J H' c' ds p S' => k J H' c' ds (by
    obtain ⟨α, enc, l, g, rfl, hz, turn, p⟩ := p
    exact map_t (Pl := fun c1 z => Φ.nx (Γ.set (ixOf X.N x) (.dat (.lst z))) c1) g hz turn p) S'))
theorem s_F {x : Str} {px lpos : Pos} {elt tg iter t : Expr} {scope : Scope} (hc : X.calm = true) (hN : X.N.Nodup) (ok : BlkOk X.N X.env.scope scope (ownOf X.N tg))
    (h : SW F X Γ c tg iter fun c1 ds => LcF X Γ scope ((ownOf X.N tg).map (·.2)) tg t elt c1 ds fun z => Φ.nx (Γ.set (ixOf X.N x) (.dat (.lst z))) c1)
    (hsw : swapsWith (.ListComp elt [⟨tg, iter, [t], 0⟩] scope lpos) (some (.Name x px)) pos.line X.env = pure true := by exact sw_true rfl rfl rfl (by decide +kernel)) (hy : X.N[ixOf X.N x]? = some x := by rfl) (hyl : X.env.scope.names.lookup x = some .local := by rfl) (hfs : ∀ x, foldedSetIterable iter X.env x = pure x := by intro _; rfl) : S1 F X Γ c (.Assign [.Name x px] (.ListComp elt [⟨tg, iter, [t], 0⟩] scope lpos) pos) Φ :=
  s_setT _ (ps_lcIf _ _ hc hN ok hsw hy hyl hfs) (lct_lcIf (.mk fun σ H R S k => h σ H R S fun J H' c' ds p S' => k J H' c' ds (by
    obtain ⟨α, enc, l, q, g, rfl, hz, turn, p⟩ := p
    exact filter_t (Pl := fun c1 z => Φ.nx (Γ.set (ixOf X.N x) (.dat (.lst z))) c1) q g hz turn p) S'))
theorem sw_seq {tg e : Expr} {P : Cells → List Dt → Prop} (h : SE F X Γ c e fun c1 d => ∃ l, iterD d = some l ∧ P c1 l) : SW F X Γ c tg e P := .mk fun σ H R S k => by
  refine ⟨_, pi_seq pE, h σ H _ S fun v H1 c1 d p S1 k1 dv => ?_⟩
  obtain ⟨l, e, p⟩ := p
  cases dv with
  | lst a t => cases e; exact .inl ⟨_, rfl, .inl ⟨⟨_, .inl (.inl (of_mask a).2)⟩, k _ H1 c1 l p S1 k1 (src_at walk_list (fun H e => .inl (.inl (e _ _ a))) t)⟩⟩
  | tup a t => cases e; exact .inl ⟨_, rfl, .inr (.inl ⟨⟨_, (a.mono (mask_ex _ _)).t⟩, k _ H1 c1 l p S1 k1 (src_at walk_tup (fun H e => (a.mono e).t) t)⟩)⟩
  | dct a t =>
    cases e
    refine .inl ⟨_, rfl, .inr (.inr ⟨_, _, (of_mask a).2, k _ H1 c1 _ p S1 k1 ?_⟩)⟩
    have hl : (keysD _).length = _ := (List.length_map _).trans t.p.length.symm
    refine ⟨_, _, hl.symm ▸ walk_keys, fun H e => e _ _ a, fun i Ha x Hb hi y _ => ?_⟩
    obtain ⟨h1, key, v, h2, rfl⟩ := y
    obtain ⟨d, h3, _⟩ := t.p.get h2
    refine ⟨kD key, ?_, .inl ⟨h1, kD_dv key⟩⟩
    rw [keysD_eq, List.getElem?_map, h3]
    rfl
  | str z => cases e; exact .inr ⟨_, rfl, k _ H1 c1 _ p S1 k1 src_str⟩
  | _ => cases e
theorem ov_eqB {a b : Bool} (p : P c (.bl (decide (a = b)))) : OpV F X Γ c (compareOp .Eq) (.bl a) (.bl b) P := ov_eqF (v1 := .bl a) (v2 := .bl b) (fun _ _ h => dv_bl h) (fun _ _ h => dv_bl h) rfl (by
  rw [show decide (V.bl a = V.bl b) = decide (a = b) by cases a <;> cases b <;> rfl]; exact p)
theorem ov_neB {a b : Bool} (p : P c (.bl (!decide (a = b)))) : OpV F X Γ c (compareOp .NotEq) (.bl a) (.bl b) P := ov_neF (v1 := .bl a) (v2 := .bl b) (fun _ _ h => dv_bl h) (fun _ _ h => dv_bl h) rfl (by
  rw [show decide (V.bl a = V.bl b) = decide (a = b) by cases a <;> cases b <;> rfl]; exact p)
end
end D
end
section
set_option Elab.async false
set_option linter.all false
set_option maxRecDepth 100000
namespace D
open PySem L2 PyProof.Rows
section
variable {F : Fm} {X : Cx} {Γ : List Sl} {c : Cells} {P : Cells → Dt → Prop} {Φ : PEnds} {pos : Pos}
theorem SE.nd {e : Expr} (h : (addrs c).Nodup → SE F X Γ c e P) : SE F X Γ c e P := .mk fun σ H Q S k => h S.nd σ H Q S k
theorem SS.nd {ss : List Stmt} (h : (addrs c).Nodup → SS F X Γ c ss Φ) : SS F X Γ c ss Φ := .mk fun σ H D S E => h S.nd σ H D S E
theorem ss_clear {ss : List Stmt} : ∀ {c : Cells}, SS F X Γ [] ss Φ → SS F X Γ c ss Φ
  | [], h => h
  | p :: c, h => ss_dropC 0 rfl (ss_clear (c := c) h)
theorem enumD_map {α : Type} (f : α → Dt) (l : List α) : enumD (l.map f) = l.zipIdx.map fun p => Dt.par [.int (p.2 : Nat), f p.1] := by
  unfold enumD
  refine List.ext_getElem? fun i => ?_
  rw [List.getElem?_map, List.getElem?_map, List.getElem?_zipIdx, List.length_map]
  by_cases h : i < l.length
  · rw [List.getElem?_range h, List.getElem?_eq_getElem h]
    simp [List.getD, h]
  · rw [List.getElem?_eq_none (by simpa using h), List.getElem?_eq_none (by simpa using h)]
    rfl
end
end D
namespace D
open PySem L2 PyProof.Rows
end D
end
section
set_option Elab.async false
set_option linter.all false
set_option maxRecDepth 100000
namespace D
open PySem L2 PyProof.Rows PyProof
section
variable {F : Fm} {X : Cx} {Γ : List Sl} {c : Cells} {P : Cells → Dt → Prop} {Φ : PEnds} {pos : Pos}
def LcD (X : Cx) (Γ : List Sl) (sc : Scope) (vs : List Nat) (tg kx vx : Expr) (c1 : Cells) (ds : List Dt) (Q : List (Key × Dt) → Prop) : Prop :=
  ∃ (α : Type) (enc : α → Dt) (l : List α) (kf : α → Key) (g : α → Dt), ds = l.map enc ∧ l.length ≤ sizeLine ∧ (∀ r, r ∈ l → TurnD X Γ sc vs tg kx vx (enc r) c1 fun c2 k y => c2 = c1 ∧ k = kf r ∧ y = g r) ∧ Q ((l.map fun r => (kf r, g r)).foldl (fun acc kv => dput acc kv.1 kv.2) [])
theorem turnDI {sc : Scope} {vs : List Nat} {tg kx vx : Expr} {d : Dt} {c' : Cells} {N : Cells → Key → Dt → Prop} (h : ∀ (F' : Fm) (s0 : Shared) (H0 : Hp) (C : Addr) (cl : List (Str × Addr)) (fp : List Addr), SGb F' (blk X sc s0 H0 C cl fp) (wipeG Γ vs) c' vs tg d fun Γ2 => AB X sc fun Y => SE F' Y Γ2 c' kx fun c2 dk => ∃ k, dkey dk = some k ∧ AB X sc fun Y => SE F' Y Γ2 c2 vx fun c3 dv => N c3 k dv) : TurnD X Γ sc vs tg kx vx d c' N := h
theorem dmap_t {α : Type} {kx vx tg : Expr} {sc : Scope} {vs : List Nat} {enc : α → Dt} {l : List α} {Pl : Cells → List (Key × Dt) → Prop} (kf : α → Key) (g : α → Dt) (hz : l.length ≤ sizeLine)
    (turn : ∀ r, r ∈ l → TurnD X Γ sc vs tg kx vx (enc r) c fun c2 k y => c2 = c ∧ k = kf r ∧ y = g r) (p : Pl c ((l.map fun r => (kf r, g r)).foldl (fun acc kv => dput acc kv.1 kv.2) [])) :
    (l.map enc).length ≤ sizeLine ∧ ∃ Jv : Nat → Cells → List (Key × Dt) → Prop, Jv 0 c [] ∧ (∀ i d c' acc, (l.map enc)[i]? = some d → Jv i c' acc → TurnD X Γ sc vs tg kx vx d c' fun c2 k y => Jv (i + 1) c2 (dput acc k y)) ∧ ∀ c' acc, Jv (l.map enc).length c' acc → Pl c' acc := by
  refine ⟨by rw [List.length_map]; exact hz, fun i c' acc => c' = c ∧ acc = ((l.take i).map fun r => (kf r, g r)).foldl (fun acc kv => dput acc kv.1 kv.2) [], ⟨rfl, by simp⟩, ?_, ?_⟩
  · rintro i d c' acc hd ⟨rfl, rfl⟩ F' s0 H0 C cl fp
    refine .mk fun σ H v Q S dv k => ?_
    rw [List.getElem?_map] at hd
    obtain ⟨r, hr, rfl⟩ := Option.map_eq_some_iff.mp hd
    refine turn r (List.mem_of_getElem? hr) F' s0 H0 C cl fp σ H v Q S dv fun Γ2 σ2 q S2 w => k Γ2 σ2 ?_ S2 w
    intro s0 H0 C cl fp
    refine (q s0 H0 C cl fp).mono ?_
    rintro c2 dk ⟨key, hk, q2⟩
    refine ⟨key, hk, fun s0 H0 C cl fp => (q2 s0 H0 C cl fp).mono ?_⟩
    rintro c3 y ⟨rfl, rfl, rfl⟩
    refine ⟨rfl, ?_⟩
    rw [List.take_add_one, hr, Option.toList_some, List.map_append, List.foldl_append]
    rfl
  · rintro c' acc ⟨rfl, rfl⟩
    rw [List.length_map, List.take_length]
    exact p
theorem se_Dc {kx vx tg iter : Expr} {sc : Scope} (hc : X.calm = true) (hN : X.N.Nodup) (ok : BlkOk X.N X.env.scope sc (ownOf X.N tg))
    (h : SW F X Γ c tg iter fun c1 ds => LcD X Γ sc ((ownOf X.N tg).map (·.2)) tg kx vx c1 ds fun z => ∀ a, P (c1 ++ [(a, .dk z)]) (.raw (.ref a))) (hfs : ∀ x, foldedSetIterable iter X.env x = pure x := by intro _; rfl) : SE F X Γ c (.DictComp kx vx [⟨tg, iter, [], 0⟩] sc pos) P :=
  SDt.se (pe_dc (own := ownOf X.N tg) (g := tGb X sc tg) (tt := tYes) (tk := tEb X sc kx) (tv := tEb X sc vx) hc hN pI ok (fun s0 H0 C cl fp => pGb s0 H0 C cl fp) (fun _ _ _ _ _ => pts_nil) (fun s0 H0 C cl fp => pEb s0 H0 C cl fp) (fun s0 H0 C cl fp => pEb s0 H0 C cl fp) hfs)
    (sdt_dc (.mk fun σ H R S k => h σ H R S fun J H' c' ds p S' => k J H' c' ds (by
      obtain ⟨α, enc, l, kf, g, rfl, hz, turn, p⟩ := p
      exact dmap_t (Pl := fun c1 z => ∀ a, P (c1 ++ [(a, .dk z)]) (.raw (.ref a))) kf g hz turn p) S'))
theorem s_Dc {y : Str} {py spos : Pos} {kx vx tg iter : Expr} {sc : Scope} (hc : X.calm = true) (hN : X.N.Nodup) (ok : BlkOk X.N X.env.scope sc (ownOf X.N tg))
    (h : SW F X Γ c tg iter fun c1 ds => LcD X Γ sc ((ownOf X.N tg).map (·.2)) tg kx vx c1 ds fun z => ∀ a, Φ.nx (Γ.set (ixOf X.N y) (.dat (.raw (.ref a)))) (c1 ++ [(a, .dk z)]))
    (hsw : swapsWith (.DictComp kx vx [⟨tg, iter, [], 0⟩] sc pos) (some (.Name y py)) spos.line X.env = pure true := by exact swD_true rfl rfl rfl (by decide +kernel))
    (hy : X.N[ixOf X.N y]? = some y := by rfl) (hyl : X.env.scope.names.lookup y = some .local := by rfl) (hfs : ∀ x, foldedSetIterable iter X.env x = pure x := by intro _; rfl) : S1 F X Γ c (.Assign [.Name y py] (.DictComp kx vx [⟨tg, iter, [], 0⟩] sc pos) spos) Φ :=
  s_setDT _ (ps_setDc (own := ownOf X.N tg) (g := tGb X sc tg) (tt := tYes) (tk := tEb X sc kx) (tv := tEb X sc vx) hc hN hy hyl hsw pI ok (fun s0 H0 C cl fp => pGb s0 H0 C cl fp) (fun _ _ _ _ _ => pts_nil) (fun s0 H0 C cl fp => pEb s0 H0 C cl fp) (fun s0 H0 C cl fp => pEb s0 H0 C cl fp) hfs)
    (sdt_dc (.mk fun σ H R S k => h σ H R S fun J H' c' ds p S' => k J H' c' ds (by
      obtain ⟨α, enc, l, kf, g, rfl, hz, turn, p⟩ := p
      exact dmap_t (Pl := fun c1 z => ∀ a, Φ.nx (Γ.set (ixOf X.N y) (.dat (.raw (.ref a)))) (c1 ++ [(a, .dk z)])) kf g hz turn p) S'))
end
end D
end
section
set_option Elab.async false
set_option linter.all false
set_option maxRecDepth 100000
namespace D
open PySem L2 PyProof.Rows PyProof
open PySem.W (AlikeAll minD dataLt alike min_list_data readsAll_at reads_keeps dataLt_str dataLt_int)
theorem zip_ext {α β : Type} : ∀ {l m : List (α × β)}, l.map (·.1) = m.map (·.1) → l.map (·.2) = m.map (·.2) → l = m
  | [], [], _, _ => rfl
  | [], _ :: _, h, _ => by cases h
  | _ :: _, [], h, _ => by cases h
  | p :: l, q :: m, h, k => by
    rw [List.map_cons, List.map_cons] at h k
    have h1 := List.cons.inj h
    have k1 := List.cons.inj k
    rw [zip_ext h1.2 k1.2, Prod.ext h1.1 k1.1]
mutual
theorem reads_one {h : Heap} : ∀ {v : Value} {d : PyData} {as : List Addr}, Reads h v d as → ∀ {d' : PyData} {as' : List Addr}, Reads h v d' as' → d = d'
  | _, _, _, .none, _, _, .none => rfl
  | _, _, _, .bool b, _, _, .bool _ => rfl
  | _, _, _, .int i t, _, _, .int _ _ => rfl
  | _, _, _, .str x t, _, _, .str _ _ => rfl
  | _, _, _, .list h1 h2 h3 h4, _, _, r => by
    cases r with
    | list g1 g2 g3 g4 => rw [h1] at g1; cases g1; rw [h3] at g3; cases g3; rw [reads_ones h4 g4]
    | tuple g1 g2 g3 g4 => rw [h1] at g1; cases g1; rw [h2] at g2; exact absurd g2 (by decide)
    | dict g1 g2 g3 g4 g5 => rw [h1] at g1; cases g1; rw [h2] at g2; exact absurd g2 (by decide)
  | _, _, _, .tuple h1 h2 h3 h4, _, _, r => by
    cases r with
    | list g1 g2 g3 g4 => rw [h1] at g1; cases g1; rw [h2] at g2; exact absurd g2 (by decide)
    | tuple g1 g2 g3 g4 => rw [h1] at g1; cases g1; rw [h3] at g3; cases g3; rw [reads_ones h4 g4]
    | dict g1 g2 g3 g4 g5 => rw [h1] at g1; cases g1; rw [h2] at g2; exact absurd g2 (by decide)
  | _, _, _, .dict h1 h2 h3 h4 h5, _, _, r => by
    cases r with
    | list g1 g2 g3 g4 => rw [h1] at g1; cases g1; rw [h2] at g2; exact absurd g2 (by decide)
    | tuple g1 g2 g3 g4 => rw [h1] at g1; cases g1; rw [h2] at g2; exact absurd g2 (by decide)
    | dict g1 g2 g3 g4 g5 =>
      rw [h1] at g1; cases g1; rw [h3] at g3; cases g3
      have e1 := reads_ones h4 g4
      have e2 := reads_ones h5 g5
      congr 1
      exact zip_ext e1 e2
theorem reads_ones {h : Heap} : ∀ {vs : List Value} {ds : List PyData} {as : List Addr}, ReadsAll h vs ds as → ∀ {ds' : List PyData} {as' : List Addr}, ReadsAll h vs ds' as' → ds = ds'
  | _, _, _, .nil, _, _, .nil => rfl
  | _, _, _, .cons r rs, _, _, .cons q qs => by rw [reads_one r q, reads_ones rs qs]
end
theorem vals_back : ∀ {xs : List V} {us : List Value} {i : Nat} {u : Value}, Vals xs us → us[i]? = some u → ∃ x, xs[i]? = some x ∧ RelV x u := fun {xs us i u} r e => by
  cases h : xs[i]? with
  | none => rw [r.none_of h] at e; cases e
  | some x =>
    obtain ⟨u', h1, h2⟩ := r.get h
    rw [h1] at e; cases e
    exact ⟨x, rfl, h2⟩
end D
end
section
set_option Elab.async false
set_option linter.all false
set_option maxRecDepth 100000
namespace D
open PySem L2 PyProof.Rows
section
variable {F : Fm} {X : Cx} {Γ : List Sl} {c : Cells} {P : Cells → Dt → Prop} {pos : Pos}
theorem cv_sum {ns : List Int} (hc : X.calm = true) (p : P c (.int ns.sum)) : ClV F X Γ c (.builtin "sum") [.lst (ns.map Dt.int)] P :=
  ClV.of (cr_sum hc) fun σ H vs Q S dvs k => by
    cases dvs with
    | cons dv t =>
      cases t
      cases dv with
      | lst a t => exact ⟨_, ns, rfl, .inl (.inl (by rw [← DVs.of_ints t]; exact (of_mask a).2)), k _ H c _ p S (Ex.refl _) (.int _)⟩
end
end D
end
section
set_option Elab.async false
set_option linter.all false
set_option maxRecDepth 100000
namespace D
open PySem L2 PyProof.Rows RZ
theorem walk_zipT {K : PySem.W.Frag} {a b : Addr} {xs ys : List V} {n : Nat} (hn : n = min xs.length ys.length) : Walk (ItzT K a b) n (fun H => SqT K H a xs ∧ SqT K H b ys) (YPair (fun i => xs[i]?) (fun i => ys[i]?)) := by
  subst hn
  refine ⟨fun i _ hi q => ?_, fun _ q => ⟨xs, ys, q.1, q.2, by omega⟩, fun i H v H' _ q y => ?_⟩
  · exact ⟨xs, ys, xs[i]'(by omega), ys[i]'(by omega), q.1, q.2, by simp [show i < xs.length by omega], by simp [show i < ys.length by omega]⟩
  · obtain ⟨T, x, z, h1, h2, h3, h4, h5⟩ := y
    exact ⟨T, x, z, h1, h2, h3, h4 xs q.1, h5 ys q.2⟩
section
variable {K : PySem.W.Frag} {F : Fm} {X : Cx} {Γ : List Sl} {c : Cells} {pos : Pos}
theorem src_zipT {V0 : Hp} {a b : Addr} {xs ys : List V} {l m : List Dt} (h1 : SqT K V0 a xs) (h2 : SqT K V0 b ys) (t : DVs K V0 xs l) (u : DVs K V0 ys m) : Src K V0 (ItzT K a b) (zipD l m) := by
  have hl : (zipD l m).length = min xs.length ys.length := by unfold zipD; rw [List.length_map, List.length_zip, t.length, u.length]
  refine ⟨_, _, hl.symm ▸ walk_zipT (K := K) (a := a) (b := b) (xs := xs) (ys := ys) rfl, fun H e => ⟨ex_t e h1, ex_t e h2⟩, fun i H1 x H2 hi y _ => ?_⟩
  obtain ⟨T, x1, x2, g1, g2, g3, g4, g5⟩ := y
  obtain ⟨d1, e1, dv1⟩ := t.getV g4
  obtain ⟨d2, e2, dv2⟩ := u.getV g5
  refine ⟨.par [d1, d2], ?_, .inr ⟨T, x1, x2, d1, d2, g1, g2, g3, rfl, dv1, dv2⟩⟩
  unfold zipD
  rw [List.getElem?_map, List.getElem?_zip_eq_some (z := (d1, d2)) |>.mpr ⟨e1, e2⟩]
  rfl
theorem sw_zipT {e e2 : Expr} {p : Pos} {elts : List Expr} {kk : Nat} {tpos : Pos} {P : Cells → List Dt → Prop} (hm : X.mg "zip" = none) (h : SA F X Γ c [e, e2] fun c1 ds => ∃ l m, ds = [.tup l, .tup m] ∧ P c1 (zipD l m)) (hg : Gl X "zip" := by rfl)
    (hs : starEach [e, e2] X.env = (false, eval e X.env) :: starEach [e2] X.env := by rfl) (hpl : (backTo pos (starEach [e2] X.env)).any (·.1) = false := by rfl) : SW F X Γ c (.Tuple elts kk tpos) (.Call (.Name "zip" p) [e, e2] [] pos) P := .mk fun σ H R S k =>
  ⟨_, pi_zipA hg hm pAs hs hpl, h σ H _ S fun vs H1 c1 ds p S1 k1 dvs => by
    obtain ⟨l, m, rfl, p⟩ := p
    cases dvs with
    | cons d1 t => cases t with
      | cons d2 t =>
        cases t
        cases d1 with
        | tup a1 t1 => cases d2 with
          | tup a2 t2 => exact ⟨_, _, _, _, rfl, .inr ⟨(a1.mono (mask_ex _ _)).t, (a2.mono (mask_ex _ _)).t, k _ H1 c1 _ p S1 k1 (src_zipT a1.t a2.t t1 t2)⟩⟩⟩
theorem se_indexT {o e : Expr} {apos : Pos} {P : Cells → Dt → Prop} (h : SE F X Γ c o fun c1 dl => ∃ ys : List Str, dl = .tup (ys.map Dt.str) ∧ SE F X Γ c1 e fun c2 d => ∃ z j, d = .str z ∧ ys[j]? = some z ∧ (∀ m, m < j → ys[m]? ≠ some z) ∧ P c2 (.int (j : Nat)))
    (hb : attributeBase o "index" X.env (eval o X.env) = eval o X.env := by rfl)
    (hall : (((backTo pos (starEach [e] X.env)).all (fun x => !x.1)) && ((backToKw pos (keywordEach [] X.env)).all (fun x => x.1.isSome)) && decide ([e].length + ([] : List Keyword).length + (if ([] : List Keyword).isEmpty = true then 0 else 1) < 30)) = true := by rfl)
    (hline : (apos.endLine == pos.line) = true := by rfl) (hst : starEach [e] X.env = (false, eval e X.env) :: starEach [] X.env := by rfl) (hpl : (backTo pos (starEach [] X.env)).any (·.1) = false := by rfl) : SE F X Γ c (.Call (.Attribute o "index" apos) [e] [] pos) P :=
  SE.of (pe_tm PySem.F.slot_tuple_index PySem.F.type_tuple_index mt_tup_index pE (pa_cons pE pa_nil hst) hb hall hline hst hpl) fun σ H Q S k => h σ H _ S fun v H1 c1 d p S1 e1 dv => by
    obtain ⟨ys, rfl, p⟩ := p
    cases id dv with
    | tup a t =>
      have et := DVs.of_strs t
      subst et
      refine ⟨_, _, rfl, a.mono (mask_ex _ _), p σ H1 _ S1 fun w H2 c2 d2 p2 S2 e2 dv2 => ?_⟩
      obtain ⟨z, j, rfl, hj, hm, p2⟩ := p2
      cases dv2
      exact ⟨_, ys, z, j, rfl, rfl, (a.mono (e2.trans (mask_ex _ _))).t, hj, hm, k _ H2 c2 _ p2 S2 (e1.trans e2) (.int _)⟩
end
end D
end
section
set_option Elab.async false
set_option linter.all false
set_option maxRecDepth 100000
namespace D
open PySem L2 PyProof.Rows
def ixN : List Nm → Nm → Nat
  | [], _ => 0
  | y :: r, x => if y = x then 0 else ixN r x + 1
theorem ixN_at : ∀ {r : List Nm} {x : Nm}, x ∈ r → r[ixN r x]? = some x ∧ ∀ m, m < ixN r x → r[m]? ≠ some x
  | y :: r, x, h => by
    unfold ixN
    by_cases e : y = x
    · rw [if_pos e]; exact ⟨by simp [e], fun m hm => absurd hm (Nat.not_lt_zero _)⟩
    · rw [if_neg e]
      obtain ⟨h1, h2⟩ := ixN_at (r := r) (x := x) ((List.mem_cons.mp h).resolve_left fun z => e z.symm)
      refine ⟨by simpa using h1, fun m hm => ?_⟩
      cases m with
      | zero => simpa using e
      | succ m => simpa using h2 m (by omega)
section
variable {F : Fm} {X : Cx} {Γ : List Sl} {c : Cells} {P : Cells → Dt → Prop} {pos : Pos}
theorem se_indexN {o e : Expr} {apos : Pos} (h : SE F X Γ c o fun c1 dl => ∃ r : List Nm, dl = nT r ∧ SE F X Γ c1 e fun c2 d => ∃ x : Nm, d = nD x ∧ x ∈ r ∧ P c2 (.int (ixN r x : Nat)))
    (hb : attributeBase o "index" X.env (eval o X.env) = eval o X.env := by rfl)
    (hall : (((backTo pos (starEach [e] X.env)).all (fun x => !x.1)) && ((backToKw pos (keywordEach [] X.env)).all (fun x => x.1.isSome)) && decide ([e].length + ([] : List Keyword).length + (if ([] : List Keyword).isEmpty = true then 0 else 1) < 30)) = true := by rfl)
    (hline : (apos.endLine == pos.line) = true := by rfl) (hst : starEach [e] X.env = (false, eval e X.env) :: starEach [] X.env := by rfl) (hpl : (backTo pos (starEach [] X.env)).any (·.1) = false := by rfl) : SE F X Γ c (.Call (.Attribute o "index" apos) [e] [] pos) P :=
  se_indexT (h.mono fun c1 dl ⟨r, e1, q⟩ => ⟨r.map (·.1), by rw [e1, List.map_map]; rfl, q.mono fun c2 d ⟨x, e2, hx, p⟩ => by
    obtain ⟨h1, h2⟩ := ixN_at hx
    refine ⟨x.1, ixN r x, e2, by rw [List.getElem?_map, h1]; rfl, fun m hm z => ?_, p⟩
    rw [List.getElem?_map] at z
    obtain ⟨y, hy, e⟩ := Option.map_eq_some_iff.mp z
    exact h2 m hm (by rw [hy, Subtype.ext e])⟩) hb hall hline hst hpl
theorem se_tyTuple (hm : X.mg "tuple" = none) (p : P c (.raw (.ty "tuple"))) (hg : Gl X "tuple" := by rfl) : SE F X Γ c (.Name "tuple" pos) P := se_ty (T := "tuple") hm p (by decide +kernel) hg
theorem se_tyStr (hm : X.mg "str" = none) (p : P c (.raw (.ty "str"))) (hg : Gl X "str" := by rfl) : SE F X Γ c (.Name "str" pos) P := se_ty (T := "str") hm p (by decide +kernel) hg
theorem se_tyInt (hm : X.mg "int" = none) (p : P c (.raw (.ty "int"))) (hg : Gl X "int" := by rfl) : SE F X Γ c (.Name "int" pos) P := se_ty (T := "int") hm p (by decide +kernel) hg
theorem se_tyBool (hm : X.mg "bool" = none) (p : P c (.raw (.ty "bool"))) (hg : Gl X "bool" := by rfl) : SE F X Γ c (.Name "bool" pos) P := se_ty (T := "bool") hm p (by decide +kernel) hg
end
end D
end
section
set_option Elab.async false
set_option linter.all false
set_option maxRecDepth 100000
namespace D
open PySem L2 PyProof.Rows
section
variable {F : Fm} {X : Cx} {Γ : List Sl} {c : Cells} {P : Cells → Dt → Prop} {Φ : PEnds} {pos : Pos}
/-- xs[i], xs a cell -/
theorem iv_lcel (j : Nat) {a : Addr} {l : List Dt} {i : Int} {d : Dt} (hj : c[j]? = some (a, .lst l)) (h : atI l i = some d) (p : P c d) : IxV F X Γ c (.raw (.ref a)) (.int i) P :=
  IxV.of ix_list fun σ H x y Q S h1 h2 k => by
    cases h1
    cases h2
    obtain ⟨xs, ha, t⟩ := S.cat hj
    obtain ⟨v, e, dv⟩ := atI_dvs t h
    exact ⟨_, _, i, v, rfl, rfl, .inl (.inl ha), e, k v H c d p S (Ex.refl _) dv⟩
/-- xs[i] = e, xs a cell -/
theorem s_lput {o ix e : Expr} {sp : Pos} (h : SE F X Γ c e fun c1 d => SE F X Γ c1 o fun c2 d0 => ∃ a, d0 = .raw (.ref a) ∧ SE F X Γ c2 ix fun c3 d1 => ∃ j l i k, c3[j]? = some (a, .lst l) ∧ d1 = .int i ∧ L2.ixN l.length i = some k ∧ Φ.nx Γ (c3.set j (a, .lst (l.set k d))))
    (hs : swapsWithSole [.Subscript o ix sp] e pos.line X.env = pure false := by rfl) (hw : swappedStores [.Subscript o ix sp] e X.env = pure none := by rfl)
    (ha : ∀ v, assign (.Subscript o ix sp) X.env v = (do
      let ov ← holding [v] (eval o X.env)
      let iv ← holding [v, ov] (eval ix X.env)
      standAt sp
      holding [v, ov, iv] (setItem ov iv v)
      release [v, ov, iv] []) := by intro _; rfl) : S1 F X Γ c (.Assign [.Subscript o ix sp] e pos) Φ :=
  S1.of (ps_asg pE (pg_sub pE pE set_list ha) hs hw) fun σ H D S E => h σ H _ S fun v H1 c1 d p S1 e1 dv => p σ H1 _ S1 fun w H2 c2 d0 p2 S2 e2 dw => by
    obtain ⟨a, rfl, p2⟩ := p2
    cases dw
    refine p2 σ H2 _ S2 fun y H3 c3 d1 p3 S3 e3 dy => ?_
    obtain ⟨j, l, i, k, hj, rfl, hk, p3⟩ := p3
    cases dy
    obtain ⟨xs, ha, t⟩ := S3.cat hj
    obtain ⟨S4, e4⟩ := S3.updC (q' := .lst (l.set k d)) (o := .lst (xs.set k v)) hj rfl rfl ⟨_, upd_same, t.set (dv.mono (e2.trans e3)) k⟩
    exact ⟨a, xs, i, k, rfl, rfl, ha, by rw [t.length]; exact hk, E.nx _ _ _ _ p3 S4 (((e1.trans e2).trans e3).trans e4)⟩
theorem ss_openBag (j : Nat) {b : Addr} {n : Nat} {ss : List Stmt} (hj : c[j]? = some (b, .bag n)) (h : ∀ d s k : Int, 0 ≤ d → 0 ≤ s → s < 2147483647 → 0 ≤ k → k ≤ n → SS F X Γ (c.set j (b, .lst [.int d, .int s, .int k])) ss Φ) : SS F X Γ c ss Φ := .mk fun σ H D S E => by
  obtain ⟨d, s, k, ha, h1, h2, h3, h4, h5⟩ := S.cat hj
  obtain ⟨S2, e2⟩ := S.chg (q' := .lst [.int d, .int s, .int k]) (H' := H) hj rfl (fun _ _ => rfl) ⟨_, ha, .cons (.int _) (.cons (.int _) (.cons (.int _) .nil))⟩
  exact h d s k h1 h2 h3 h4 h5 σ H D S2 (E.ext e2)
theorem SE.closeBag {e : Expr} (h : SE F X Γ c e fun c1 z => ∃ j b d s k n, c1[j]? = some (b, .lst [.int d, .int s, .int k]) ∧ 0 ≤ d ∧ 0 ≤ s ∧ s < 2147483647 ∧ 0 ≤ k ∧ k ≤ ((n : Nat) : Int) ∧ P (c1.set j (b, .bag n)) z) : SE F X Γ c e P := .mk fun σ H Q S kk => h σ H Q S fun v H' c' z p S' e' dv => by
  obtain ⟨j, b, d, s, k, n, hj, h1, h2, h3, h4, h5, p⟩ := p
  obtain ⟨xs, ha, t⟩ := S'.cat hj
  have et : xs = [.int d, .int s, .int k] := DVs.of_ints (l := [d, s, k]) t
  subst et
  obtain ⟨S2, e2⟩ := S'.chg (q' := .bag n) (H' := H') hj rfl (fun _ _ => rfl) ⟨d, s, k, ha, h1, h2, h3, h4, h5⟩
  exact kk v H' _ z p S2 (e'.trans e2) (dv.mono e2)
end
end D
end
section
set_option Elab.async false
set_option linter.all false
set_option maxRecDepth 100000
namespace D
open PySem L2 PyProof.Rows
section
variable {F : Fm} {X : Cx} {Γ : List Sl} {c : Cells} {Φ : PEnds} {pos : Pos}
/-- what turns that change something give: J tells of the cells and of what is made so far -/
def LcJ (X : Cx) (Γ : List Sl) (scope : Scope) (vs : List Nat) (tg elt : Expr) (c1 : Cells) (ds : List Dt) (Q : Cells → List Dt → Prop) : Prop :=
  ∃ (α β : Type) (enc : α → Dt) (dec : β → Dt) (l : List α) (J : Nat → Cells → List β → Prop), ds = l.map enc ∧ l.length ≤ sizeLine ∧ J 0 c1 [] ∧
    (∀ i r c' acc, l[i]? = some r → J i c' acc → Turn0 X Γ scope vs tg elt (enc r) c' fun c2 y => ∃ b, y = dec b ∧ J (i + 1) c2 (acc ++ [b])) ∧ ∀ c' acc, J l.length c' acc → Q c' (acc.map dec)
theorem lcJ {α β : Type} {enc : α → Dt} {l : List α} {scope : Scope} {vs : List Nat} {tg elt : Expr} {c1 : Cells} {Q : Cells → List Dt → Prop} (dec : β → Dt) (J : Nat → Cells → List β → Prop) (hz : l.length ≤ sizeLine) (h0 : J 0 c1 [])
    (turn : ∀ i r c' acc, l[i]? = some r → J i c' acc → Turn0 X Γ scope vs tg elt (enc r) c' fun c2 y => ∃ b, y = dec b ∧ J (i + 1) c2 (acc ++ [b])) (done : ∀ c' acc, J l.length c' acc → Q c' (acc.map dec)) : LcJ X Γ scope vs tg elt c1 (l.map enc) Q :=
  ⟨α, β, enc, dec, l, J, rfl, hz, h0, turn, done⟩
theorem jm_t {elt tg : Expr} {scope : Scope} {vs : List Nat} {ds : List Dt} {Pl : Cells → List Dt → Prop} (h : LcJ X Γ scope vs tg elt c ds Pl) :
    ds.length ≤ sizeLine ∧ ∃ Jv : Nat → Cells → List Dt → Prop, Jv 0 c [] ∧ (∀ i d c' acc, ds[i]? = some d → Jv i c' acc → Turn0 X Γ scope vs tg elt d c' fun c2 y => Jv (i + 1) c2 (acc ++ [y])) ∧ ∀ c' acc, Jv ds.length c' acc → Pl c' acc := by
  obtain ⟨α, β, enc, dec, l, J, rfl, hz, h0, turn, done⟩ := h
  refine ⟨by rw [List.length_map]; exact hz, fun i c' acc => ∃ bs, acc = bs.map dec ∧ J i c' bs, ⟨[], rfl, h0⟩, ?_, ?_⟩
  · rintro i d c' acc hd ⟨bs, rfl, hj⟩ F' s0 H0 C cl fp
    refine .mk fun σ H v Q S dv k => ?_
    rw [List.getElem?_map] at hd
    obtain ⟨r, hr, rfl⟩ := Option.map_eq_some_iff.mp hd
    refine turn i r c' bs hr hj F' s0 H0 C cl fp σ H v Q S dv fun Γ2 σ2 q S2 w => k Γ2 σ2 ?_ S2 w
    intro s0 H0 C cl fp
    refine (q s0 H0 C cl fp).mono ?_
    rintro c2 y ⟨b, rfl, hj2⟩
    exact ⟨bs ++ [b], by rw [List.map_append]; rfl, hj2⟩
  · rintro c' acc ⟨bs, rfl, hj⟩
    rw [List.length_map] at hj
    exact done c' bs hj
theorem se_J {elt tg iter : Expr} {scope : Scope} {P : Cells → Dt → Prop} (hc : X.calm = true) (hN : X.N.Nodup) (ok : BlkOk X.N X.env.scope scope (ownOf X.N tg))
    (h : SW F X Γ c tg iter fun c1 ds => LcJ X Γ scope ((ownOf X.N tg).map (·.2)) tg elt c1 ds fun c2 z => P c2 (.lst z)) (hfs : ∀ x, foldedSetIterable iter X.env x = pure x := by intro _; rfl) : SE F X Γ c (.ListComp elt [⟨tg, iter, [], 0⟩] scope pos) P :=
  SEL.se (sel_lc _ hc hN ok (.mk fun σ H R S k => h σ H R S fun J H' c' ds p S' => k J H' c' ds (jm_t p) S') hfs)
theorem s_J {x : Str} {px lpos : Pos} {elt tg iter : Expr} {scope : Scope} (hc : X.calm = true) (hN : X.N.Nodup) (ok : BlkOk X.N X.env.scope scope (ownOf X.N tg))
    (h : SW F X Γ c tg iter fun c1 ds => LcJ X Γ scope ((ownOf X.N tg).map (·.2)) tg elt c1 ds fun c2 z => Φ.nx (Γ.set (ixOf X.N x) (.dat (.lst z))) c2)
    (hsw : swapsWith (.ListComp elt [⟨tg, iter, [], 0⟩] scope lpos) (some (.Name x px)) pos.line X.env = pure true := by exact sw_true rfl rfl rfl (by decide +kernel)) (hy : X.N[ixOf X.N x]? = some x := by rfl) (hyl : X.env.scope.names.lookup x = some .local := by rfl) (hfs : ∀ x, foldedSetIterable iter X.env x = pure x := by intro _; rfl) : S1 F X Γ c (.Assign [.Name x px] (.ListComp elt [⟨tg, iter, [], 0⟩] scope lpos) pos) Φ :=
  s_setT _ (ps_lc _ _ hc hN ok hsw hy hyl hfs) (lct_lc (.mk fun σ H R S k => h σ H R S fun J H' c' ds p S' => k J H' c' ds (jm_t (Pl := fun c2 z => Φ.nx (Γ.set (ixOf X.N x) (.dat (.lst z))) c2) p) S'))
theorem idxs_eq (n : Nat) : idxs n = (List.range n).map fun (i : Nat) => Dt.int (i : Int) := rfl
end
end D
end
section
set_option Elab.async false
set_option linter.all false
set_option maxRecDepth 100000
namespace D
open PySem L2 PyProof.Rows
end D
end
section
set_option Elab.async false
set_option linter.all false
set_option maxRecDepth 100000
namespace D
open PySem L2 PyProof.Rows PyProof
end D
end
section
set_option Elab.async false
set_option linter.all false
set_option maxRecDepth 100000
namespace D
open PySem L2 PyProof.Rows PyProof
structure ObjC (K : PySem.W.Frag) (C : Addr) : Prop where
  cl : Cls K C
  ha : PySem.W.findIn K (.ref C) "__class__" = some (some (.builtin "object.__class__"))
  hn : PySem.W.specialIn K (.builtin "object.__class__") "__get__" = some (some (.builtin "getset_descriptor.__get__"))
  htk : PySem.W.takesIn K (.builtin "object.__class__") = some true
  hm : PySem.W.mroIn K C (.type "object") = some true
  kt : PySem.W.kitOne K (.ref C) (.type "tuple") = some false
  ks : PySem.W.kitOne K (.ref C) (.type "str") = some false
  ki : PySem.W.kitOne K (.ref C) (.type "int") = some false
  kb : PySem.W.kitOne K (.ref C) (.type "bool") = some false
/-- a datum whose class is known -/
def Tame (K : PySem.W.Frag) (d : Dt) : Prop := noRaw d = true ∨ ∃ C, d = .obj C ∧ ObjC K C
section
variable {F : Fm} {X : Cx} {Γ : List Sl} {c : Cells} {P : Cells → Dt → Prop} {Φ : PEnds} {pos : Pos}
theorem cv_isO {C : Addr} {T : String} (O : ObjC X.K C) (hk : PySem.W.kitOne X.K (.ref C) (.type T) = some false) (p : P c (.bl false)) : ClV F X Γ c (.builtin "isinstance") [.obj C, .raw (.ty T)] P :=
  ClV.of call_isi fun σ H vs Q S dv k => by
    cases dv with
    | cons h1 t => cases t with
      | cons h2 t =>
        cases t
        cases h2
        cases h1 with
        | obj h => exact ⟨_, _, _, _, false, rfl, .ty T, .base (.ins (of_mask h).2 O.cl O.ha O.hn O.htk O.hm), hk, k _ H c _ p S (Ex.refl _) (.bl _)⟩
theorem ct_isStr {d : Dt} (h : Tame X.K d) (p : P c (.bl (isStrD d))) : ClV F X Γ c (.builtin "isinstance") [d, .raw (.ty "str")] P := by
  rcases h with h | ⟨C, rfl, O⟩
  · exact cv_isStr h p
  · exact cv_isO O O.ks p
theorem ct_isTup {d : Dt} (h : Tame X.K d) (p : P c (.bl (isTupD d))) : ClV F X Γ c (.builtin "isinstance") [d, .raw (.ty "tuple")] P := by
  rcases h with h | ⟨C, rfl, O⟩
  · exact cv_isTup h p
  · exact cv_isO O O.kt p
def putFD (f : Str) (d : Dt) : List (Str × Dt) → List (Str × Dt)
  | [] => [(f, d)]
  | (g, x) :: r => if g = f then (g, d) :: r else (g, x) :: putFD f d r
theorem DVx.put {K : PySem.W.Frag} {H : Hp} {f : Str} {y : V} {d : Dt} (dv : DV K H y d) : ∀ {xs : List (Str × V)} {fs : List (Str × Dt)}, DVx K H xs fs → DVx K H (putF f y xs) (putFD f d fs)
  | _, _, .nil => .cons dv .nil
  | _, _, .cons (k := g) h t => by
    unfold putF putFD
    by_cases e : g = f
    · rw [if_pos e, if_pos e]; exact .cons dv t
    · rw [if_neg e, if_neg e]; exact .cons h (DVx.put dv t)
theorem DVx.length {K : PySem.W.Frag} {H : Hp} : ∀ {xs : List (Str × V)} {fs : List (Str × Dt)}, DVx K H xs fs → xs.length = fs.length
  | _, _, .nil => rfl
  | _, _, .cons _ t => congrArg (· + 1) (DVx.length t)
/-- o.f = e, o a cell -/
theorem s_fput {o e : Expr} {f : Str} {p' : Pos} (h : SE F X Γ c e fun c1 d => SE F X Γ c1 o fun c2 d0 => ∃ j a C dx fs, d0 = .raw (.ref a) ∧ c2[j]? = some (a, .ins C dx fs) ∧ Cls X.K C ∧ NoAttr X.K C f ∧ fs.length < 1000 ∧ Φ.nx Γ (c2.set j (a, .ins C dx (putFD f d fs))))
    (hs : swapsWith e (some (.Attribute o f p')) pos.line X.env = pure false := by rfl) : S1 F X Γ c (.Assign [.Attribute o f p'] e pos) Φ :=
  S1.of (ps_fld pE pE hs) fun σ H D S E => h σ H _ S fun v H1 c1 d p S1 e1 dv => p σ H1 _ S1 fun w H2 c2 d0 p2 S2 e2 dw => by
    obtain ⟨j, a, C, dx, fs, rfl, hj, hc, hn, hl, p2⟩ := p2
    cases dw
    obtain ⟨xs, ha, t⟩ := S2.cat hj
    obtain ⟨S3, e3⟩ := S2.updC (q' := .ins C dx (putFD f d fs)) (o := .ins C dx (putF f v xs)) hj rfl rfl ⟨_, upd_same, t.put (dv.mono e2)⟩
    exact ⟨a, C, dx, xs, rfl, ha, hc, hn, by rw [t.length]; exact hl, E.nx _ _ _ _ p2 S3 ((e1.trans e2).trans e3)⟩
/-- the promise of an __init__ without arguments: its cells -/
def spM (K : PySem.W.Frag) (C : Addr) (post : Addr → Addr → Cells → Prop) : Sp := spG K (fun a : Addr × Addr => [.raw (.ref a.1)]) (fun a => [(a.1, .ins C a.2 [])]) (fun _ => True) (fun a c' d => d = .non ∧ post a.1 a.2 c') fun _ _ _ => False
structure MkC (P : Program) (w : World) (K : PySem.W.Frag) (mg : Str → Option Value) (base : Heap) (k : Nat) (x : Str) (C : Addr) (post : Addr → Addr → Cells → Prop) : Prop where
  ex : ∃ f fd, Mk K C f ∧ FnOk P w K mg base (L2.CX P w) k f fd ["self"] (spM K C post) ∧ mg x = some (.ref C) ∧ Binds K fd ["self"] []
theorem se_make {x : Str} {C : Addr} {k : Nat} {p : Pos} {post : Addr → Addr → Cells → Prop} (M : MkC X.prog X.w X.K X.mg X.base k x C post) (hr : Room (k + 1) X.A) (q : ∀ a dx c', post a dx c' → P (c ++ c') (.raw (.ref a))) (hg : Gl X x := by rfl) (hdb : (x == ("__debug__" : Str)) = false := by decide) :
    SE F X Γ c (.Call (.Name x p) [] [] pos) P := by
  obtain ⟨f, fd, h1, h2, h3, h4⟩ := M.ex
  refine SE.of (pe_make0 (E := fun _ _ _ => False) h1 h2 hr hg h3 h4 .nil (fun pins σ H s e s' I cx => passAt takes0 σ pins H s e s' I cx) hdb) fun σ H Q S kk => ?_
  intro a dx ha hdx hne
  have hdx' : upd H dx (.own a) a = none := by rw [upd_ne fun z => hne z.symm]; exact ha
  have S1 : SI X.K F Γ c σ (upd H dx (.own a)) := S.new hdx
  have e1 : Ex (Vw F c H) (Vw F c (upd H dx (.own a))) := (Kp.new (F := F) hdx).hid
  obtain ⟨S2, e2⟩ := S1.addC (q := .ins C dx []) (o := .ins C dx []) hdx' rfl ⟨[], upd_same, .nil⟩
  have key := sp_use (X := X) (F := F) (Γ := Γ) (args := fun a : Addr × Addr => [Dt.raw (.ref a.1)]) (cells := fun a : Addr × Addr => [(a.1, Cel.ins C a.2 [])]) (pre := fun _ => True) (post := fun (a : Addr × Addr) c' d => d = .non ∧ post a.1 a.2 c') (exc := fun _ _ _ => False)
    (l := c) (r := []) (c1 := c ++ [(a, .ins C dx [])]) (σ := σ) (H := upd (upd H dx (.own a)) a (.ins C dx [])) (vs := [.ref a]) (Q := fun v H2 => v = .non ∧ Q (.ref a) H2) (W := fun _ _ _ _ => False) (a := (a, dx)) (Wd := fun _ _ _ => False)
    (fun _ _ _ _ _ _ _ z => z.elim) S2 (by simp) (.cons (.raw _) .nil) True.intro (fun v H' c' d pd S3 e3 dv => by
      obtain ⟨rfl, pd⟩ := pd
      cases dv
      rw [List.append_nil] at S3 e3
      exact ⟨rfl, kk _ H' _ _ (q a dx c' pd) S3 ((e1.trans e2).trans e3) (.raw _)⟩) (fun _ _ z => z)
  exact key
/-- what is made is let go: a thing from now on -/
theorem SI.letAll {K : PySem.W.Frag} {σ : L2.St} {H : Hp} : ∀ (r c : Cells), SI K F Γ (c ++ r) σ H → SI K F Γ c σ H ∧ Ex (Vw F (c ++ r) H) (Vw F c H)
  | [], c, S => by rw [List.append_nil] at S ⊢; exact ⟨S, Ex.refl _⟩
  | p :: r, c, S => by
    have hj : (c ++ p :: r)[c.length]? = some p := by simp
    obtain ⟨S2, e2, _⟩ := S.letGo (H' := H) hj (fun _ _ => rfl) ((S.ce p (by simp)).live)
    have he : (c ++ p :: r).eraseIdx c.length = c ++ r := by simp [List.eraseIdx_append_of_length_le]
    rw [he] at S2 e2
    obtain ⟨S3, e3⟩ := SI.letAll r c S2
    exact ⟨S3, e2.trans e3⟩
theorem se_obj {e : Expr} {C : Addr} (h : SE F X Γ c e fun c1 d => ∃ c2 a dx fs r, d = .raw (.ref a) ∧ c1 = c2 ++ (a, .ins C dx fs) :: r ∧ P c2 (.obj C)) : SE F X Γ c e P := .mk fun σ H Q S k => h σ H Q S fun v H' c' d p S' e' dv => by
  obtain ⟨c2, a, dx, fs, r, rfl, rfl, p⟩ := p
  cases dv
  have hj : (c2 ++ (a, Cel.ins C dx fs) :: r)[c2.length]? = some (a, .ins C dx fs) := by simp
  obtain ⟨xs, hx, _⟩ := S'.cat hj
  obtain ⟨S2, e2, h2⟩ := S'.letGo (H' := H') hj (fun _ _ => rfl) ((S'.cat hj).live)
  have he : (c2 ++ (a, Cel.ins C dx fs) :: r).eraseIdx c2.length = c2 ++ r := by simp [List.eraseIdx_append_of_length_le]
  rw [he] at S2 e2 h2
  obtain ⟨S3, e3⟩ := SI.letAll r c2 S2
  have hv : Vw F (c2 ++ r) H' a = some (.ins C dx xs) := (h2 a (List.mem_cons_self ..)).trans hx
  exact k _ H' c2 _ p S3 ((e'.trans e2).trans e3) (.obj (e3 _ _ hv))
end
section
variable {X : Cx}
def rEqT0 (K : PySem.W.Frag) : R2 := fun x y H Q => ∃ a b xs, x = .ref a ∧ y = .ref b ∧ SqT K H a xs ∧ SqT K H b [] ∧ Q (.bl xs.isEmpty) H
theorem op_eqT0 (hu : X.A.units < cLine) : OpR X (compareOp .Eq) (rEqT0 X.K) := fun pn sa sg HH x y v u QQ I rx ry ⟨a, b, xs, ex, ey, ha, hb, q⟩ => by
  subst ex ey
  cases rx
  cases ry
  obtain ⟨its, r1, p1, _⟩ := I.tuple ha
  obtain ⟨its2, r2, p2, _⟩ := I.tuple hb
  cases r2
  refine PySem.SeqAt.eq_tupleAt (e := fun _ => true) p1 p2 hu (fun j h1 h2 => absurd h2 (by simp)) ?_
  have hl := r1.length
  refine ⟨.bl xs.isEmpty, HH, I, ?_, q⟩
  cases xs with
  | nil => cases r1; rfl
  | cons x xs => cases r1; rfl
end
section
variable {F : Fm} {X : Cx} {Γ : List Sl} {c : Cells} {P : Cells → Dt → Prop} {Φ : PEnds} {pos : Pos}
theorem ov_eqT0 {l : List Dt} (hu : X.A.units < cLine) (p : P c (.bl l.isEmpty)) : OpV F X Γ c (compareOp .Eq) (.tup l) (.tup []) P :=
  OpV.of (op_eqT0 hu) fun σ H x y Q S h1 h2 k => by
    cases h1 with
    | tup a t =>
      cases h2 with
      | tup b u =>
        have hl := t.length
        cases u
        refine ⟨_, _, _, rfl, rfl, (a.mono (mask_ex _ _)).t, (b.mono (mask_ex _ _)).t, ?_⟩
        cases t with
        | nil => exact k _ H c _ p S (Ex.refl _) (.bl _)
        | cons h t => exact k _ H c _ p S (Ex.refl _) (.bl _)
end
end D
end
section
set_option Elab.async false
set_option linter.all false
set_option maxRecDepth 100000
set_option maxHeartbeats 2000000
namespace D
open PySem L2 PyProof.Rows PyProof HT
section
variable {X : Cx}
def rRepF (K : PySem.W.Frag) : R2 := fun x y H Q => ∃ l k xs, x = .ref l ∧ y = .int k ∧ SqT K H l xs ∧ xs ≠ [] ∧ 2 ≤ k ∧ k ≤ 1000 ∧ xs.length ≤ 1000 ∧ ∀ p (o : Obj), H p = none → o.dict = none → Q (.ref p) (upd H p (.frz o (.tup (List.replicate k.toNat xs).flatten)))
theorem op_repF : OpR X (binaryOp .Mult) (rRepF X.K) := fun pn sa sg HH x y v u QQ I rx ry ⟨l, k, xs, ex, ey, hT, hne, k1, k2, hz, q⟩ => by
  subst ex ey
  cases rx
  obtain ⟨t, rfl⟩ := ry
  obtain ⟨its, r, ⟨⟨cls, dd, data, sl⟩, ho, hc, n, hd⟩, _⟩ := I.tuple hT
  simp only at hc hd
  subst hc hd
  have hle : its.length = xs.length := r.length.symm
  have hpos : 0 < its.length := by rw [hle]; exact List.length_pos_iff.mpr hne
  have hemp : its.toArray.isEmpty = false := by
    cases its with
    | nil => exact absurd hpos (by simp)
    | cons a b => rfl
  have hsz : its.toArray.size = xs.length := by rw [List.size_toArray, hle]
  have hmul : ((its.toArray.size : Nat) : Int) * k ≤ 1000000 := by
    rw [hsz]
    have : ((xs.length : Nat) : Int) * k ≤ 1000 * k := Int.mul_le_mul_of_nonneg_right (by omega) (by omega)
    omega
  have hprod : k.toNat * xs.length ≤ 1000 * 1000 := Nat.mul_le_mul (by omega) hz
  have flen : (List.replicate k.toNat its).flatten.length ≤ sizeLine := by rw [PyProof.Rows.lm_len_rep_flat, hle, sizeLine_eq]; omega
  have glen : (List.replicate k.toNat xs).flatten.length ≤ sizeLine := by rw [PyProof.Rows.lm_len_rep_flat, sizeLine_eq]; omega
  refine wpAny_binaryOp_repeat_ref (T := "tuple") (U := "int") (by decide) ⟨_, ho, rfl⟩ (fun s' => typeIs_int s' k t) noFill_tuple_mul F.fills_int_mul F.slot_int_rmul repeat_tuple F.slot_int_index.lookup (call_meets F.slot_int_rmul (typeIs_int sa k t) F.entry_int_rmul (F.args_int_rmul_2 _ _) (int_rmul_tuple k t l its.toArray n dd sl)
    ⟨ho, rfl, ⟨_, ho, rfl⟩, call_meets F.slot_tuple_mul ⟨_, ho, rfl⟩ F.entry_tuple_mul (F.args_tuple_mul_2 _ _) (tuple_mulW l its.toArray n dd sl k t (by rw [decide_eq_false (by omega), decide_eq_false (by omega)]; rfl) (by rw [hemp, Bool.false_or]; exact beq_eq_false_iff_ne.mpr (by omega)) (by rw [hemp, Bool.or_false]; exact decide_eq_false (by omega)) (by omega)
      (by unfold Builtin.Tuple.tupleTooMany; rw [sizeLine_eq]; exact decide_eq_false (by omega)) (by rw [size_rep, List.size_toArray]; exact flen)) ⟨ho, ?_⟩⟩)
  rw [size_rep]
  obtain ⟨o, ho', I2⟩ := laidF (t' := sa.toks) (h' := sa.heap) (xs := (List.replicate k.toNat xs).flatten) (us := (List.replicate k.toNat its).flatten) I (fun b u e => Heap.get?_push_of_some _ e) (Nat.le_refl _) glen (r.rep k.toNat)
  exact ⟨.ref sa.heap.objs.size, _, I2, rfl, q _ o (I.hok.fresh (Nat.le_refl _)) ho'⟩
end
theorem filterMap_ext {α β : Type} {f g : α → Option β} : ∀ {l : List α}, (∀ x ∈ l, f x = g x) → l.filterMap f = l.filterMap g
  | [], _ => rfl
  | x :: l, h => by
    rw [List.filterMap_cons, List.filterMap_cons, h x (List.mem_cons_self ..), filterMap_ext fun y hy => h y (List.mem_cons_of_mem _ hy)]
section
variable {prog : Program} {w : World} {A : Around} {E : Value → Shared → Prop} {s : Shared}
theorem back_pick (xs : Array Value) : ((List.range xs.size).filterMap fun (m : Nat) => xs[(((xs.size : Nat) : Int) - 1 + (m : Int) * (-1)).toNat]?).toArray = xs.toList.reverse.toArray := by
  obtain ⟨l⟩ := xs
  simp only [List.size_toArray]
  congr 1
  have e : ∀ m, m < l.length → (l.toArray[(((l.length : Nat) : Int) - 1 + (m : Int) * (-1)).toNat]?) = some (l.reverse.getD m .none) := fun m hm => by
    have : (((l.length : Nat) : Int) - 1 + (m : Int) * (-1)).toNat = l.length - 1 - m := by omega
    rw [this, List.getElem?_toArray, List.getD_eq_getElem?_getD, List.getElem?_reverse hm]
    rw [List.getElem?_eq_getElem (by omega)]
    rfl
  have e2 : ((List.range l.length).filterMap fun (m : Nat) => l.toArray[(((l.length : Nat) : Int) - 1 + (m : Int) * (-1)).toNat]?) = (List.range l.length).map fun m => l.reverse.getD m .none := by
    rw [← List.filterMap_eq_map]
    exact filterMap_ext fun m hm => e m (List.mem_range.mp hm)
  rw [e2]
  apply List.ext_getElem
  · simp
  · intro i h1 h2
    simp only [List.getElem_map, List.getElem_range]
    rw [List.getD_eq_getElem?_getD, List.getElem?_eq_getElem h2]
    rfl
theorem applied_back {sl : Addr} {vl vu vs : Value} {n : Nat} {Q : Int × Int × Nat → Shared → Prop} (hs : s.heap.IsSliceOf sl vl vu vs) (pl : IsPart vl none) (pu : IsPart vu none) (ps : IsPart vs (some (-1)))
    (h : Q (((n : Nat) : Int) - 1, -1, n) s) : wpAny (model prog w) A (Builtin.Slice.sliceApplied (.ref sl) (pure (n : Int))) Q E s := by
  obtain ⟨os, hos, hcs, hds⟩ := id hs
  unfold Builtin.Slice.sliceApplied Builtin.Slice.sliceFields
  refine wpAny_bind (wpAny_bind (wpAny_field hos hds (x := vl) rfl (wpAny_bind (wpAny_field hos hds (x := vu) rfl (wpAny_bind (wpAny_field hos hds (x := vs) rfl (wpAny_pure ?_)))))))
  refine wpAny_bind (slicePart_ ps ?_)
  show wpAny _ _ (if ((-1 : Int) == 0) = true then _ else _) _ _ s
  rw [if_neg (by decide)]
  refine wpAny_bind (slicePart_ pl (wpAny_bind (slicePart_ pu (wpAny_bind (wpAny_pure ?_)))))
  have e1 : Builtin.Slice.sliceAdjust none none (-1) (n : Int) = ((n : Int) - 1, -1) := rfl
  have e2 : Builtin.Slice.slicePlaces ((n : Int) - 1) (-1) (-1) = n := by
    unfold Builtin.Slice.slicePlaces
    rw [if_neg (by decide)]
    by_cases hn : n = 0
    · subst hn; rfl
    · rw [if_pos (by omega), show (-(-1 : Int)) = 1 by rfl, Int.ediv_one]; omega
  show wpAny _ _ (match Builtin.Slice.sliceAdjust none none (-1) (n : Int) with | (lo, hi) => pure (lo, (-1 : Int), Builtin.Slice.slicePlaces lo hi (-1))) _ _ s
  rw [e1]
  show wpAny _ _ (pure ((n : Int) - 1, (-1 : Int), Builtin.Slice.slicePlaces ((n : Int) - 1) (-1) (-1))) _ _ s
  rw [e2]
  exact wpAny_pure h
theorem getItem_back {t sl : Addr} {items : Array Value} {vl vu vs : Value} {Q : Value → Shared → Prop} (ht : IsTup s.heap t items) (hs : s.heap.IsSliceOf sl vl vu vs) (pl : IsPart vl none) (pu : IsPart vu none) (ps : IsPart vs (some (-1))) (hsz : items.size ≤ sizeLine)
    (h : Q (.ref s.heap.objs.size) { s with heap := s.heap.push { cls := .type "tuple", data := .seq items.toList.reverse.toArray } }) : wpAny (model prog w) A (getItem (.ref t) (.ref sl)) Q E s := by
  have hok : sizeOk (.seq items.toList.reverse.toArray) := by
    show items.toList.reverse.toArray.size ≤ sizeLine
    rw [List.size_toArray, List.length_reverse, Array.length_toList]; exact hsz
  obtain ⟨os, hos, hcs, hds⟩ := id hs
  have hTs : s.TypeIs (.ref sl) "slice" := ⟨os, hos, hcs⟩
  unfold getItem
  try with_reducible refine wpAny_holding ?_
  first | refine wpAny_bind (wpAny_pure ?_) | skip
  refine wpAny_bind (wpAny_sequenceKey ht.typeIs (by decide) (wpAny_bind (wpAny_callSpecial?_slot (name := Str.ofString "__getitem__") ht.typeIs PyProof.Rows.slot_tuple_getitem (wpAny_call_entry PyProof.Rows.slot_tuple_getitem ht.typeIs entry_tuple_getitem ?_ (args_tuple_getitem _ _)))))
  show wpAny _ _ (Builtin.Tuple.tupleItemsOf (.ref t) >>= _) _ _ s
  refine wpAny_bind (tupleItemsOf_ ht (wpAny_bind (wpAny_typeOf hTs ?_)))
  rw [if_pos (by decide)]
  refine wpAny_bind (applied_back hs pl pu ps ?_)
  have hno : ¬ (((((items.size : Nat) : Int) - 1) == 0 && (-1 : Int) == 1 && items.size == items.size) = true) := by
    rw [show ((-1 : Int) == 1) = false from rfl, Bool.and_false, Bool.false_and]; exact Bool.false_ne_true
  show wpAny _ _ (if ((((items.size : Nat) : Int) - 1) == 0 && (-1 : Int) == 1 && items.size == items.size) = true then _ else _) _ _ s
  rw [if_neg hno, back_pick]
  first
    | exact wpAny_bind (m := Builtin.Tuple.tupleExact _) (wpAny_newObj_type (wpAny_pure ⟨_, rfl, wpAny_pure h⟩) hok)
    | exact wpAny_bind (m := Builtin.Tuple.tupleExact _) (wpAny_newObj_type (wpAny_bind (wpAny_pure (wpAny_pure ⟨_, rfl, wpAny_pure h⟩))) hok)
    | exact wpAny_bind (wpAny_bind (m := Builtin.Tuple.tupleExact _) (wpAny_newObj_type (wpAny_pure (wpAny_pure ⟨_, rfl, wpAny_pure h⟩)) hok))
    | exact wpAny_bind (wpAny_bind (m := Builtin.Tuple.tupleExact _) (wpAny_newObj_type (wpAny_pure ⟨_, rfl, wpAny_pure h⟩) hok))
end
section
variable {X : Cx}
def tBackT (K : PySem.W.Frag) (te : TE) : TE := fun σ H Q => te σ H fun x H1 => ∃ a xs, x = .ref a ∧ SqT K H1 a xs ∧ ∀ p (o : Obj), H1 p = none → o.dict = none → Q (.ref p) (upd H1 p (.frz o (.tup xs.reverse)))
theorem pe_backT {e : Expr} {te : TE} {k : Nat} {p1 p2 p3 pos : Pos} (he : PE X e te) : PE X (.Subscript e (.Slice none none (some (.UnaryOp .USub (.Constant (.int 1) k p1) p2)) p3) pos) (tBackT X.K te) := ⟨fun pn sa sg HH QQ I h => by
  refine Subscript_ (thn (he.run pn sa sg HH _ I h) fun v s1 ⟨x, H1, I1, r1, a, xs, ex, hx, q⟩ => ?_)
  subst ex
  cases r1
  have hst : PO X (some (.UnaryOp .USub (.Constant (.int 1) k p1) p2)) (tPart (tUn (rU fun i => .int (-i)) (tC (.int 1)))) := po_some (pe_un un_neg pe_int)
  refine wpAny_Slice (thn (po_none.run pn s1 sg H1 (fun o H2 => o = none ∧ H2 = H1) I1 ⟨rfl, rfl⟩) fun vl s2 ⟨l, H2, I2, pl, e1, e2⟩ => ?_)
  subst e1 e2
  refine thn (po_none.run pn s2 sg H2 (fun o H3 => o = none ∧ H3 = H2) I2 ⟨rfl, rfl⟩) fun vu s3 ⟨u, H3, I3, pu, e3, e4⟩ => ?_
  subst e3 e4
  refine thn (hst.run pn s3 sg H3 (fun o H4 => o = some (-1) ∧ H4 = H3) I3 ⟨1, rfl, -1, rfl, rfl, rfl⟩) fun vs s4 ⟨o, H4, I4, ps, e5, e6⟩ => ?_
  subst e5 e6
  have I5 : Inv X pn sg H4 { s4 with heap := s4.heap.push { cls := .type "slice", data := .fields #[vl, vu, vs] } } := I4.kept (t' := s4.toks) fun b ob q => Heap.get?_push_of_some _ q
  obtain ⟨its, r, ht, hz⟩ := I5.tuple hx
  have hlen := r.length
  show wpAny (model X.prog X.w) X.A (subscriptTail e (.Slice none none (some (.UnaryOp .USub (.Constant (.int 1) k p1) p2)) p3) (.ref a) (.ref s4.heap.objs.size)) (EP X pn sg QQ) X.xe { s4 with heap := s4.heap.push { cls := .type "slice", data := .fields #[vl, vu, vs] }, toks := s4.toks }
  refine tail_any (ops := [.ref a, .ref s4.heap.objs.size]) ht.typeIs (PyProof.Rows.slot_tuple_getitem.lookup) ?_ (by with_unfolding_all rfl)
  refine getItem_back ht (Heap.IsSliceOf.new _ vl vu vs) pl pu ps (by rw [List.size_toArray]; omega) ?_
  obtain ⟨o, ho, I6⟩ := laidF (t' := s4.toks) (h' := s4.heap.push { cls := .type "slice", data := .fields #[vl, vu, vs] }) (xs := xs.reverse) (us := its.reverse) I5 (fun b u e => Heap.get?_push_of_some _ e) (Nat.le_refl _) (by rw [List.length_reverse]; exact hz) r.reverse
  exact ⟨.ref _, _, I6, rfl, q _ o (I5.hok.fresh (Nat.le_refl _)) ho⟩⟩
end
section
variable {X : Cx} {CX : CXT} {k : Nat} {f : Addr} {fd : FuncData} {ps ks : List Str} {sp : Sp} {E : XK} {x : Str} {p pos : Pos} {kws : List Keyword} {tk : TA} {g : List Value → List Value → List Value} {gV : List V → List V → List V}
theorem pe_callK0 (F : FnOk X.prog X.w X.K X.mg X.base CX k f fd ps sp) (hr : Room k X.A) (hg : Gl X x) (hm : X.mg x = some (.ref f)) (hk : PySem.W.keepIn X.K (.ref f) = true) (hb : KBinds X.K fd ps ks g gV) (hx : Passes CX X E)
    (hkw : PK X kws tk) (hall : (backToKw pos (keywordEach kws X.env)).all (·.1.isSome) = true) (hks : (backToKw pos (keywordEach kws X.env)).filterMap (·.1) = ks)
    (hpl : ((backTo pos (starEach [] X.env)).any (·.1) || (backToKw pos (keywordEach kws X.env)).any (·.1.isNone)) = false) (hdb : (x == ("__debug__" : Str)) = false) :
    PE X (.Call (.Name x p) [] kws pos) (fun σ H Q => tk σ H fun zs H2 => sp (gV [] zs) H2 Q E) := ⟨fun pn sa sg HH QQ I h => by
  refine wpAny_Call_Name_kw (ld_glob I hg hm ?_ hdb)
  refine PySem.W.callWith_KW0 (h₀ := X.base) I.ok.mod.kin hk hall (thn (hkw.run pos pn sa sg HH _ I h) fun ws s2 ⟨zs, H2, I2, rz, q2⟩ => ⟨I2.kIn, ?_⟩) hpl
  rw [hks]
  exact run_fnk F hr hb hx I2 .nil rz q2⟩
end
section
variable {F : Fm} {X : Cx} {Γ : List Sl} {c : Cells} {P : Cells → Dt → Prop} {Φ : PEnds} {pos : Pos}
theorem ov_repT {l : List Dt} {k : Int} (hne : l ≠ []) (k1 : 2 ≤ k) (k2 : k ≤ 1000) (hz : l.length ≤ 1000) (p : P c (.tup (List.replicate k.toNat l).flatten)) : OpV F X Γ c (binaryOp .Mult) (.tup l) (.int k) P :=
  OpV.of op_repF fun σ H x y Q S h1 h2 kk => by
    cases h2
    cases h1 with
    | tup a t => exact ⟨_, k, _, rfl, rfl, (a.mono (mask_ex _ _)).t, fun z => hne (by rw [z] at t; cases t; rfl), k1, k2, by rw [t.length]; exact hz, fun q o hq ho => kk _ _ c _ p (S.new hq) (Kp.new (F := F) hq).hid (S.newT hq ho (t.flat k.toNat))⟩
theorem DVs.rev {K : PySem.W.Frag} {H : Hp} : ∀ {v : List V} {d : List Dt}, DVs K H v d → DVs K H v.reverse d.reverse
  | _, _, .nil => .nil
  | _, _, .cons h t => by rw [List.reverse_cons, List.reverse_cons]; exact (DVs.rev t).append (.cons h .nil)
theorem se_backT {e : Expr} {k : Nat} {p1 p2 p3 : Pos} (h : SE F X Γ c e fun c1 d => ∃ l, d = .tup l ∧ P c1 (.tup l.reverse)) : SE F X Γ c (.Subscript e (.Slice none none (some (.UnaryOp .USub (.Constant (.int 1) k p1) p2)) p3) pos) P :=
  SE.of (pe_backT pE) fun σ H Q S kk => h σ H _ S fun v H1 c1 d p S1 e1 dv => by
    obtain ⟨l, rfl, p⟩ := p
    cases dv with
    | tup a t => exact ⟨_, _, rfl, (a.mono (mask_ex _ _)).t, fun q o hq ho => kk _ _ c1 _ p (S1.new hq) (e1.trans (Kp.new (F := F) hq).hid) (S1.newT hq ho t.rev)⟩
theorem cv_boolI {i : Int} (p : P c (.bl (i != 0))) : ClV F X Γ c (.type "bool") [.int i] P :=
  ClV.of call_bool1 fun σ H vs Q S dvs k => by
    cases dvs with
    | cons dv t =>
      cases t
      cases dv
      exact .inl ⟨i, rfl, k _ H c _ p S (Ex.refl _) (.bl _)⟩
end
end D
end
section
set_option Elab.async false
set_option linter.all false
set_option maxRecDepth 100000
set_option maxHeartbeats 2000000
namespace D
open PySem L2 PyProof.Rows PyProof
open PySem.W (EachIs AllAlike Sortable dataLe list_sort_data KdlSrc kdl_hint_dict kdu_collect alike)
end D
end
section
set_option Elab.async false
set_option linter.all false
set_option maxRecDepth 100000
set_option maxHeartbeats 2000000
namespace D
open PySem L2 PyProof.Rows PyProof
open PySem.W (AllAlike dataLe alike)
end D
end
section
set_option Elab.async false
set_option linter.all false
set_option maxRecDepth 100000
set_option maxHeartbeats 2000000
namespace D
open PySem L2 PyProof.Rows PyProof
def sw2 {α : Type} : List α → List α → List α
  | [], [t, l] => [l, t]
  | _, _ => []
/-- a def of two parameters, called by their names, the second first -/
structure DefSw (P : Program) (w : World) (K : PySem.W.Frag) (mg : Str → Option Value) (base : Heap) (k : Nat) (x p1 p2 : Str) (sp : Sp) : Prop where
  ex : ∃ f fd, FnOk P w K mg base (L2.CX P w) k f fd [p1, p2] sp ∧ mg x = some (.ref f) ∧ PySem.W.keepIn K (.ref f) = true ∧ KBinds K fd [p1, p2] [p2, p1] sw2 sw2
theorem kb_sw {K : PySem.W.Frag} {fd : FuncData} {p1 p2 : Str} (h : ∀ u v : Value, bindArgs fd ⟨[], [(p2, u), (p1, v)]⟩ = pure [(p1, v), (p2, u)]) : KBinds K fd [p1, p2] [p2, p1] sw2 sw2 where
  to := fun s us ws _ hl => by
    match us, ws, hl with
    | [], [u, v], _ => exact .of_eq (h u v)
    | [], [], hl => cases hl
    | [], [_], hl => cases hl
    | [], _ :: _ :: _ :: _, hl => cases hl
    | _ :: _, _, hl => cases hl
  rel := fun {vs us zs ws} r1 r2 => by
    cases r1 with
    | nil =>
      cases r2 with
      | nil => exact .nil
      | cons h t => cases t with
        | nil => exact .nil
        | cons h' t => cases t with
          | nil => exact .cons h' (.cons h .nil)
          | cons _ _ => exact .nil
    | cons _ _ => exact .nil
section
variable {F : Fm} {X : Cx} {Γ : List Sl} {c : Cells} {P : Cells → Dt → Prop} {pos : Pos}
theorem se_fSw {α : Type} {args : α → List Dt} {pre : α → Prop} {post : α → Dt → Prop} {k : Nat} {x p1 p2 : Str} {p kp kp' : Pos} {e e' : Expr} (Df : DefSw X.prog X.w X.K X.mg X.base k x p1 p2 (spP X.K args pre post)) (hr : Room k X.A)
    (h : SE F X Γ c e fun c1 d => SE F X Γ c1 e' fun c2 d' => ∃ a, [d', d] = args a ∧ pre a ∧ ∀ z, post a z → P c2 z) (hg : Gl X x := by rfl) (hdb : (x == ("__debug__" : Str)) = false := by decide)
    (hall : (backToKw pos (keywordEach [⟨some p2, e, kp⟩, ⟨some p1, e', kp'⟩] X.env)).all (·.1.isSome) = true := by rfl) (hks : (backToKw pos (keywordEach [⟨some p2, e, kp⟩, ⟨some p1, e', kp'⟩] X.env)).filterMap (·.1) = [p2, p1] := by rfl)
    (hpl : ((backTo pos (starEach [] X.env)).any (·.1) || (backToKw pos (keywordEach [⟨some p2, e, kp⟩, ⟨some p1, e', kp'⟩] X.env)).any (·.1.isNone)) = false := by rfl) : SE F X Γ c (.Call (.Name x p) [] [⟨some p2, e, kp⟩, ⟨some p1, e', kp'⟩] pos) P := by
  obtain ⟨f, fd, h1, h2, h3, h4⟩ := Df.ex
  refine SE.of (pe_callK0 (E := fun _ _ _ => False) h1 hr hg h2 h3 h4 (fun pins σ H s e s' I cx => passAt takes0 σ pins H s e s' I cx) (pk_cons pE (pk_cons pE pk_nil)) hall hks hpl hdb) fun σ H Q S kk => ?_
  refine h σ H _ S fun v H1 c1 d p S1 e1 dv => p σ H1 _ S1 fun v' H2 c2 d' p2' S2 e2 dv' => ?_
  obtain ⟨a, ea, hp, q⟩ := p2'
  have dvs : DVs X.K (Vw F c2 H2) [v', v] (args a) := by rw [← ea]; exact .cons dv' (.cons (dv.mono e2) .nil)
  exact sp_use (X := X) (F := F) (Γ := Γ) (args := args) (cells := fun _ => []) (pre := pre) (post := fun a c' d => c' = [] ∧ post a d) (exc := fun _ _ _ => False) (l := c2) (r := []) (c1 := c2) (σ := σ) (H := H2) (vs := [v', v]) (Q := Q) (W := fun _ _ _ _ => False) (a := a) (Wd := fun _ _ _ => False)
    (fun _ _ _ _ _ _ _ z => z.elim) S2 (by simp) dvs hp (fun w H' c' z pd S3 e3 dw => by
      obtain ⟨rfl, pd⟩ := pd
      rw [List.append_nil, List.append_nil] at S3 e3 dw
      exact kk w H' _ z (q z pd) S3 ((e1.trans e2).trans e3) dw) (fun _ _ z => z)
end
end D
end
section
set_option Elab.async false
set_option linter.all false
set_option maxRecDepth 100000
set_option maxHeartbeats 2000000
namespace D
open PySem L2 PyProof.Rows PyProof PySem.SeqAt
open AutoSeq1 (wpAny_loadPart')
section
variable {prog : Program} {w : World} {A : Around} {R : Result → Shared → Prop}
/-- two tuples whose first items differ -/
theorem tup_first (l b : Addr) (items items2 : Array Value) (n n2 : Nat) (dd dd2 : Option Addr) (sl sl2 : Array (Option Value)) (x0 y0 : Value) (xs ys : List Value) (hx : items.toList = x0 :: xs) (hy : items2.toList = y0 :: ys) {J : Shared → Prop} {s : Shared}
    (turn : wpAny (model prog w) A.in1 (eqBool x0 y0) (fun r s' => r = false ∧ J s') (fun e s' => R (.error e) s') s)
    (fin : ∀ s', J s' → R (.ok (.ret (.bool false))) s') (hl1 : s.heap.get? l = some { cls := .type "tuple", dict := dd, data := .seq items n, slots := sl }) (hb1 : s.heap.get? b = some { cls := .type "tuple", dict := dd2, data := .seq items2 n2, slots := sl2 }) :
    wpAny (model prog w) A.in1 (Builtin.«tuple.__eq__» ⟨[.ref l, .ref b], []⟩) (GQ.FinOf prog w A R) (fun e s' => R (.error e) s') s := by
  have f2 := AutoSeq1.sub_tuple_tuple
  have h0 := turn
  obtain ⟨hp, g, d, tk, os⟩ := s
  wp_walk using wpAny_loadPart' hl1, wpAny_loadPart' hb1, wpAny_forIn_list _ (fun rest b s' => b.1 = none ∧ rest = (items.toList.zip items2.toList) ∧ s' = ⟨hp, g, d, tk, os⟩) _
  case turn =>
    rintro ⟨y, x⟩ rest b s' ⟨hb', hz, rfl⟩
    rw [hx, hy, List.zip_cons_cons] at hz
    injection hz with hyx hrest
    cases hyx
    refine wpAny_bind (wpAny_mono h0 (fun r s2 q2 => ?_) fun _ _ x => x)
    obtain ⟨hr, q2⟩ := q2
    subst hr
    have := fin s2 q2
    wp_walk
    first | exact ⟨_, rfl, by simpa using this⟩ | simpa using this
  case fin =>
    rintro ⟨b1, b2⟩ s' ⟨hb', hz, rfl⟩
    rw [hx, hy, List.zip_cons_cons] at hz
    cases hz
  case h => exact ⟨rfl, rfl, rfl⟩
theorem rc_first {l b : Addr} {items items2 : Array Value} {x0 y0 : Value} {xs ys : List Value} {E : Value → Shared → Prop} {s : Shared} {Q : Value → Shared → Prop} (hx : items.toList = x0 :: xs) (hy : items2.toList = y0 :: ys) (hu : A.units < cLine)
    (hl : s.heap.IsTuple l items) (hb : s.heap.IsTuple b items2) (turn : wpAny (model prog w) A.in1 (eqBool x0 y0) (fun r s' => r = false ∧ Q (.bool false) s') E s) : wpAny (model prog w) A (richCompare .Eq (.ref l) (.ref b)) Q E s := by
  obtain ⟨⟨cls, dd, data, sl⟩, ho, hc, n, hd⟩ := id hl
  obtain ⟨⟨cls2, dd2, data2, sl2⟩, ho2, hc2, n2, hd2⟩ := id hb
  simp only at hc hd hc2 hd2
  subst hc hd hc2 hd2
  refine wpAny_richCompare_same_room (op := .Eq) ⟨_, ho, rfl⟩ ⟨_, ho2, rfl⟩ F.slot_tuple_eq (GQ.call_here F.slot_tuple_eq ⟨_, ho, rfl⟩ F.entry_tuple_eq (F.args_tuple_eq_2 _ _) ?_) hu
  exact tup_first (R := wants (fun v s' => v ≠ .notImplemented ∧ Q v s') E) l b items items2 n n2 dd dd2 sl sl2 x0 y0 xs ys hx hy turn (fun s' q => ⟨(fun x => nomatch x), q⟩) ho ho2
end
end D
end
section
set_option Elab.async false
set_option linter.all false
set_option maxRecDepth 100000
set_option maxHeartbeats 2000000
namespace D
open PySem L2 PyProof.Rows PyProof PySem.SeqAt
/-- the promise of an own ==, asked of a text or a tuple: False -/
abbrev spEqO (K : PySem.W.Frag) (C : Addr) : Sp := spP K (fun d : Dt => [.obj C, d]) (fun d => isStrD d = true ∨ isTupD d = true) (fun _ z => z = .bl false)
structure EqC (P : Program) (w : World) (K : PySem.W.Frag) (mg : Str → Option Value) (base : Heap) (k : Nat) (C : Addr) : Prop where
  ex : ∃ f fd, FnOk P w K mg base (L2.CX P w) k f fd ["self", "other"] (spEqO K C) ∧ PySem.W.findIn K (.ref C) "__eq__" = some (some (.ref f)) ∧ PySem.W.isFn K (.ref f) = true ∧ Binds K fd ["self", "other"] []
theorem nf_str {K : PySem.W.Frag} {C : Addr} : PySem.W.notFirst K C (.type "str") = true := by
  have e : fastBuiltinMro "str" = some [.type "str", .type "object"] := by decide +kernel
  have h : PySem.W.subIn K (.type "str") (.ref C) = some false := by
    show (fastBuiltinMro "str").map (·.contains (.ref C)) = some false
    rw [e]; first | rfl | simp
  unfold PySem.W.notFirst
  rw [h]; simp
theorem nf_tup {K : PySem.W.Frag} {C : Addr} : PySem.W.notFirst K C (.type "tuple") = true := by
  have e : fastBuiltinMro "tuple" = some [.type "tuple", .type "object"] := by decide +kernel
  have h : PySem.W.subIn K (.type "tuple") (.ref C) = some false := by
    show (fastBuiltinMro "tuple").map (·.contains (.ref C)) = some false
    rw [e]; first | rfl | simp
  unfold PySem.W.notFirst
  rw [h]; simp
section
variable {X : Cx} {k : Nat} {C : Addr}
theorem looks_ty {M : Model} {s : Shared} {u : Value} {T : String} (h : s.TypeIs u T) : PySem.W.Looks M s.heap (typeOf u) (.type T) := fun A Q E s' k q => by
  refine wpAny_typeOf (T := T) ?_ q
  cases u with
  | ref a => obtain ⟨o, ho, hc⟩ := h; exact ⟨o, k _ _ ho, hc⟩
  | _ => exact h
theorem rc_own (D' : EqC X.prog X.w X.K X.mg X.base k C) {A : Around} (room : Room k A) (fr : A.frames = X.A.frames) {pins : List (Addr × Obj)} {σ : L2.St} {H : Hp} {s : Shared} (I : Inv X pins σ H s) {a dx : Addr} {fs : List (Str × V)} {y : V} {u : Value} {d : Dt} {T : String}
    (ha : H a = some (.ins C dx fs)) (ry : RelV y u) (dy : DV X.K H y d) (hd : isStrD d = true ∨ isTupD d = true) (ty : s.TypeIs u T) (hn : PySem.W.notFirst X.K C (.type T) = true) :
    wpAny (model X.prog X.w) A (richCompare .Eq (.ref a) u) (fun r s' => r = .bool false ∧ ∃ H', Inv X pins σ H' s' ∧ Ex H H') X.xe s := by
  obtain ⟨f, fd, hf, hs, hfn, hb⟩ := D'.ex
  obtain ⟨mA, J, _⟩ := ins_get I.hok ha
  obtain ⟨od, J, _⟩ := J.look
  obtain ⟨m, hF⟩ := I.fr
  refine PySem.W.cmp_K (op := .Eq) (tb := .type T) room.units0 hF I.ok.mod.kin J (looks_ty ty) hn hs hfn ?_
  have hsp : spEqO X.K C [.ref a, y] H (fun v H' => v = .bl false ∧ Ex H H') (fun _ _ _ => False) := by
    refine ⟨[], d, fun x hx => absurd hx (by simp), List.nodup_nil, fun x hx => absurd hx (by simp [addrs]), fun p hp => absurd hp (by simp), ?_, hd, ?_, fun _ _ _ _ _ z => False.elim z⟩
    · rw [show mask (addrs [] ++ []) H = H from mask_nil H]
      exact .cons (.obj ha) (.cons dy .nil)
    · rintro v H' C' z ⟨rfl, rfl⟩ A' dz
      cases dz
      exact ⟨rfl, fun b o e => A'.keep b o e fun z => nomatch z⟩
  have e0 : Env0 X.prog X.w X.K X.mg X.base A X.stack s H := by
    have e := I.env0
    exact ⟨by rw [fr]; exact e.frames, e.mod, e.bs, e.bsz, e.funs, e.frf, e.hok, e.bare⟩
  have r2 : Vals [V.ref a, y] [Value.ref a, u] := .cons rfl (.cons ry .nil)
  refine wpAny_call (codeAny_mono (hf.run A X.stack s H ⟨[.ref a, u], []⟩ [.ref a, u] [.ref a, y] _ (fun _ _ _ => False) room e0 (by
    have := hb s [.ref a, u] I.kIn rfl
    simpa using this) r2 hsp) fun r s' hq => ?_)
  cases r with
  | error e => exact passAt takes0 σ pins H s e s' I hq
  | ok fl =>
    cases fl with
    | ret w =>
      obtain ⟨z, H', I', rz, ez, ex⟩ := I.after hq
      subst ez
      cases rz
      exact ⟨rfl, H', I', ex⟩
    | next => exact False.elim hq
    | brk => exact False.elim hq
    | cont => exact False.elim hq
theorem eqb_own (D' : EqC X.prog X.w X.K X.mg X.base k C) {A : Around} (room : Room k A) (fr : A.frames = X.A.frames) {pins : List (Addr × Obj)} {σ : L2.St} {H : Hp} {s : Shared} (I : Inv X pins σ H s) {a dx : Addr} {fs : List (Str × V)} {x : Str} {t : Tok} (ha : H a = some (.ins C dx fs)) :
    wpAny (model X.prog X.w) A (eqBool (.ref a) (.str x t)) (fun r s' => r = false ∧ ∃ H', Inv X pins σ H' s' ∧ Ex H H') X.xe s := by
  unfold eqBool
  refine wpAny_holding ?_
  refine wpAny_ite_split (fun hab => absurd (eq_of_beq hab) nofun) (fun _ => ?_)
  refine wpAny_bind (wpAny_mono (rc_own D' room fr I (y := .str x) (d := .str x) ha ⟨t, rfl⟩ (.str x) (.inl rfl) (typeIs_str s x t) nf_str) (fun v s' hv => ?_) fun _ _ x => x)
  obtain ⟨rfl, q⟩ := hv
  exact wpAny_truthy_bool ⟨rfl, q⟩
/-- d == (s,) -/
def eqOne (s : Str) : Dt → Bool
  | .tup [.str t] => decide (t = s)
  | _ => false
def Kn (C : Addr) : Dt → Prop
  | .non => True
  | .bl _ => True
  | .int _ => True
  | .str _ => True
  | .lst _ => True
  | .tup _ => True
  | .obj C' => C' = C
  | _ => False
def rEq1 (X : Cx) (C : Addr) : R2 := fun x y H Q => ∃ (s : Str) (d : Dt), DV X.K H y (.tup [.str s]) ∧ DV X.K H x d ∧ Kn C d ∧ (∀ d0 l, d = .tup (d0 :: l) → Kn C d0) ∧ ∀ H', Ex H H' → Q (.bl (eqOne s d)) H'
theorem op_eq1 (D' : EqC X.prog X.w X.K X.mg X.base k C) (hr : Room (k + 1) X.A) : OpR X (compareOp .Eq) (rEq1 X C) := fun pn sa sg HH x y v u QQ I rx ry ⟨s, d, dy, dx, hk, hk0, q⟩ => by
  have hu : X.A.units < cLine := hr.units0
  have qf : eqOne s d = false → EP X pn sg QQ (.bool false) sa := fun e => by rw [e] at q; exact ⟨.bl false, HH, I, rfl, q HH (Ex.refl _)⟩
  have qf' : ∀ {z : Bool}, z = false → EP X pn sg QQ (.bool false) sa → EP X pn sg QQ (.bool z) sa := fun e h => by rw [e]; exact h
  cases dy with
  | tup hb tb =>
    cases ry
    cases tb with
    | cons hs tb =>
    cases tb
    cases hs
    obtain ⟨its2, r2, p2, _⟩ := I.tuple hb.t
    cases r2 with
    | cons rs r2 =>
    cases r2
    obtain ⟨ts, rfl⟩ := rs
    cases dx with
    | non => cases (show v = Value.none from rx); exact RcAt.none_tuple p2 hu X.prog X.w X.xe _ (qf rfl)
    | bl b => cases (show v = Value.bool b from rx); exact RcAt.bool_tuple b p2 hu X.prog X.w X.xe _ (qf rfl)
    | int i => obtain ⟨t, rfl⟩ := (show ∃ t, v = Value.int i t from rx); exact RcAt.int_tuple i t p2 hu X.prog X.w X.xe _ (qf rfl)
    | str z => obtain ⟨t, rfl⟩ := (show ∃ t, v = Value.str z t from rx); exact RcAt.str_tuple z t p2 hu X.prog X.w X.xe _ (qf rfl)
    | lst ha t =>
      cases rx
      obtain ⟨its, r1, p1, _⟩ := I.list (.inl (.inl ha))
      exact RcAt.list_tuple p1.isList p2 hu X.prog X.w X.xe _ (qf rfl)
    | par _ _ => exact hk.elim
    | dct _ _ => exact hk.elim
    | dcu _ _ => exact hk.elim
    | fzl _ _ => exact hk.elim
    | exc _ _ => exact hk.elim
    | raw _ => exact hk.elim
    | obj ha =>
      cases rx
      cases (show _ = C from hk)
      refine wpAny_mono (rc_own D' (hr.mono (Nat.le_succ _)) rfl I (y := .ref _) (d := .tup [.str s]) ha rfl (.tup hb (.cons (.str s) .nil)) (.inr rfl) p2.typeIs nf_tup) (fun r s' hq => ?_) fun _ _ e => e
      obtain ⟨rfl, H', I', ex⟩ := hq
      exact ⟨.bl false, H', I', rfl, q H' ex⟩
    | tup ha t =>
      cases rx
      obtain ⟨its, r1, p1, _⟩ := I.tuple ha.t
      cases t with
      | nil =>
        cases r1
        refine eq_tupleAt (e := fun _ => true) p1 p2 hu (fun j h1 h2 => absurd h1 (by simp)) ?_
        exact qf rfl
      | cons h0 t =>
        have hk0' := hk0 _ _ rfl
        cases r1 with
        | cons rv r1 =>
        have fin0 : ∀ {u0 : Value} {usr : List Value} {s' : Str} {t' : Tok}, EqAt X.A.in1 sa u0 (.str s' t') false → ∀ j (h1 : j < (u0 :: usr).toArray.size) (h2 : j < #[Value.str s' t'].size), EqAt X.A.in1 sa ((u0 :: usr).toArray[j]) (#[Value.str s' t'][j]) false := fun he j h1 h2 => by
          have : j = 0 := by simpa using h2
          subst this; exact he
        have hu1 : X.A.in1.units < cLine := by
          have := hr.in1.units0
          exact this
        cases h0 with
        | str z =>
          obtain ⟨t0, rfl⟩ := rv
          refine eq_tupleAt (e := fun _ => z == s) p1 p2 hu (fun j h1 h2 => ?_) ?_
          · have : j = 0 := by simpa using h2
            subst this; exact EqAt.str_str z t0 s ts
          · refine ⟨.bl (eqOne s _), HH, I, ?_, q HH (Ex.refl _)⟩
            cases t with
            | nil =>
              cases r1
              show Value.bool (((z == s) && true) && true) = Value.bool (decide (z = s))
              rw [Bool.and_true, Bool.and_true]
              congr 1
            | cons h1 t =>
              cases r1 with
              | cons _ r1 =>
                show Value.bool (_ && (List.length _ + 1 + 1 == 1)) = Value.bool false
                rw [show ((List.length _ + 1 + 1 : Nat) == 1) = false from by simp, Bool.and_false]
        | non => cases (show _ = Value.none from rv); exact eq_tupleAt (e := fun _ => false) p1 p2 hu (fin0 (EqAt.none_str s ts)) (qf' (by simp) (qf rfl))
        | bl b => cases (show _ = Value.bool b from rv); exact eq_tupleAt (e := fun _ => false) p1 p2 hu (fin0 (EqAt.bool_str b s ts)) (qf' (by simp) (qf rfl))
        | int i => obtain ⟨t0, rfl⟩ := rv; exact eq_tupleAt (e := fun _ => false) p1 p2 hu (fin0 (EqAt.int_str i t0 s ts)) (qf' (by simp) (qf rfl))
        | lst h1 t1 =>
          cases rv
          obtain ⟨its3, r3, p3, _⟩ := I.list (.inl (.inl h1))
          exact eq_tupleAt (e := fun _ => false) p1 p2 hu (fin0 (EqAt.list_str s ts p3.isList hu1)) (qf' (by simp) (qf rfl))
        | tup h1 t1 =>
          cases rv
          obtain ⟨its3, r3, p3, _⟩ := I.tuple h1.t
          exact eq_tupleAt (e := fun _ => false) p1 p2 hu (fin0 (EqAt.tuple_str s ts p3 hu1)) (qf' (by simp) (qf rfl))
        | obj h1 =>
          cases rv
          cases (show _ = C from hk0')
          refine rc_first (ys := []) (x0 := .ref _) (y0 := .str s ts) rfl rfl hu p1 p2 (wpAny_mono (eqb_own D' hr.in1 rfl I h1) (fun r s' hq => ?_) fun _ _ e => e)
          obtain ⟨rfl, H', I', ex⟩ := hq
          exact ⟨rfl, .bl false, H', I', rfl, q H' ex⟩
        | par _ _ => exact hk0'.elim
        | dct _ _ => exact hk0'.elim
        | dcu _ _ => exact hk0'.elim
        | fzl _ _ => exact hk0'.elim
        | exc _ _ => exact hk0'.elim
        | raw _ => exact hk0'.elim
end
section
variable {F : Fm} {X : Cx} {Γ : List Sl} {c : Cells} {P : Cells → Dt → Prop}
/-- d == (s,), d anything that may come here -/
theorem ov_eq1 {k : Nat} {C : Addr} {d : Dt} {s : Str} (D' : EqC X.prog X.w X.K X.mg X.base k C) (hr : Room (k + 1) X.A) (h1 : Kn C d) (h2 : ∀ d0 l, d = .tup (d0 :: l) → Kn C d0) (p : P c (.bl (eqOne s d))) : OpV F X Γ c (compareOp .Eq) d (.tup [.str s]) P :=
  OpV.of (op_eq1 D' hr) fun σ H x y Q S dx dy kk => by
    refine ⟨s, d, dy.mono (mask_ex _ _), dx.mono (mask_ex _ _), h1, h2, fun H' e => ?_⟩
    exact kk _ H' c _ p (S.step e) (Kp.hid (F := F) e) (.bl _)
end
end D
end
section
set_option Elab.async false
set_option linter.all false
set_option maxRecDepth 100000
set_option maxHeartbeats 2000000
namespace D
open PySem L2 PyProof.Rows PyProof
open PySem.W (AlikeAll minD maxD dataLt alike max_list_data readsAll_at reads_keeps)
section
variable {X : Cx}
def rMulS : R2 := fun x y H Q => ∃ s k, x = .str s ∧ y = .int k ∧ s.length ≤ 16 ∧ 0 ≤ k ∧ k ≤ 1000 ∧ Q (.str (Txt.mul s k)) H
theorem op_mulS : OpR X (binaryOp .Mult) rMulS := fun pn sa sg HH x y v u QQ I rx ry ⟨s, k, ex, ey, hs, h0, h1, q⟩ => by
  subst ex ey
  obtain ⟨t, rfl⟩ := rx
  obtain ⟨t2, rfl⟩ := ry
  refine PySem.W.KXi.mul rfl hs (by omega) (by omega) fun t' k' _ _ => ?_
  exact ⟨.str (Txt.mul s k), HH, I.tok _, ⟨_, rfl⟩, q⟩
theorem tuple_mul0 (l : Addr) (n : Nat) (dd : Option Addr) (sl : Array (Option Value)) (x : Int) (u : Tok) (c0 : (decide (x < -(2 ^ 63)) || decide (x ≥ 2 ^ 63)) = false) :
    Meets (Builtin.«tuple.__mul__» ⟨[.ref l, .int x u], []⟩) (fun _ R s => s.heap.get? l = some { cls := .type "tuple", dict := dd, data := .seq #[] n, slots := sl } ∧ R (.ok (.ret (Value.ref l))) s) :=
  .of_wp fun prog w A R s h => by
    obtain ⟨hp, g, d, tk, os⟩ := s
    obtain ⟨hl, h⟩ := h
    have f1 := AutoSeq1.idx_int
    wp_walk using wpAny_loadPart' hl
    repeat (first
      | (refine wpAny_ite_false (decide_eq_false (by rw [c0]; exact Bool.false_ne_true)) ?_; wp_walk using wpAny_loadPart' hl))
    exact ⟨_, rfl, h⟩
def rRep0 (K : PySem.W.Frag) : R2 := fun x y H Q => ∃ l k, x = .ref l ∧ y = .int k ∧ SqT K H l [] ∧ 2 ≤ k ∧ k ≤ 1000 ∧ Q (.ref l) H
theorem op_rep0 : OpR X (binaryOp .Mult) (rRep0 X.K) := fun pn sa sg HH x y v u QQ I rx ry ⟨l, k, ex, ey, hT, k1, k2, q⟩ => by
  subst ex ey
  cases rx
  obtain ⟨t, rfl⟩ := ry
  obtain ⟨its, r, ⟨⟨cls, dd, data, sl⟩, ho, hc, n, hd⟩, _⟩ := I.tuple hT
  simp only at hc hd
  subst hc hd
  cases r
  refine wpAny_binaryOp_repeat_ref (T := "tuple") (U := "int") (by decide) ⟨_, ho, rfl⟩ (fun s' => typeIs_int s' k t) noFill_tuple_mul F.fills_int_mul F.slot_int_rmul repeat_tuple F.slot_int_index.lookup (call_meets F.slot_int_rmul (typeIs_int sa k t) F.entry_int_rmul (F.args_int_rmul_2 _ _) (int_rmul_tuple k t l _ n dd sl)
    ⟨ho, rfl, ⟨_, ho, rfl⟩, call_meets F.slot_tuple_mul ⟨_, ho, rfl⟩ F.entry_tuple_mul (F.args_tuple_mul_2 _ _) (tuple_mul0 l n dd sl k t (by rw [decide_eq_false (by omega), decide_eq_false (by omega)]; rfl)) ⟨ho, ?_⟩⟩)
  exact ⟨.ref l, HH, I, rfl, q⟩
def rMaxD (X : Cx) : List V → Hp → VK → Prop := fun vs H Q => ∃ (a : Addr) (xs : List V) (d : PyData) (ds : List PyData), vs = [.ref a] ∧ SqL X.K H a xs ∧ DpAll X.K H xs (d :: ds) ∧ AlikeAll (d :: ds) ∧ X.A.units + 1 + PyData.depthAll (d :: ds) < cLine ∧ ∀ (i : Nat) (x : V), xs[i]? = some x → (d :: ds)[i]? = some (maxD d ds) → Q x H
theorem cr_maxD (hc : X.calm = true) : CallR X (.builtin "max") (rMaxD X) := by
  intro pins s σ H vs us Q I r h
  obtain ⟨a, xs, d, ds, rfl, hs, hdp, hal, hu, q⟩ := h
  obtain ⟨its, rv, hl, _⟩ := I.list hs
  rw [Vals.ref1 r]
  obtain ⟨as, hra⟩ := Dp.readsAll I _ _ _ hdp rv
  refine max_list_data (I.ok.hd hc) hl.isList hra hal hu fun i v h' tk bs hv hr hk => ?_
  have hv' : its[i]? = some v := by simpa using hv
  obtain ⟨x, hx, rx⟩ := vals_back rv hv'
  obtain ⟨cs, r2, hi, _, _⟩ := readsAll_at hra i v (by simpa using hv)
  have e := reads_one hr (reads_keeps hk r2)
  refine ⟨x, H, I.kept hk, rx, q i x hx ?_⟩
  rw [e, List.getD_eq_getElem?_getD, List.getElem?_eq_getElem hi]
  rfl
end
section
variable {F : Fm} {X : Cx} {Γ : List Sl} {c : Cells} {P : Cells → Dt → Prop} {pos : Pos}
theorem ov_notB {a b : Bool} (p : P c (.bl (!decide (a = b)))) : OpV F X Γ c (compareOp .IsNot) (.bl a) (.bl b) P :=
  OpV.of op_isnot_bl fun σ H x y Q S h1 h2 k => by cases h1; cases h2; exact ⟨a, b, rfl, rfl, k _ H c _ p S (Ex.refl _) (.bl _)⟩
theorem ov_mulS {s : Str} {k : Int} (hs : s.length ≤ 16) (h0 : 0 ≤ k) (h1 : k ≤ 1000) (p : P c (.str (Txt.mul s k))) : OpV F X Γ c (binaryOp .Mult) (.str s) (.int k) P :=
  OpV.of op_mulS fun σ H x y Q S d1 d2 kk => by cases d1; cases d2; exact ⟨s, k, rfl, rfl, hs, h0, h1, kk _ H c _ p S (Ex.refl _) (.str _)⟩
theorem ov_repT' {l : List Dt} {k : Int} (k1 : 2 ≤ k) (k2 : k ≤ 1000) (hz : l.length ≤ 1000) (p : P c (.tup (List.replicate k.toNat l).flatten)) : OpV F X Γ c (binaryOp .Mult) (.tup l) (.int k) P := by
  by_cases hne : l = []
  · subst hne
    have e : (List.replicate k.toNat ([] : List Dt)).flatten = [] := by simp
    rw [e] at p
    exact OpV.of op_rep0 fun σ H x y Q S d1 d2 kk => by
      cases d2
      cases d1 with
      | tup a t =>
        cases t
        exact ⟨_, k, rfl, rfl, (a.mono (mask_ex _ _)).t, k1, k2, kk _ H c _ p S (Ex.refl _) (.tup a .nil)⟩
  · exact ov_repT hne k1 k2 hz p
theorem cv_maxN {x : Nm} {xs : List Nm} (hc : X.calm = true) (hu : X.A.units + 65 < cLine) (p : ∀ y ∈ x :: xs, P c (nD y)) : ClV F X Γ c (.builtin "max") [nL (x :: xs)] P :=
  ClV.of (cr_maxD hc) fun σ H vs Q S dvs k => by
    cases dvs with
    | cons dv t =>
      cases t
      cases dv with
      | lst a t =>
        have hfit := fits_all (n := 64) (l := (x :: xs).map nD) fun d hd => by obtain ⟨y, _, rfl⟩ := List.mem_map.mp hd; exact fit_n y
        refine ⟨_, _, py (nD x), xs.map fun y => py (nD y), rfl, .inl (.inl (of_mask a).2), ?_, ⟨?_, ?_⟩, ?_, fun i v hv hi => ?_⟩
        · have h1 := DVs.dp (t.mono (mask_ex _ _)) hfit.1
          have e : pys (nD x :: xs.map nD) = py (nD x) :: xs.map fun y => py (nD y) := by rw [pys_map, List.map_cons, List.map_map]; rfl
          rw [← e]
          exact h1
        · intro u hu' v hv'
          have key : ∀ u, u ∈ (py (nD x) :: xs.map fun y => py (nD y)) → ∃ y : Nm, u = py (nD y) := fun u hu => by
            rcases List.mem_cons.mp hu with e | hu
            · exact ⟨x, e⟩
            · obtain ⟨y, _, rfl⟩ := List.mem_map.mp hu; exact ⟨y, rfl⟩
          obtain ⟨y, rfl⟩ := key u hu'
          obtain ⟨z, rfl⟩ := key v hv'
          rfl
        · intro u hu'
          rcases List.mem_cons.mp hu' with e | hu'
          · rw [e]; exact nofun
          · obtain ⟨y, _, rfl⟩ := List.mem_map.mp hu'; exact nofun
        · have h2 := hfit.2.2
          have e : pys ((x :: xs).map nD) = py (nD x) :: xs.map fun y => py (nD y) := by rw [pys_map, List.map_cons, List.map_cons, List.map_map]; rfl
          rw [e] at h2
          omega
        · obtain ⟨d, hd, dv⟩ := t.getV hv
          obtain ⟨y, hy, rfl⟩ := List.mem_map.mp (List.mem_of_getElem? hd)
          exact k _ H c _ (p y hy) S (Ex.refl _) dv
end
end D
end
section
set_option Elab.async false
set_option linter.all false
set_option maxRecDepth 100000
namespace W
open PySem L2 D PyProof.Rows
def top (i : Nat) : Stmt := PySem.Challenge.pw_openlines_k02_bodies_known.main.body.getD i (.Pass ⟨0, 0, 0, 0⟩)
abbrev s_is_name : Stmt := top 28
abbrev n_is_name : List Str := ["thing", "sign"]
theorem sc_is_name : FnScope n_is_name ["thing"] (defScope s_is_name) := ⟨rfl, rfl, rfl, by decide +kernel, rfl, by decide +kernel, by decide +kernel⟩
abbrev s_is_row : Stmt := top 30
abbrev n_is_row : List Str := ["call", "thing", "word", "name"]
theorem sc_is_row : FnScope n_is_row ["call", "thing"] (defScope s_is_row) := ⟨rfl, rfl, rfl, by decide +kernel, rfl, by decide +kernel, by decide +kernel⟩
abbrev s_bad_row : Stmt := top 31
abbrev n_bad_row : List Str := ["call", "thing", "wrong", "at", "row"]
theorem sc_bad_row : FnScope n_bad_row ["call", "thing"] (defScope s_bad_row) := ⟨rfl, rfl, rfl, by decide +kernel, rfl, by decide +kernel, by decide +kernel⟩
abbrev s_is_body : Stmt := top 32
abbrev n_is_body : List Str := ["call", "thing"]
theorem sc_is_body : FnScope n_is_body ["call", "thing"] (defScope s_is_body) := ⟨rfl, rfl, rfl, by decide +kernel, rfl, by decide +kernel, by decide +kernel⟩
abbrev s_Registry___init__ : Stmt := inClass (top 68) 1
abbrev n_Registry___init__ : List Str := ["self"]
theorem sc_Registry___init__ : FnScope n_Registry___init__ ["self"] (defScope s_Registry___init__) := ⟨rfl, rfl, rfl, by decide +kernel, rfl, by decide +kernel, by decide +kernel⟩
abbrev s_Registry___eq__ : Stmt := inClass (top 68) 3
abbrev n_Registry___eq__ : List Str := ["self", "other"]
theorem sc_Registry___eq__ : FnScope n_Registry___eq__ ["self", "other"] (defScope s_Registry___eq__) := ⟨rfl, rfl, rfl, by decide +kernel, rfl, by decide +kernel, by decide +kernel⟩
abbrev s__law_bag : Stmt := top 70
abbrev n__law_bag : List Str := ["_law_script", "_law_at", "_law_cell", "_law_digits"]
theorem sc__law_bag : FnScope n__law_bag ["_law_script", "_law_at"] (defScope s__law_bag) := ⟨rfl, rfl, rfl, by decide +kernel, rfl, by decide +kernel, by decide +kernel⟩
abbrev s__law_take : Stmt := top 71
abbrev n__law_take : List Str := ["_law_bag_here", "_law_many", "_law_digit"]
theorem sc__law_take : FnScope n__law_take ["_law_bag_here", "_law_many"] (defScope s__law_take) := ⟨rfl, rfl, rfl, by decide +kernel, rfl, by decide +kernel, by decide +kernel⟩
abbrev s__law_names : Stmt := top 72
abbrev n__law_names : List Str := ["_law_bag_here", "_law_many", "_law_letters", "_law_size", "_law_spot", "_law_first", "_law_base", "_law_own", "_law_k", "_law_one"]
theorem sc__law_names : FnScope n__law_names ["_law_bag_here", "_law_many"] (defScope s__law_names) := ⟨rfl, rfl, rfl, by decide +kernel, rfl, by decide +kernel, by decide +kernel⟩
abbrev s__law_any : Stmt := top 73
abbrev n__law_any : List Str := ["_law_bag_here", "_law_objects", "_law_some", "_law_one"]
theorem sc__law_any : FnScope n__law_any ["_law_bag_here", "_law_objects"] (defScope s__law_any) := ⟨rfl, rfl, rfl, by decide +kernel, rfl, by decide +kernel, by decide +kernel⟩
abbrev s__law_spoilt : Stmt := top 74
abbrev n__law_spoilt : List Str := ["_law_bag_here", "_law_item", "_law_objects", "_law_way", "_law_at"]
theorem sc__law_spoilt : FnScope n__law_spoilt ["_law_bag_here", "_law_item", "_law_objects"] (defScope s__law_spoilt) := ⟨rfl, rfl, rfl, by decide +kernel, rfl, by decide +kernel, by decide +kernel⟩
abbrev s__law_is_name : Stmt := top 75
abbrev n__law_is_name : List Str := ["_law_item", "_law_letters", "_law_sign"]
theorem sc__law_is_name : FnScope n__law_is_name ["_law_item"] (defScope s__law_is_name) := ⟨rfl, rfl, rfl, by decide +kernel, rfl, by decide +kernel, by decide +kernel⟩
abbrev s__law_is_row : Stmt := top 76
abbrev n__law_is_row : List Str := ["_law_name", "_law_item"]
theorem sc__law_is_row : FnScope n__law_is_row ["_law_name", "_law_item"] (defScope s__law_is_row) := ⟨rfl, rfl, rfl, by decide +kernel, rfl, by decide +kernel, by decide +kernel⟩
abbrev s__law_is_body : Stmt := top 77
abbrev n__law_is_body : List Str := ["_law_name", "_law_item", "_law_one"]
theorem sc__law_is_body : FnScope n__law_is_body ["_law_name", "_law_item"] (defScope s__law_is_body) := ⟨rfl, rfl, rfl, by decide +kernel, rfl, by decide +kernel, by decide +kernel⟩
abbrev s_law : Stmt := top 78
abbrev n_law : List Str := ["_law_script", "_law_k", "_law_bag_here", "_law_names_here", "_law_objects", "_law_name", "_law_late", "_law_rows", "_law_some", "_law_things", "_law_turn", "_law_item", "_law_told", "_law_one"]
theorem sc_law : FnScope n_law ["_law_script"] (defScope s_law) := ⟨rfl, rfl, rfl, by decide +kernel, rfl, by decide +kernel, by decide +kernel⟩
end W
end
section
set_option Elab.async false
set_option linter.all false
set_option maxRecDepth 100000
set_option maxHeartbeats 4000000
open PySem L2 D PyProof.Rows
local macro_rules
  | `(tactic| fail "z") => `(tactic| ((try simp only [List.length_map, List.length_cons, List.length_nil, List.length_append, List.length_drop, List.length_take]); have := big_line; omega))
local macro_rules
  | `(tactic| fail) => `(tactic| first
    | ((with_reducible refine (?_ : SE _ _ _ _ _ _)); first | refine se_nm rfl ?_ | refine se_tyTuple (by assumption) ?_ | refine se_tyStr (by assumption) ?_ | refine se_tyInt (by assumption) ?_ | refine se_tyBool (by assumption) ?_ | refine se_int ?_ | refine se_str ?_ | refine se_non ?_ | refine se_bl ?_ | refine se_cmp ?_ | refine se_bin ?_ | refine se_backT ?_ | refine se_ix ?_ | refine se_slice ?_ | refine se_tup ?_ | refine se_lst ?_ | ((with_reducible refine (?_ : SE _ _ _ _ (.Call _ _ _ _) _)); first | refine se_any (by assumption) ?_ | refine se_all (by assumption) ?_ | refine se_len (by assumption) ?_ | refine se_min (by assumption) ?_ | refine se_max (by assumption) ?_ | refine se_sorted (by assumption) ?_ | refine se_isi (by assumption) ?_ | refine se_abs (by assumption) ?_ | refine se_sum (by assumption) ?_ | refine se_tupleC (by assumption) ?_ | refine se_listC (by assumption) ?_) | refine se_M rfl (by assumption) (blkOk_by rfl) ?_ | refine se_F rfl (by assumption) (blkOk_by rfl) ?_ | refine se_Dc rfl (by assumption) (blkOk_by rfl) ?_ | refine se_chain ?_ | refine se_indexN ?_ | refine se_not ?_ | refine se_if ?_ | refine se_one ?_ | refine se_and ?_ | refine se_or ?_ | refine se_neg ?_)
    | ((with_reducible refine (?_ : ST _ _ _ _ _ _)); first | refine st_cmp ?_ | refine st_chain ?_ | refine st_not ?_ | refine st_w (sw_and ?_) | refine st_w (sw_or ?_) | refine st_val ?_)
    | ((with_reducible refine (?_ : SWt _ _ _ _ _ _)); first | refine sw_and ?_ | refine sw_and1 ?_ | refine sw_or ?_ | refine sw_or1 ?_)
    | ((with_reducible refine (?_ : SA _ _ _ _ _ _)); first | refine sa_cons ?_ | refine sa_nil ?_)
    | ((with_reducible refine (?_ : SO _ _ _ _ _ _)); first | refine so_none ?_ | refine so_some ?_)
    | ((with_reducible refine (?_ : SS _ _ _ _ _ _)); first | refine ss_one ?_ | refine ss_cons ?_)
    | ((with_reducible refine (?_ : S1 _ _ _ _ _ _)); first | refine s_ret ?_ | refine s_if ?_ | refine s_M rfl (by assumption) (blkOk_by rfl) ?_ | refine s_F rfl (by assumption) (blkOk_by rfl) ?_ | refine s_Dc rfl (by assumption) (blkOk_by rfl) ?_ | refine s_st (by assumption) ?_ | refine s_aug (by assumption) rfl ?_ | refine s_asg ?_ | refine s_expr ?_)
    | ((with_reducible refine (?_ : SG _ _ _ _ _ _ _)); first | refine sg_nm (by assumption) ?_ | refine sg_par rfl ?_ | refine sg_tup rfl ?_)
    | ((with_reducible refine (?_ : SGs _ _ _ _ _ _ _)); first | refine sgs_cons ?_ | refine sgs_nil ?_)
    | ((with_reducible refine (?_ : SGb _ _ _ _ _ _ _ _)); first | refine sgb_nm (by assumption) ?_ (by first | exact vs_self | exact vs_one | exact vs_two) | refine sgb_par rfl ?_ | refine sgb_tup rfl ?_)
    | ((with_reducible refine (?_ : SGbs _ _ _ _ _ _ _ _)); first | refine sgbs_cons ?_ | refine sgbs_nil ?_)
    | ((with_reducible refine (?_ : SW _ _ _ _ _ _ _)); first | refine sw_vals ?_ | refine sw_zipT (by assumption) ?_ | refine sw_range (by assumption) ?_ | refine sw_seq ?_)
    | ((with_reducible refine (?_ : OpV _ _ _ _ _ _ _ _)); first | refine ov_eqN ?_ | refine ov_neN ?_ | refine ov_inN ?_ | refine ov_ninN ?_ | refine ov_inNT ?_ | refine ov_ninNT ?_ | refine oi_add ?_ | refine oi_catT (by fail "z") ?_ | refine ov_cat (by fail "z") ?_ | refine ov_catT (by fail "z") ?_ | refine ov_add ?_ | refine ov_sub ?_ | refine ov_lt ?_ | refine ov_le ?_ | refine ov_gt ?_ | refine ov_ge ?_ | refine ov_eqI ?_ | refine ov_neI ?_ | refine ov_eqS ?_ | refine ov_neS ?_ | refine ov_eqB ?_ | refine ov_neB ?_)
    | ((with_reducible refine (?_ : IxV _ _ _ _ _ _ _)); first | refine iv_cons ?_ | refine iv_consT ?_)
    | ((with_reducible refine (?_ : SlV _ _ _ _ _ _ _ _)); first | refine sv_fromL (by decide) ?_ | refine sv_fromT (by decide) ?_ | refine sv_toL (by decide) ?_ | refine sv_toT (by decide) ?_)
    | ((with_reducible refine (?_ : ClV _ _ _ _ _ _ _)); first | refine cv_anyM rfl ?_ | refine cv_allM rfl ?_ | refine cv_len rfl ?_ | refine cv_tuple rfl ?_ | refine cv_list rfl ?_ | refine cv_abs ?_ | refine cv_isStr rfl ?_ | refine cv_isTup rfl ?_ | refine cv_isInt rfl ?_ | refine cv_isBool rfl ?_ | refine cv_sum rfl ?_)
    | (with_reducible refine turn0I (fun _ _ _ _ _ _ => ?_)) | (with_reducible refine turn1I (fun _ _ _ _ _ _ => ?_)) | (with_reducible refine turnDI (fun _ _ _ _ _ _ => ?_)) | (with_reducible refine abI (fun _ _ _ _ _ => ?_)) | ((with_reducible show (if _ then _ else _)); first | refine iteT ?_ | refine iteF ?_) | ((with_reducible refine (?_ : And _ _)); refine And.intro (show _ ≤ sizeLine by fail "z") ?_) | ((with_reducible refine (?_ : Exists _)); refine ⟨_, rfl, ?_⟩))
local macro_rules
  | `(tactic| fail "e") => `(tactic| first
    | ((with_reducible refine (?_ : SE _ _ _ _ _ _)); first | refine se_nm rfl ?_ | refine se_tyTuple (by assumption) ?_ | refine se_tyStr (by assumption) ?_ | refine se_tyInt (by assumption) ?_ | refine se_tyBool (by assumption) ?_ | refine se_int ?_ | refine se_str ?_ | refine se_non ?_ | refine se_bl ?_ | refine se_cmp ?_ | refine se_bin ?_ | refine se_backT ?_ | refine se_ix ?_ | refine se_slice ?_ | refine se_tup ?_ | refine se_lst ?_ | ((with_reducible refine (?_ : SE _ _ _ _ (.Call _ _ _ _) _)); first | refine se_any (by assumption) ?_ | refine se_all (by assumption) ?_ | refine se_len (by assumption) ?_ | refine se_min (by assumption) ?_ | refine se_max (by assumption) ?_ | refine se_sorted (by assumption) ?_ | refine se_isi (by assumption) ?_ | refine se_abs (by assumption) ?_ | refine se_sum (by assumption) ?_ | refine se_tupleC (by assumption) ?_ | refine se_listC (by assumption) ?_) | refine se_M rfl (by assumption) (blkOk_by rfl) ?_ | refine se_F rfl (by assumption) (blkOk_by rfl) ?_ | refine se_Dc rfl (by assumption) (blkOk_by rfl) ?_ | refine se_chain ?_ | refine se_indexN ?_ | refine se_not ?_ | refine se_if ?_ | refine se_one ?_ | refine se_and ?_ | refine se_or ?_ | refine se_neg ?_)
    | ((with_reducible refine (?_ : ST _ _ _ _ _ _)); first | refine st_cmp ?_ | refine st_chain ?_ | refine st_not ?_ | refine st_w (sw_and ?_) | refine st_w (sw_or ?_) | refine st_val ?_)
    | ((with_reducible refine (?_ : SWt _ _ _ _ _ _)); first | refine sw_and ?_ | refine sw_and1 ?_ | refine sw_or ?_ | refine sw_or1 ?_)
    | ((with_reducible refine (?_ : SA _ _ _ _ _ _)); first | refine sa_cons ?_ | refine sa_nil ?_)
    | ((with_reducible refine (?_ : SO _ _ _ _ _ _)); first | refine so_none ?_ | refine so_some ?_)
    | ((with_reducible refine (?_ : SG _ _ _ _ _ _ _)); first | refine sg_nm (by assumption) ?_ | refine sg_par rfl ?_ | refine sg_tup rfl ?_)
    | ((with_reducible refine (?_ : SGs _ _ _ _ _ _ _)); first | refine sgs_cons ?_ | refine sgs_nil ?_)
    | ((with_reducible refine (?_ : SGb _ _ _ _ _ _ _ _)); first | refine sgb_nm (by assumption) ?_ (by first | exact vs_self | exact vs_one | exact vs_two) | refine sgb_par rfl ?_ | refine sgb_tup rfl ?_)
    | ((with_reducible refine (?_ : SGbs _ _ _ _ _ _ _ _)); first | refine sgbs_cons ?_ | refine sgbs_nil ?_)
    | ((with_reducible refine (?_ : SW _ _ _ _ _ _ _)); first | refine sw_vals ?_ | refine sw_zipT (by assumption) ?_ | refine sw_range (by assumption) ?_ | refine sw_seq ?_)
    | ((with_reducible refine (?_ : OpV _ _ _ _ _ _ _ _)); first | refine ov_eqN ?_ | refine ov_neN ?_ | refine ov_inN ?_ | refine ov_ninN ?_ | refine ov_inNT ?_ | refine ov_ninNT ?_ | refine oi_add ?_ | refine oi_catT (by fail "z") ?_ | refine ov_cat (by fail "z") ?_ | refine ov_catT (by fail "z") ?_ | refine ov_add ?_ | refine ov_sub ?_ | refine ov_lt ?_ | refine ov_le ?_ | refine ov_gt ?_ | refine ov_ge ?_ | refine ov_eqI ?_ | refine ov_neI ?_ | refine ov_eqS ?_ | refine ov_neS ?_ | refine ov_eqB ?_ | refine ov_neB ?_)
    | ((with_reducible refine (?_ : IxV _ _ _ _ _ _ _)); first | refine iv_cons ?_ | refine iv_consT ?_)
    | ((with_reducible refine (?_ : SlV _ _ _ _ _ _ _ _)); first | refine sv_fromL (by decide) ?_ | refine sv_fromT (by decide) ?_ | refine sv_toL (by decide) ?_ | refine sv_toT (by decide) ?_)
    | ((with_reducible refine (?_ : ClV _ _ _ _ _ _ _)); first | refine cv_anyM rfl ?_ | refine cv_allM rfl ?_ | refine cv_len rfl ?_ | refine cv_tuple rfl ?_ | refine cv_list rfl ?_ | refine cv_abs ?_ | refine cv_isStr rfl ?_ | refine cv_isTup rfl ?_ | refine cv_isInt rfl ?_ | refine cv_isBool rfl ?_ | refine cv_sum rfl ?_)
    | (with_reducible refine turn0I (fun _ _ _ _ _ _ => ?_)) | (with_reducible refine turn1I (fun _ _ _ _ _ _ => ?_)) | (with_reducible refine turnDI (fun _ _ _ _ _ _ => ?_)) | (with_reducible refine abI (fun _ _ _ _ _ => ?_)) | ((with_reducible show (if _ then _ else _)); first | refine iteT ?_ | refine iteF ?_) | ((with_reducible refine (?_ : And _ _)); refine And.intro (show _ ≤ sizeLine by fail "z") ?_) | ((with_reducible refine (?_ : Exists _)); refine ⟨_, rfl, ?_⟩))
namespace W
open PySem L2 D PyProof.Rows
structure Txt (mg : Str → Option Value) : Prop where
  any : mg "any" = none
  all : mg "all" = none
  len : mg "len" = none
  min : mg "min" = none
  max : mg "max" = none
  abs : mg "abs" = none
  isi : mg "isinstance" = none
  tuple : mg "tuple" = none
  list : mg "list" = none
  sorted : mg "sorted" = none
  sum : mg "sum" = none
  str : mg "str" = none
  int : mg "int" = none
  bool : mg "bool" = none
  range : mg "range" = none
  enumerate : mg "enumerate" = none
  zip : mg "zip" = none
end W
end
section
set_option Elab.async false
set_option linter.all false
set_option maxRecDepth 100000
set_option maxHeartbeats 4000000
open PySem L2 D PyProof.Rows
local macro_rules
  | `(tactic| fail "z") => `(tactic| ((try simp only [List.length_map, List.length_cons, List.length_nil, List.length_append, List.length_drop, List.length_take]); have := big_line; omega))
local macro_rules
  | `(tactic| fail) => `(tactic| first
    | ((with_reducible refine (?_ : SE _ _ _ _ _ _)); first | refine se_nm rfl ?_ | refine se_tyTuple (by assumption) ?_ | refine se_tyStr (by assumption) ?_ | refine se_tyInt (by assumption) ?_ | refine se_tyBool (by assumption) ?_ | refine se_int ?_ | refine se_str ?_ | refine se_non ?_ | refine se_bl ?_ | refine se_cmp ?_ | refine se_bin ?_ | refine se_backT ?_ | refine se_ix ?_ | refine se_slice ?_ | refine se_tup ?_ | refine se_lst ?_ | ((with_reducible refine (?_ : SE _ _ _ _ (.Call _ _ _ _) _)); first | refine se_any (by assumption) ?_ | refine se_all (by assumption) ?_ | refine se_len (by assumption) ?_ | refine se_min (by assumption) ?_ | refine se_max (by assumption) ?_ | refine se_sorted (by assumption) ?_ | refine se_isi (by assumption) ?_ | refine se_abs (by assumption) ?_ | refine se_sum (by assumption) ?_ | refine se_tupleC (by assumption) ?_ | refine se_listC (by assumption) ?_) | refine se_M rfl (by assumption) (blkOk_by rfl) ?_ | refine se_F rfl (by assumption) (blkOk_by rfl) ?_ | refine se_Dc rfl (by assumption) (blkOk_by rfl) ?_ | refine se_chain ?_ | refine se_indexN ?_ | refine se_not ?_ | refine se_if ?_ | refine se_one ?_ | refine se_and ?_ | refine se_or ?_ | refine se_neg ?_)
    | ((with_reducible refine (?_ : ST _ _ _ _ _ _)); first | refine st_cmp ?_ | refine st_chain ?_ | refine st_not ?_ | refine st_w (sw_and ?_) | refine st_w (sw_or ?_) | refine st_val ?_)
    | ((with_reducible refine (?_ : SWt _ _ _ _ _ _)); first | refine sw_and ?_ | refine sw_and1 ?_ | refine sw_or ?_ | refine sw_or1 ?_)
    | ((with_reducible refine (?_ : SA _ _ _ _ _ _)); first | refine sa_cons ?_ | refine sa_nil ?_)
    | ((with_reducible refine (?_ : SO _ _ _ _ _ _)); first | refine so_none ?_ | refine so_some ?_)
    | ((with_reducible refine (?_ : SS _ _ _ _ _ _)); first | refine ss_one ?_ | refine ss_cons ?_)
    | ((with_reducible refine (?_ : S1 _ _ _ _ _ _)); first | refine s_ret ?_ | refine s_if ?_ | refine s_M rfl (by assumption) (blkOk_by rfl) ?_ | refine s_F rfl (by assumption) (blkOk_by rfl) ?_ | refine s_Dc rfl (by assumption) (blkOk_by rfl) ?_ | refine s_st (by assumption) ?_ | refine s_aug (by assumption) rfl ?_ | refine s_asg ?_ | refine s_expr ?_)
    | ((with_reducible refine (?_ : SG _ _ _ _ _ _ _)); first | refine sg_nm (by assumption) ?_ | refine sg_par rfl ?_ | refine sg_tup rfl ?_)
    | ((with_reducible refine (?_ : SGs _ _ _ _ _ _ _)); first | refine sgs_cons ?_ | refine sgs_nil ?_)
    | ((with_reducible refine (?_ : SGb _ _ _ _ _ _ _ _)); first | refine sgb_nm (by assumption) ?_ (by first | exact vs_self | exact vs_one | exact vs_two) | refine sgb_par rfl ?_ | refine sgb_tup rfl ?_)
    | ((with_reducible refine (?_ : SGbs _ _ _ _ _ _ _ _)); first | refine sgbs_cons ?_ | refine sgbs_nil ?_)
    | ((with_reducible refine (?_ : SW _ _ _ _ _ _ _)); first | refine sw_vals ?_ | refine sw_zipT (by assumption) ?_ | refine sw_range (by assumption) ?_ | refine sw_seq ?_)
    | ((with_reducible refine (?_ : OpV _ _ _ _ _ _ _ _)); first | refine ov_eqN ?_ | refine ov_neN ?_ | refine ov_inN ?_ | refine ov_ninN ?_ | refine ov_inNT ?_ | refine ov_ninNT ?_ | refine oi_add ?_ | refine oi_catT (by fail "z") ?_ | refine ov_cat (by fail "z") ?_ | refine ov_catT (by fail "z") ?_ | refine ov_add ?_ | refine ov_sub ?_ | refine ov_lt ?_ | refine ov_le ?_ | refine ov_gt ?_ | refine ov_ge ?_ | refine ov_eqI ?_ | refine ov_neI ?_ | refine ov_eqS ?_ | refine ov_neS ?_ | refine ov_eqB ?_ | refine ov_neB ?_)
    | ((with_reducible refine (?_ : IxV _ _ _ _ _ _ _)); first | refine iv_cons ?_ | refine iv_consT ?_)
    | ((with_reducible refine (?_ : SlV _ _ _ _ _ _ _ _)); first | refine sv_fromL (by decide) ?_ | refine sv_fromT (by decide) ?_ | refine sv_toL (by decide) ?_ | refine sv_toT (by decide) ?_)
    | ((with_reducible refine (?_ : ClV _ _ _ _ _ _ _)); first | refine cv_anyM rfl ?_ | refine cv_allM rfl ?_ | refine cv_len rfl ?_ | refine cv_tuple rfl ?_ | refine cv_list rfl ?_ | refine cv_abs ?_ | refine cv_isStr rfl ?_ | refine cv_isTup rfl ?_ | refine cv_isInt rfl ?_ | refine cv_isBool rfl ?_ | refine cv_sum rfl ?_)
    | (with_reducible refine turn0I (fun _ _ _ _ _ _ => ?_)) | (with_reducible refine turn1I (fun _ _ _ _ _ _ => ?_)) | (with_reducible refine turnDI (fun _ _ _ _ _ _ => ?_)) | (with_reducible refine abI (fun _ _ _ _ _ => ?_)) | ((with_reducible show (if _ then _ else _)); first | refine iteT ?_ | refine iteF ?_) | ((with_reducible refine (?_ : And _ _)); refine And.intro (show _ ≤ sizeLine by fail "z") ?_) | ((with_reducible refine (?_ : Exists _)); refine ⟨_, rfl, ?_⟩))
local macro_rules
  | `(tactic| fail "e") => `(tactic| first
    | ((with_reducible refine (?_ : SE _ _ _ _ _ _)); first | refine se_nm rfl ?_ | refine se_tyTuple (by assumption) ?_ | refine se_tyStr (by assumption) ?_ | refine se_tyInt (by assumption) ?_ | refine se_tyBool (by assumption) ?_ | refine se_int ?_ | refine se_str ?_ | refine se_non ?_ | refine se_bl ?_ | refine se_cmp ?_ | refine se_bin ?_ | refine se_backT ?_ | refine se_ix ?_ | refine se_slice ?_ | refine se_tup ?_ | refine se_lst ?_ | ((with_reducible refine (?_ : SE _ _ _ _ (.Call _ _ _ _) _)); first | refine se_any (by assumption) ?_ | refine se_all (by assumption) ?_ | refine se_len (by assumption) ?_ | refine se_min (by assumption) ?_ | refine se_max (by assumption) ?_ | refine se_sorted (by assumption) ?_ | refine se_isi (by assumption) ?_ | refine se_abs (by assumption) ?_ | refine se_sum (by assumption) ?_ | refine se_tupleC (by assumption) ?_ | refine se_listC (by assumption) ?_) | refine se_M rfl (by assumption) (blkOk_by rfl) ?_ | refine se_F rfl (by assumption) (blkOk_by rfl) ?_ | refine se_Dc rfl (by assumption) (blkOk_by rfl) ?_ | refine se_chain ?_ | refine se_indexN ?_ | refine se_not ?_ | refine se_if ?_ | refine se_one ?_ | refine se_and ?_ | refine se_or ?_ | refine se_neg ?_)
    | ((with_reducible refine (?_ : ST _ _ _ _ _ _)); first | refine st_cmp ?_ | refine st_chain ?_ | refine st_not ?_ | refine st_w (sw_and ?_) | refine st_w (sw_or ?_) | refine st_val ?_)
    | ((with_reducible refine (?_ : SWt _ _ _ _ _ _)); first | refine sw_and ?_ | refine sw_and1 ?_ | refine sw_or ?_ | refine sw_or1 ?_)
    | ((with_reducible refine (?_ : SA _ _ _ _ _ _)); first | refine sa_cons ?_ | refine sa_nil ?_)
    | ((with_reducible refine (?_ : SO _ _ _ _ _ _)); first | refine so_none ?_ | refine so_some ?_)
    | ((with_reducible refine (?_ : SG _ _ _ _ _ _ _)); first | refine sg_nm (by assumption) ?_ | refine sg_par rfl ?_ | refine sg_tup rfl ?_)
    | ((with_reducible refine (?_ : SGs _ _ _ _ _ _ _)); first | refine sgs_cons ?_ | refine sgs_nil ?_)
    | ((with_reducible refine (?_ : SGb _ _ _ _ _ _ _ _)); first | refine sgb_nm (by assumption) ?_ (by first | exact vs_self | exact vs_one | exact vs_two) | refine sgb_par rfl ?_ | refine sgb_tup rfl ?_)
    | ((with_reducible refine (?_ : SGbs _ _ _ _ _ _ _ _)); first | refine sgbs_cons ?_ | refine sgbs_nil ?_)
    | ((with_reducible refine (?_ : SW _ _ _ _ _ _ _)); first | refine sw_vals ?_ | refine sw_zipT (by assumption) ?_ | refine sw_range (by assumption) ?_ | refine sw_seq ?_)
    | ((with_reducible refine (?_ : OpV _ _ _ _ _ _ _ _)); first | refine ov_eqN ?_ | refine ov_neN ?_ | refine ov_inN ?_ | refine ov_ninN ?_ | refine ov_inNT ?_ | refine ov_ninNT ?_ | refine oi_add ?_ | refine oi_catT (by fail "z") ?_ | refine ov_cat (by fail "z") ?_ | refine ov_catT (by fail "z") ?_ | refine ov_add ?_ | refine ov_sub ?_ | refine ov_lt ?_ | refine ov_le ?_ | refine ov_gt ?_ | refine ov_ge ?_ | refine ov_eqI ?_ | refine ov_neI ?_ | refine ov_eqS ?_ | refine ov_neS ?_ | refine ov_eqB ?_ | refine ov_neB ?_)
    | ((with_reducible refine (?_ : IxV _ _ _ _ _ _ _)); first | refine iv_cons ?_ | refine iv_consT ?_)
    | ((with_reducible refine (?_ : SlV _ _ _ _ _ _ _ _)); first | refine sv_fromL (by decide) ?_ | refine sv_fromT (by decide) ?_ | refine sv_toL (by decide) ?_ | refine sv_toT (by decide) ?_)
    | ((with_reducible refine (?_ : ClV _ _ _ _ _ _ _)); first | refine cv_anyM rfl ?_ | refine cv_allM rfl ?_ | refine cv_len rfl ?_ | refine cv_tuple rfl ?_ | refine cv_list rfl ?_ | refine cv_abs ?_ | refine cv_isStr rfl ?_ | refine cv_isTup rfl ?_ | refine cv_isInt rfl ?_ | refine cv_isBool rfl ?_ | refine cv_sum rfl ?_)
    | (with_reducible refine turn0I (fun _ _ _ _ _ _ => ?_)) | (with_reducible refine turn1I (fun _ _ _ _ _ _ => ?_)) | (with_reducible refine turnDI (fun _ _ _ _ _ _ => ?_)) | (with_reducible refine abI (fun _ _ _ _ _ => ?_)) | ((with_reducible show (if _ then _ else _)); first | refine iteT ?_ | refine iteF ?_) | ((with_reducible refine (?_ : And _ _)); refine And.intro (show _ ≤ sizeLine by fail "z") ?_) | ((with_reducible refine (?_ : Exists _)); refine ⟨_, rfl, ?_⟩))
namespace W
open PySem L2 D PyProof.Rows
theorem mod_lt {a b : Int} (h : 0 < b) : 0 ≤ a % b ∧ a % b < b := ⟨Int.emod_nonneg a (by omega), Int.emod_lt_of_pos a h⟩
theorem atI_nat' {α : Type} {l : List α} {i : Int} (h0 : 0 ≤ i) (h1 : i < l.length) : ∃ d, atI l i = some d ∧ d ∈ l := by
  unfold atI L2.ixN
  rw [if_pos h0, if_pos h1]
  have hl : i.toNat < l.length := by omega
  exact ⟨l[i.toNat], List.getElem?_eq_getElem hl, List.getElem_mem hl⟩
section
variable {P : Program} {w : World} {K : PySem.W.Frag} {mg : Str → Option Value} {base : Heap}
abbrev sp_bag (K : PySem.W.Frag) : Sp := spG K (fun x : List Int × Int => [.fzl (x.1.map .int), .int x.2]) (fun _ => []) (fun x => 0 ≤ x.2 ∧ x.2 < 1000) (fun _ c' d => ∃ a, c' = [(a, .bag 0)] ∧ d = .raw (.ref a)) fun _ _ _ => False
theorem ok_bag {f : Addr} {fd : FuncData} (Fu : Fun K "_law_bag" "_law_bag" s__law_bag f fd) (T : Txt mg) : FnOk P w K mg base (L2.CX P w) 1 f fd ["_law_script", "_law_at"] (sp_bag K) := by
  refine fn_G Fu sc__law_bag (fun a => rfl) (fun cdv A outer s H E F x hp hr xt => ?_)
  obtain ⟨ns, i⟩ := x
  obtain ⟨h0, h1⟩ := (show 0 ≤ i ∧ i < 1000 from hp)
  have nd := sc__law_bag.nd
  have habs := T.abs
  have hlen := T.len
  have key2 : ∀ n m : Int, 0 ≤ m → SS F (cxOf (L2.CX P w) P w K mg base n__law_bag "_law_bag" (defScope s__law_bag) f cdv A outer s H E) (((startP n__law_bag [.fzl (ns.map .int), .int i]).set 2 (.dat (.int n))).set 3 (.dat (.int m))) [] ((defBody s__law_bag).drop 2)
      { nx := fun _ c' => ∃ a, c' = [(a, .bag 0)] ∧ Dt.non = .raw (.ref a), rt := fun _ c' d => ∃ a, c' = [(a, .bag 0)] ∧ d = .raw (.ref a) } := by
    intro n m hm
    have hn := mod_lt (a := n) (b := 2147483647) (by decide)
    have hb : (n % 2147483647 + 7121 * i + 11).natAbs < 2 ^ 64 := by omega
    have hx := mod_lt (a := (n % 2147483647 + 7121 * i + 11) ^ (3 : Int).toNat) (b := 2147483629) (by decide)
    refine ss_one (s_ret (SE.closeBag (SEL.sc (sel_lst ?_))))
    repeat fail
    refine ov_mod (by decide) ?_
    repeat fail
    refine ov_mul (.inl ⟨by decide, by decide⟩) ?_
    repeat fail
    refine ov_pow ⟨by decide, by decide, hb⟩ ?_
    repeat fail
    refine ov_mod (by decide) ?_
    repeat fail
    intro a
    exact ⟨0, a, m, _, 0, 0, rfl, hm, hx.1, by omega, by decide, by decide, a, rfl, rfl⟩
  have key : ∀ n : Int, SS F (cxOf (L2.CX P w) P w K mg base n__law_bag "_law_bag" (defScope s__law_bag) f cdv A outer s H E) ((startP n__law_bag [.fzl (ns.map .int), .int i]).set 2 (.dat (.int n))) [] ((defBody s__law_bag).drop 1)
      { nx := fun _ c' => ∃ a, c' = [(a, .bag 0)] ∧ Dt.non = .raw (.ref a), rt := fun _ c' d => ∃ a, c' = [(a, .bag 0)] ∧ d = .raw (.ref a) } := by
    intro n
    repeat fail
    refine ov_pow ⟨by decide, by decide, by decide⟩ ?_
    repeat fail
    refine ite2 (fun h => ?_) (fun h => ?_)
    · repeat fail "e"
      exact key2 n _ (by split <;> omega)
    · repeat fail "e"
      exact key2 n 0 (by decide)
  repeat fail
  refine cv_lenF  ?_
  repeat fail "e"
  refine ite2 (fun h => ?_) (fun h => ?_)
  · repeat fail "e"
    have h := of_decide_eq_true h
    obtain ⟨d, hd, hm⟩ := atI_nat' (l := ns.map Dt.int) h0 (by simpa using h)
    obtain ⟨n, _, rfl⟩ := List.mem_map.mp hm
    exact iv_fzl hd (key n)
  · repeat fail "e"
    exact key 0
abbrev sp_take (K : PySem.W.Frag) : Sp := spB K (fun n : Int => [.int n]) (fun n => 0 < n ∧ n < 1000000) (fun _ => 1) (fun n z => ∃ k, z = .int k ∧ 0 ≤ k ∧ k < n)
theorem ok_take {f : Addr} {fd : FuncData} (Fu : Fun K "_law_take" "_law_take" s__law_take f fd) : FnOk P w K mg base (L2.CX P w) 1 f fd ["_law_bag_here", "_law_many"] (sp_take K) := by
  refine fn_B Fu sc__law_take (fun a => rfl) (fun cdv A outer s H E F b c n hp hc hr => ?_)
  obtain ⟨hn0, hn1⟩ := hp
  have nd := sc__law_take.nd
  have hc' : (c : Int) + 1 ≤ 1000000000 := by have : c + 1 ≤ 1000000000 := hc; omega
  refine ss_openBag 0 rfl fun d s' k' h1 h2 h3 h4 h5 => ?_
  repeat fail
  refine iv_lcel 0 rfl rfl ?_
  repeat fail
  refine ite2 (fun h => ?_) (fun h => ?_)
  · have hd : 0 < d := of_decide_eq_true h
    repeat fail
    refine iv_lcel 0 rfl rfl ?_
    repeat fail "e"
    refine ov_mod hn0 ?_
    refine ss_cons (s_lput ?_)
    repeat fail
    refine iv_lcel 0 rfl rfl ?_
    repeat fail "e"
    refine ov_div ⟨hn0, by omega⟩ ?_
    repeat fail "e"
    refine ⟨0, _, _, 0, rfl, rfl, rfl, ?_⟩
    refine ss_one (s_ret (SE.closeBag ?_))
    repeat fail
    refine ⟨0, b, d / n, s', k', c + 1, rfl, Int.ediv_nonneg (by omega) (by omega), h2, h3, h4, by omega, ?_⟩
    exact ⟨⟨_, Nat.le_refl _, rfl⟩, _, rfl, mod_lt hn0⟩
  · refine ss_nil ?_
    refine ss_cons (s_lput ?_)
    repeat fail "e"
    refine iv_lcel 0 rfl rfl ?_
    repeat fail "e"
    refine ⟨0, _, _, 2, rfl, rfl, rfl, ?_⟩
    refine ss_cons (s_lput ?_)
    repeat fail
    refine iv_lcel 0 rfl rfl ?_
    repeat fail
    refine ov_mul (.inr ⟨by decide, by decide⟩) ?_
    repeat fail
    refine iv_lcel 0 rfl rfl ?_
    repeat fail
    refine ov_mul (.inl ⟨by decide, by decide⟩) ?_
    repeat fail
    refine iv_lcel 0 rfl rfl ?_
    repeat fail
    refine ov_mul (.inr ⟨by omega, by omega⟩) ?_
    repeat fail
    refine ov_mod (by decide) ?_
    repeat fail
    refine ⟨0, _, _, 1, rfl, rfl, rfl, ?_⟩
    have hm := mod_lt (a := s' * 48271 + 6607 * (k' + 1) * (k' + 1) + 5) (b := 2147483647) (by decide)
    have hb : ((s' * 48271 + 6607 * (k' + 1) * (k' + 1) + 5) % 2147483647 / 16).natAbs < 2 ^ 64 := by omega
    refine ss_one (s_ret (SE.closeBag ?_))
    repeat fail
    refine iv_lcel 0 rfl rfl ?_
    repeat fail
    refine ov_div ⟨by decide, by decide⟩ ?_
    repeat fail
    refine ov_pow ⟨by decide, by decide, hb⟩ ?_
    repeat fail
    refine ov_mod (by decide) ?_
    repeat fail
    refine ov_mod hn0 ?_
    refine ⟨0, b, d, _, _, c + 1, rfl, h1, hm.1, hm.2, by omega, by omega, ?_⟩
    exact ⟨⟨_, Nat.le_refl _, rfl⟩, _, rfl, mod_lt hn0⟩
end
end W
end
section
set_option Elab.async false
set_option linter.all false
set_option maxRecDepth 100000
set_option maxHeartbeats 4000000
open PySem L2 D PyProof.Rows
local macro_rules
  | `(tactic| fail "z") => `(tactic| ((try simp only [List.length_map, List.length_cons, List.length_nil, List.length_append, List.length_drop, List.length_take]); have := big_line; omega))
local macro_rules
  | `(tactic| fail) => `(tactic| first
    | ((with_reducible refine (?_ : SE _ _ _ _ _ _)); first | refine se_nm rfl ?_ | refine se_tyTuple (by assumption) ?_ | refine se_tyStr (by assumption) ?_ | refine se_tyInt (by assumption) ?_ | refine se_tyBool (by assumption) ?_ | refine se_int ?_ | refine se_str ?_ | refine se_non ?_ | refine se_bl ?_ | refine se_cmp ?_ | refine se_bin ?_ | refine se_backT ?_ | refine se_ix ?_ | refine se_slice ?_ | refine se_tup ?_ | refine se_lst ?_ | ((with_reducible refine (?_ : SE _ _ _ _ (.Call _ _ _ _) _)); first | refine se_any (by assumption) ?_ | refine se_all (by assumption) ?_ | refine se_len (by assumption) ?_ | refine se_min (by assumption) ?_ | refine se_max (by assumption) ?_ | refine se_sorted (by assumption) ?_ | refine se_isi (by assumption) ?_ | refine se_abs (by assumption) ?_ | refine se_sum (by assumption) ?_ | refine se_tupleC (by assumption) ?_ | refine se_listC (by assumption) ?_) | refine se_M rfl (by assumption) (blkOk_by rfl) ?_ | refine se_F rfl (by assumption) (blkOk_by rfl) ?_ | refine se_Dc rfl (by assumption) (blkOk_by rfl) ?_ | refine se_chain ?_ | refine se_indexN ?_ | refine se_not ?_ | refine se_if ?_ | refine se_one ?_ | refine se_and ?_ | refine se_or ?_ | refine se_neg ?_)
    | ((with_reducible refine (?_ : ST _ _ _ _ _ _)); first | refine st_cmp ?_ | refine st_chain ?_ | refine st_not ?_ | refine st_w (sw_and ?_) | refine st_w (sw_or ?_) | refine st_val ?_)
    | ((with_reducible refine (?_ : SWt _ _ _ _ _ _)); first | refine sw_and ?_ | refine sw_and1 ?_ | refine sw_or ?_ | refine sw_or1 ?_)
    | ((with_reducible refine (?_ : SA _ _ _ _ _ _)); first | refine sa_cons ?_ | refine sa_nil ?_)
    | ((with_reducible refine (?_ : SO _ _ _ _ _ _)); first | refine so_none ?_ | refine so_some ?_)
    | ((with_reducible refine (?_ : SS _ _ _ _ _ _)); first | refine ss_one ?_ | refine ss_cons ?_)
    | ((with_reducible refine (?_ : S1 _ _ _ _ _ _)); first | refine s_ret ?_ | refine s_if ?_ | refine s_M rfl (by assumption) (blkOk_by rfl) ?_ | refine s_F rfl (by assumption) (blkOk_by rfl) ?_ | refine s_Dc rfl (by assumption) (blkOk_by rfl) ?_ | refine s_st (by assumption) ?_ | refine s_aug (by assumption) rfl ?_ | refine s_asg ?_ | refine s_expr ?_)
    | ((with_reducible refine (?_ : SG _ _ _ _ _ _ _)); first | refine sg_nm (by assumption) ?_ | refine sg_par rfl ?_ | refine sg_tup rfl ?_)
    | ((with_reducible refine (?_ : SGs _ _ _ _ _ _ _)); first | refine sgs_cons ?_ | refine sgs_nil ?_)
    | ((with_reducible refine (?_ : SGb _ _ _ _ _ _ _ _)); first | refine sgb_nm (by assumption) ?_ (by first | exact vs_self | exact vs_one | exact vs_two) | refine sgb_par rfl ?_ | refine sgb_tup rfl ?_)
    | ((with_reducible refine (?_ : SGbs _ _ _ _ _ _ _ _)); first | refine sgbs_cons ?_ | refine sgbs_nil ?_)
    | ((with_reducible refine (?_ : SW _ _ _ _ _ _ _)); first | refine sw_vals ?_ | refine sw_zipT (by assumption) ?_ | refine sw_range (by assumption) ?_ | refine sw_seq ?_)
    | ((with_reducible refine (?_ : OpV _ _ _ _ _ _ _ _)); first | refine ov_eqN ?_ | refine ov_neN ?_ | refine ov_inN ?_ | refine ov_ninN ?_ | refine ov_inNT ?_ | refine ov_ninNT ?_ | refine oi_add ?_ | refine oi_catT (by fail "z") ?_ | refine ov_cat (by fail "z") ?_ | refine ov_catT (by fail "z") ?_ | refine ov_add ?_ | refine ov_sub ?_ | refine ov_lt ?_ | refine ov_le ?_ | refine ov_gt ?_ | refine ov_ge ?_ | refine ov_eqI ?_ | refine ov_neI ?_ | refine ov_eqS ?_ | refine ov_neS ?_ | refine ov_eqB ?_ | refine ov_neB ?_)
    | ((with_reducible refine (?_ : IxV _ _ _ _ _ _ _)); first | refine iv_cons ?_ | refine iv_consT ?_)
    | ((with_reducible refine (?_ : SlV _ _ _ _ _ _ _ _)); first | refine sv_fromL (by decide) ?_ | refine sv_fromT (by decide) ?_ | refine sv_toL (by decide) ?_ | refine sv_toT (by decide) ?_)
    | ((with_reducible refine (?_ : ClV _ _ _ _ _ _ _)); first | refine cv_anyM rfl ?_ | refine cv_allM rfl ?_ | refine cv_len rfl ?_ | refine cv_tuple rfl ?_ | refine cv_list rfl ?_ | refine cv_abs ?_ | refine cv_isStr rfl ?_ | refine cv_isTup rfl ?_ | refine cv_isInt rfl ?_ | refine cv_isBool rfl ?_ | refine cv_sum rfl ?_)
    | (with_reducible refine turn0I (fun _ _ _ _ _ _ => ?_)) | (with_reducible refine turn1I (fun _ _ _ _ _ _ => ?_)) | (with_reducible refine turnDI (fun _ _ _ _ _ _ => ?_)) | (with_reducible refine abI (fun _ _ _ _ _ => ?_)) | ((with_reducible show (if _ then _ else _)); first | refine iteT ?_ | refine iteF ?_) | ((with_reducible refine (?_ : And _ _)); refine And.intro (show _ ≤ sizeLine by fail "z") ?_) | ((with_reducible refine (?_ : Exists _)); refine ⟨_, rfl, ?_⟩))
local macro_rules
  | `(tactic| fail "e") => `(tactic| first
    | ((with_reducible refine (?_ : SE _ _ _ _ _ _)); first | refine se_nm rfl ?_ | refine se_tyTuple (by assumption) ?_ | refine se_tyStr (by assumption) ?_ | refine se_tyInt (by assumption) ?_ | refine se_tyBool (by assumption) ?_ | refine se_int ?_ | refine se_str ?_ | refine se_non ?_ | refine se_bl ?_ | refine se_cmp ?_ | refine se_bin ?_ | refine se_backT ?_ | refine se_ix ?_ | refine se_slice ?_ | refine se_tup ?_ | refine se_lst ?_ | ((with_reducible refine (?_ : SE _ _ _ _ (.Call _ _ _ _) _)); first | refine se_any (by assumption) ?_ | refine se_all (by assumption) ?_ | refine se_len (by assumption) ?_ | refine se_min (by assumption) ?_ | refine se_max (by assumption) ?_ | refine se_sorted (by assumption) ?_ | refine se_isi (by assumption) ?_ | refine se_abs (by assumption) ?_ | refine se_sum (by assumption) ?_ | refine se_tupleC (by assumption) ?_ | refine se_listC (by assumption) ?_) | refine se_M rfl (by assumption) (blkOk_by rfl) ?_ | refine se_F rfl (by assumption) (blkOk_by rfl) ?_ | refine se_Dc rfl (by assumption) (blkOk_by rfl) ?_ | refine se_chain ?_ | refine se_indexN ?_ | refine se_not ?_ | refine se_if ?_ | refine se_one ?_ | refine se_and ?_ | refine se_or ?_ | refine se_neg ?_)
    | ((with_reducible refine (?_ : ST _ _ _ _ _ _)); first | refine st_cmp ?_ | refine st_chain ?_ | refine st_not ?_ | refine st_w (sw_and ?_) | refine st_w (sw_or ?_) | refine st_val ?_)
    | ((with_reducible refine (?_ : SWt _ _ _ _ _ _)); first | refine sw_and ?_ | refine sw_and1 ?_ | refine sw_or ?_ | refine sw_or1 ?_)
    | ((with_reducible refine (?_ : SA _ _ _ _ _ _)); first | refine sa_cons ?_ | refine sa_nil ?_)
    | ((with_reducible refine (?_ : SO _ _ _ _ _ _)); first | refine so_none ?_ | refine so_some ?_)
    | ((with_reducible refine (?_ : SG _ _ _ _ _ _ _)); first | refine sg_nm (by assumption) ?_ | refine sg_par rfl ?_ | refine sg_tup rfl ?_)
    | ((with_reducible refine (?_ : SGs _ _ _ _ _ _ _)); first | refine sgs_cons ?_ | refine sgs_nil ?_)
    | ((with_reducible refine (?_ : SGb _ _ _ _ _ _ _ _)); first | refine sgb_nm (by assumption) ?_ (by first | exact vs_self | exact vs_one | exact vs_two) | refine sgb_par rfl ?_ | refine sgb_tup rfl ?_)
    | ((with_reducible refine (?_ : SGbs _ _ _ _ _ _ _ _)); first | refine sgbs_cons ?_ | refine sgbs_nil ?_)
    | ((with_reducible refine (?_ : SW _ _ _ _ _ _ _)); first | refine sw_vals ?_ | refine sw_zipT (by assumption) ?_ | refine sw_range (by assumption) ?_ | refine sw_seq ?_)
    | ((with_reducible refine (?_ : OpV _ _ _ _ _ _ _ _)); first | refine ov_eqN ?_ | refine ov_neN ?_ | refine ov_inN ?_ | refine ov_ninN ?_ | refine ov_inNT ?_ | refine ov_ninNT ?_ | refine oi_add ?_ | refine oi_catT (by fail "z") ?_ | refine ov_cat (by fail "z") ?_ | refine ov_catT (by fail "z") ?_ | refine ov_add ?_ | refine ov_sub ?_ | refine ov_lt ?_ | refine ov_le ?_ | refine ov_gt ?_ | refine ov_ge ?_ | refine ov_eqI ?_ | refine ov_neI ?_ | refine ov_eqS ?_ | refine ov_neS ?_ | refine ov_eqB ?_ | refine ov_neB ?_)
    | ((with_reducible refine (?_ : IxV _ _ _ _ _ _ _)); first | refine iv_cons ?_ | refine iv_consT ?_)
    | ((with_reducible refine (?_ : SlV _ _ _ _ _ _ _ _)); first | refine sv_fromL (by decide) ?_ | refine sv_fromT (by decide) ?_ | refine sv_toL (by decide) ?_ | refine sv_toT (by decide) ?_)
    | ((with_reducible refine (?_ : ClV _ _ _ _ _ _ _)); first | refine cv_anyM rfl ?_ | refine cv_allM rfl ?_ | refine cv_len rfl ?_ | refine cv_tuple rfl ?_ | refine cv_list rfl ?_ | refine cv_abs ?_ | refine cv_isStr rfl ?_ | refine cv_isTup rfl ?_ | refine cv_isInt rfl ?_ | refine cv_isBool rfl ?_ | refine cv_sum rfl ?_)
    | (with_reducible refine turn0I (fun _ _ _ _ _ _ => ?_)) | (with_reducible refine turn1I (fun _ _ _ _ _ _ => ?_)) | (with_reducible refine turnDI (fun _ _ _ _ _ _ => ?_)) | (with_reducible refine abI (fun _ _ _ _ _ => ?_)) | ((with_reducible show (if _ then _ else _)); first | refine iteT ?_ | refine iteF ?_) | ((with_reducible refine (?_ : And _ _)); refine And.intro (show _ ≤ sizeLine by fail "z") ?_) | ((with_reducible refine (?_ : Exists _)); refine ⟨_, rfl, ?_⟩))
namespace W
open PySem L2 D PyProof.Rows
def lett (s : Str) : Prop := s.length = 1 ∧ ∀ a ∈ s.cps.toList, a ∈ abc.cps.toList
theorem pick_abc {k : Int} (h0 : 0 ≤ k) (h1 : k < 26) : ∃ a, atI abc.cps.toList k = some a ∧ a ∈ abc.cps.toList := atI_nat' h0 (by rw [show abc.cps.toList.length = 26 from by decide +kernel]; omega)
theorem lett_sign {a : Nat} (h : a ∈ abc.cps.toList) : lett ⟨#[a]⟩ := ⟨rfl, fun b hb => by simp at hb; subst hb; exact h⟩
/-- the sign at a place of the letters -/
def abcAt (k : Int) : Nat := (atI abc.cps.toList k).getD 97
theorem abcAt_eq {k : Int} (h0 : 0 ≤ k) (h1 : k < 26) : atI abc.cps.toList k = some (abcAt k) := by
  obtain ⟨a, ha, _⟩ := pick_abc h0 h1
  unfold abcAt; rw [ha]; rfl
theorem abcAt_inj {k m : Int} (h0 : 0 ≤ k) (h1 : k < 26) (g0 : 0 ≤ m) (g1 : m < 26) (h : abcAt k = abcAt m) : k = m := by
  have key : ∀ k : Nat, k < 26 → abcAt (k : Int) = 97 + k := by decide +kernel
  have h2 := key k.toNat (by omega)
  have h3 := key m.toNat (by omega)
  rw [Int.toNat_of_nonneg h0] at h2
  rw [Int.toNat_of_nonneg g0] at h3
  omega
theorem seven {f : Int} {i j : Nat} (hi : i < 20) (hj : j < 20) (h : (f + 7 * (i : Int)) % 26 = (f + 7 * (j : Int)) % 26) : i = j := by omega
def wordN (sp : Int) (bs : Str) (a : Nat) : Str := if sp = 0 then bs ++ ⟨#[a]⟩ else ⟨#[a]⟩ ++ bs
theorem word_name {sp : Int} {bs : Str} {a : Nat} (hl : bs.length ≤ 7) (hb : ∀ x ∈ tl bs, x ∈ tl abc) (ha : a ∈ abc.cps.toList) : nameC (wordN sp bs a) = true := by
  have hx := lett_sign ha
  rw [nameC_iff]
  unfold wordN
  split
  · rw [len_app]
    refine ⟨by have := hx.1; omega, by have := hx.1; omega, fun z hz => ?_⟩
    have hz : z ∈ tl (bs ++ ⟨#[a]⟩) := hz
    rw [tl_app] at hz
    rcases List.mem_append.mp hz with q | q
    · exact hb z q
    · exact hx.2 z q
  · rw [len_app]
    refine ⟨by have := hx.1; omega, by have := hx.1; omega, fun z hz => ?_⟩
    have hz : z ∈ tl (⟨#[a]⟩ ++ bs) := hz
    rw [tl_app] at hz
    rcases List.mem_append.mp hz with q | q
    · exact hx.2 z q
    · exact hb z q
theorem word_inj {sp : Int} {bs : Str} {a b : Nat} (h : wordN sp bs a = wordN sp bs b) : a = b := by
  unfold wordN at h
  split at h
  · have := congrArg tl h
    rw [tl_app, tl_app] at this
    have := List.append_cancel_left this
    simpa [tl] using this
  · have := congrArg tl h
    rw [tl_app, tl_app] at this
    have := List.append_cancel_right this
    simpa [tl] using this
section
variable {P : Program} {w : World} {K : PySem.W.Frag} {mg : Str → Option Value} {base : Heap}
abbrev D_take (P : Program) (w : World) (K : PySem.W.Frag) (mg : Str → Option Value) (base : Heap) : Prop := DefOk P w K mg base 1 "_law_take" ["_law_bag_here", "_law_many"] (sp_take K)
abbrev sp_names (K : PySem.W.Frag) : Sp := spB K (fun n : Int => [.int n]) (fun n => 0 ≤ n ∧ n ≤ 20) (fun _ => 10) (fun n z => ∃ l : List Nm, z = nL l ∧ (l.length : Int) = n ∧ l.Nodup)
theorem ok_names {f : Addr} {fd : FuncData} (Fu : Fun K "_law_names" "_law_names" s__law_names f fd) (T : Txt mg) (Dt' : D_take P w K mg base) : FnOk P w K mg base (L2.CX P w) 2 f fd ["_law_bag_here", "_law_many"] (sp_names K) := by
  refine fn_B Fu sc__law_names (fun a => rfl) (fun cdv A outer s H E F b c n hp hc hr => ?_)
  obtain ⟨hn0, hn1⟩ := hp
  have hl : c + 10 ≤ LIM := hc
  have nd := sc__law_names.nd
  have hrg := T.range
  repeat fail
  refine se_fB 0 Dt' hr ?_
  repeat fail
  refine ⟨b, c, 5, rfl, rfl, ⟨by decide, by decide⟩, by show c + 1 ≤ LIM; omega, ?_⟩
  rintro _ ⟨k, rfl, hk0, hk1⟩
  obtain ⟨m, hm, hm0, hm1⟩ : ∃ m : Int, atI [Dt.int 0, .int 0, .int 1, .int 3, .int 7] k = some (.int m) ∧ 0 ≤ m ∧ m ≤ 7 := by
    have hk : k = 0 ∨ k = 1 ∨ k = 2 ∨ k = 3 ∨ k = 4 := by omega
    rcases hk with rfl | rfl | rfl | rfl | rfl
    · exact ⟨0, rfl, by decide, by decide⟩
    · exact ⟨0, rfl, by decide, by decide⟩
    · exact ⟨1, rfl, by decide, by decide⟩
    · exact ⟨3, rfl, by decide, by decide⟩
    · exact ⟨7, rfl, by decide, by decide⟩
  refine iv_tup hm ?_
  repeat fail
  refine se_fB 0 Dt' hr ?_
  repeat fail
  refine ⟨b, c + 1, 2, rfl, rfl, ⟨by decide, by decide⟩, by show c + 1 + 1 ≤ LIM; omega, ?_⟩
  rintro _ ⟨sp, rfl, hs0, hs1⟩
  repeat fail
  refine se_fB 0 Dt' hr ?_
  repeat fail
  refine ⟨b, c + 1 + 1, 26, rfl, rfl, ⟨by decide, by decide⟩, by show c + 1 + 1 + 1 ≤ LIM; omega, ?_⟩
  rintro _ ⟨fi, rfl, hf0, hf1⟩
  repeat fail
  refine se_join (se_str ⟨_, rfl, se_J rfl nd (blkOk_by rfl) (sw_range hrg ?_)⟩)
  repeat fail "e"
  refine ⟨by omega, by omega, ?_⟩
  rw [idxs_eq]
  refine lcJ Dt.str (fun i c' acc => ∃ n', c' = [(b, .bag n')] ∧ n' ≤ c + 3 + i ∧ acc.length = i ∧ ∀ x ∈ acc, lett x) ?_ ⟨_, rfl, by omega, rfl, fun _ h => nomatch h⟩ ?_ ?_
  · rw [List.length_range]; have := big_line; omega
  · rintro i r c' acc hi ⟨n', rfl, hn', hl', hx⟩
    have hi7 : i < 7 := by
      have := (List.getElem?_eq_some_iff.mp hi).1
      rw [List.length_range] at this; omega
    repeat fail "e"
    refine se_fB 0 Dt' hr ?_
    repeat fail "e"
    refine ⟨b, n', 26, rfl, rfl, ⟨by decide, by decide⟩, by show n' + 1 ≤ LIM; omega, ?_⟩
    rintro _ ⟨k', rfl, hk0', hk1'⟩
    obtain ⟨a, ha, ham⟩ := pick_abc hk0' hk1'
    refine iv_str (by decide +kernel) ha ⟨⟨#[a]⟩, rfl, _, rfl, by omega, by rw [List.length_append, hl']; rfl, fun x hx' => ?_⟩
    rcases List.mem_append.mp hx' with h | h
    · exact hx x h
    · rw [List.mem_singleton.mp h]; exact lett_sign ham
  rintro c' l ⟨n', rfl, hn', hl', hx⟩
  rw [List.length_range] at hn' hl'
  have hjl : tl (Txt.join "" l) = (l.map tl).flatten := tl_join0 rfl l
  have hbl : (Txt.join "" l).length ≤ 7 := by
    rw [len_tl, hjl, List.length_flatten, List.map_map]
    have : (l.map (List.length ∘ tl)).sum ≤ l.length := by
      clear hl' hjl
      induction l with
      | nil => exact Nat.le_refl _
      | cons x l ih =>
        have h1 := (hx x (List.mem_cons_self ..)).1
        have h2 := ih fun y hy => hx y (List.mem_cons_of_mem _ hy)
        rw [len_tl] at h1
        rw [List.map_cons, List.sum_cons, List.length_cons]
        show (tl x).length + _ ≤ _
        omega
    omega
  have hbm : ∀ a ∈ tl (Txt.join "" l), a ∈ tl abc := fun a ha => by
    rw [hjl] at ha
    obtain ⟨p, hp, ha⟩ := List.mem_flatten.mp ha
    obtain ⟨x, hx', rfl⟩ := List.mem_map.mp hp
    exact (hx x hx').2 a ha
  refine ⟨l, rfl, ?_, ?_⟩
  · have : (l.map (·.length)).sum ≤ 7 := by
      have e : (l.map (·.length)) = l.map (List.length ∘ tl) := List.map_congr_left fun x _ => len_tl x
      rw [len_tl, hjl, List.length_flatten, List.map_map] at hbl
      rw [e]; exact hbl
    show _ + l.length * 0 ≤ _
    omega
  generalize Txt.join "" l = bs at hbl hbm
  repeat fail
  refine ⟨by omega, by omega, ?_⟩
  rw [idxs_eq]
  refine lcM (fun k => .str ⟨#[abcAt ((fi + 7 * (k : Int)) % 26)]⟩) (by rw [List.length_range]; have := big_line; omega) ?_ ?_
  · intro k hk
    have hmod := mod_lt (a := fi + 7 * (k : Int)) (b := 26) (by decide)
    repeat fail "e"
    refine ov_mul (.inl ⟨by decide, by decide⟩) ?_
    repeat fail "e"
    refine ov_mod (by decide) ?_
    exact iv_str (by decide +kernel) (abcAt_eq hmod.1 hmod.2) ⟨rfl, rfl⟩
  repeat fail
  refine lcM (fun k => .str (wordN sp bs (abcAt ((fi + 7 * (k : Int)) % 26)))) (by rw [List.length_range]; have := big_line; omega) ?_ ?_
  · intro k hk
    have hz : bs.length + 1 ≤ sizeLine := by have := big_line; omega
    repeat fail "e"
    refine ite2 (fun h => ?_) (fun h => ?_)
    · repeat fail "e"
      refine ov_addS hz ⟨rfl, ?_⟩
      unfold wordN; rw [if_pos (of_decide_eq_true h)]
    · repeat fail "e"
      refine ov_addS (by rw [Nat.add_comm]; exact hz) ⟨rfl, ?_⟩
      unfold wordN; rw [if_neg fun z => h (decide_eq_true z)]
  have hok : ∀ k : Nat, nameC (wordN sp bs (abcAt ((fi + 7 * (k : Int)) % 26))) = true := fun k => by
    have hmod := mod_lt (a := fi + 7 * (k : Int)) (b := 26) (by decide)
    obtain ⟨a, ha, ham⟩ := pick_abc hmod.1 hmod.2
    have := abcAt_eq hmod.1 hmod.2
    rw [ha] at this
    rw [← Option.some.inj this]
    exact word_name hbl hbm ham
  refine ⟨⟨_, by omega, rfl⟩, (List.range n.toNat).map fun k => ⟨_, hok k⟩, ?_, ?_, ?_⟩
  · rw [nL, List.map_map]; rfl
  · rw [List.length_map, List.length_range]; omega
  · rw [List.Nodup, List.pairwise_map]
    refine List.Pairwise.imp_of_mem ?_ List.nodup_range
    intro i j hi hj hne e
    have e := congrArg Subtype.val e
    have e : wordN sp bs (abcAt ((fi + 7 * (i : Int)) % 26)) = wordN sp bs (abcAt ((fi + 7 * (j : Int)) % 26)) := e
    have h1 := mod_lt (a := fi + 7 * (i : Int)) (b := 26) (by decide)
    have h2 := mod_lt (a := fi + 7 * (j : Int)) (b := 26) (by decide)
    have hi := List.mem_range.mp hi
    have hj := List.mem_range.mp hj
    exact hne (seven (by omega) (by omega) (abcAt_inj h1.1 h1.2 h2.1 h2.2 (word_inj e)))
end
end W
end
section
set_option Elab.async false
set_option linter.all false
set_option maxRecDepth 100000
set_option maxHeartbeats 4000000
open PySem L2 D PyProof.Rows
local macro_rules
  | `(tactic| fail "z") => `(tactic| ((try simp only [List.length_map, List.length_cons, List.length_nil, List.length_append, List.length_drop, List.length_take]); have := big_line; omega))
local macro_rules
  | `(tactic| fail) => `(tactic| first
    | ((with_reducible refine (?_ : SE _ _ _ _ _ _)); first | refine se_nm rfl ?_ | refine se_tyTuple (by assumption) ?_ | refine se_tyStr (by assumption) ?_ | refine se_tyInt (by assumption) ?_ | refine se_tyBool (by assumption) ?_ | refine se_int ?_ | refine se_str ?_ | refine se_non ?_ | refine se_bl ?_ | refine se_cmp ?_ | refine se_bin ?_ | refine se_backT ?_ | refine se_ix ?_ | refine se_slice ?_ | refine se_tup ?_ | refine se_lst ?_ | ((with_reducible refine (?_ : SE _ _ _ _ (.Call _ _ _ _) _)); first | refine se_any (by assumption) ?_ | refine se_all (by assumption) ?_ | refine se_len (by assumption) ?_ | refine se_min (by assumption) ?_ | refine se_max (by assumption) ?_ | refine se_sorted (by assumption) ?_ | refine se_isi (by assumption) ?_ | refine se_abs (by assumption) ?_ | refine se_sum (by assumption) ?_ | refine se_tupleC (by assumption) ?_ | refine se_listC (by assumption) ?_) | refine se_M rfl (by assumption) (blkOk_by rfl) ?_ | refine se_F rfl (by assumption) (blkOk_by rfl) ?_ | refine se_Dc rfl (by assumption) (blkOk_by rfl) ?_ | refine se_chain ?_ | refine se_indexN ?_ | refine se_not ?_ | refine se_if ?_ | refine se_one ?_ | refine se_and ?_ | refine se_or ?_ | refine se_neg ?_)
    | ((with_reducible refine (?_ : ST _ _ _ _ _ _)); first | refine st_cmp ?_ | refine st_chain ?_ | refine st_not ?_ | refine st_w (sw_and ?_) | refine st_w (sw_or ?_) | refine st_val ?_)
    | ((with_reducible refine (?_ : SWt _ _ _ _ _ _)); first | refine sw_and ?_ | refine sw_and1 ?_ | refine sw_or ?_ | refine sw_or1 ?_)
    | ((with_reducible refine (?_ : SA _ _ _ _ _ _)); first | refine sa_cons ?_ | refine sa_nil ?_)
    | ((with_reducible refine (?_ : SO _ _ _ _ _ _)); first | refine so_none ?_ | refine so_some ?_)
    | ((with_reducible refine (?_ : SS _ _ _ _ _ _)); first | refine ss_one ?_ | refine ss_cons ?_)
    | ((with_reducible refine (?_ : S1 _ _ _ _ _ _)); first | refine s_ret ?_ | refine s_if ?_ | refine s_M rfl (by assumption) (blkOk_by rfl) ?_ | refine s_F rfl (by assumption) (blkOk_by rfl) ?_ | refine s_Dc rfl (by assumption) (blkOk_by rfl) ?_ | refine s_st (by assumption) ?_ | refine s_aug (by assumption) rfl ?_ | refine s_asg ?_ | refine s_expr ?_)
    | ((with_reducible refine (?_ : SG _ _ _ _ _ _ _)); first | refine sg_nm (by assumption) ?_ | refine sg_par rfl ?_ | refine sg_tup rfl ?_)
    | ((with_reducible refine (?_ : SGs _ _ _ _ _ _ _)); first | refine sgs_cons ?_ | refine sgs_nil ?_)
    | ((with_reducible refine (?_ : SGb _ _ _ _ _ _ _ _)); first | refine sgb_nm (by assumption) ?_ (by first | exact vs_self | exact vs_one | exact vs_two) | refine sgb_par rfl ?_ | refine sgb_tup rfl ?_)
    | ((with_reducible refine (?_ : SGbs _ _ _ _ _ _ _ _)); first | refine sgbs_cons ?_ | refine sgbs_nil ?_)
    | ((with_reducible refine (?_ : SW _ _ _ _ _ _ _)); first | refine sw_vals ?_ | refine sw_zipT (by assumption) ?_ | refine sw_range (by assumption) ?_ | refine sw_seq ?_)
    | ((with_reducible refine (?_ : OpV _ _ _ _ _ _ _ _)); first | refine ov_eqN ?_ | refine ov_neN ?_ | refine ov_inN ?_ | refine ov_ninN ?_ | refine ov_inNT ?_ | refine ov_ninNT ?_ | refine oi_add ?_ | refine oi_catT (by fail "z") ?_ | refine ov_cat (by fail "z") ?_ | refine ov_catT (by fail "z") ?_ | refine ov_add ?_ | refine ov_sub ?_ | refine ov_lt ?_ | refine ov_le ?_ | refine ov_gt ?_ | refine ov_ge ?_ | refine ov_eqI ?_ | refine ov_neI ?_ | refine ov_eqS ?_ | refine ov_neS ?_ | refine ov_eqB ?_ | refine ov_neB ?_)
    | ((with_reducible refine (?_ : IxV _ _ _ _ _ _ _)); first | refine iv_cons ?_ | refine iv_consT ?_)
    | ((with_reducible refine (?_ : SlV _ _ _ _ _ _ _ _)); first | refine sv_fromL (by decide) ?_ | refine sv_fromT (by decide) ?_ | refine sv_toL (by decide) ?_ | refine sv_toT (by decide) ?_)
    | ((with_reducible refine (?_ : ClV _ _ _ _ _ _ _)); first | refine cv_anyM rfl ?_ | refine cv_allM rfl ?_ | refine cv_len rfl ?_ | refine cv_tuple rfl ?_ | refine cv_list rfl ?_ | refine cv_abs ?_ | refine cv_isStr rfl ?_ | refine cv_isTup rfl ?_ | refine cv_isInt rfl ?_ | refine cv_isBool rfl ?_ | refine cv_sum rfl ?_)
    | (with_reducible refine turn0I (fun _ _ _ _ _ _ => ?_)) | (with_reducible refine turn1I (fun _ _ _ _ _ _ => ?_)) | (with_reducible refine turnDI (fun _ _ _ _ _ _ => ?_)) | (with_reducible refine abI (fun _ _ _ _ _ => ?_)) | ((with_reducible show (if _ then _ else _)); first | refine iteT ?_ | refine iteF ?_) | ((with_reducible refine (?_ : And _ _)); refine And.intro (show _ ≤ sizeLine by fail "z") ?_) | ((with_reducible refine (?_ : Exists _)); refine ⟨_, rfl, ?_⟩))
local macro_rules
  | `(tactic| fail "e") => `(tactic| first
    | ((with_reducible refine (?_ : SE _ _ _ _ _ _)); first | refine se_nm rfl ?_ | refine se_tyTuple (by assumption) ?_ | refine se_tyStr (by assumption) ?_ | refine se_tyInt (by assumption) ?_ | refine se_tyBool (by assumption) ?_ | refine se_int ?_ | refine se_str ?_ | refine se_non ?_ | refine se_bl ?_ | refine se_cmp ?_ | refine se_bin ?_ | refine se_backT ?_ | refine se_ix ?_ | refine se_slice ?_ | refine se_tup ?_ | refine se_lst ?_ | ((with_reducible refine (?_ : SE _ _ _ _ (.Call _ _ _ _) _)); first | refine se_any (by assumption) ?_ | refine se_all (by assumption) ?_ | refine se_len (by assumption) ?_ | refine se_min (by assumption) ?_ | refine se_max (by assumption) ?_ | refine se_sorted (by assumption) ?_ | refine se_isi (by assumption) ?_ | refine se_abs (by assumption) ?_ | refine se_sum (by assumption) ?_ | refine se_tupleC (by assumption) ?_ | refine se_listC (by assumption) ?_) | refine se_M rfl (by assumption) (blkOk_by rfl) ?_ | refine se_F rfl (by assumption) (blkOk_by rfl) ?_ | refine se_Dc rfl (by assumption) (blkOk_by rfl) ?_ | refine se_chain ?_ | refine se_indexN ?_ | refine se_not ?_ | refine se_if ?_ | refine se_one ?_ | refine se_and ?_ | refine se_or ?_ | refine se_neg ?_)
    | ((with_reducible refine (?_ : ST _ _ _ _ _ _)); first | refine st_cmp ?_ | refine st_chain ?_ | refine st_not ?_ | refine st_w (sw_and ?_) | refine st_w (sw_or ?_) | refine st_val ?_)
    | ((with_reducible refine (?_ : SWt _ _ _ _ _ _)); first | refine sw_and ?_ | refine sw_and1 ?_ | refine sw_or ?_ | refine sw_or1 ?_)
    | ((with_reducible refine (?_ : SA _ _ _ _ _ _)); first | refine sa_cons ?_ | refine sa_nil ?_)
    | ((with_reducible refine (?_ : SO _ _ _ _ _ _)); first | refine so_none ?_ | refine so_some ?_)
    | ((with_reducible refine (?_ : SG _ _ _ _ _ _ _)); first | refine sg_nm (by assumption) ?_ | refine sg_par rfl ?_ | refine sg_tup rfl ?_)
    | ((with_reducible refine (?_ : SGs _ _ _ _ _ _ _)); first | refine sgs_cons ?_ | refine sgs_nil ?_)
    | ((with_reducible refine (?_ : SGb _ _ _ _ _ _ _ _)); first | refine sgb_nm (by assumption) ?_ (by first | exact vs_self | exact vs_one | exact vs_two) | refine sgb_par rfl ?_ | refine sgb_tup rfl ?_)
    | ((with_reducible refine (?_ : SGbs _ _ _ _ _ _ _ _)); first | refine sgbs_cons ?_ | refine sgbs_nil ?_)
    | ((with_reducible refine (?_ : SW _ _ _ _ _ _ _)); first | refine sw_vals ?_ | refine sw_zipT (by assumption) ?_ | refine sw_range (by assumption) ?_ | refine sw_seq ?_)
    | ((with_reducible refine (?_ : OpV _ _ _ _ _ _ _ _)); first | refine ov_eqN ?_ | refine ov_neN ?_ | refine ov_inN ?_ | refine ov_ninN ?_ | refine ov_inNT ?_ | refine ov_ninNT ?_ | refine oi_add ?_ | refine oi_catT (by fail "z") ?_ | refine ov_cat (by fail "z") ?_ | refine ov_catT (by fail "z") ?_ | refine ov_add ?_ | refine ov_sub ?_ | refine ov_lt ?_ | refine ov_le ?_ | refine ov_gt ?_ | refine ov_ge ?_ | refine ov_eqI ?_ | refine ov_neI ?_ | refine ov_eqS ?_ | refine ov_neS ?_ | refine ov_eqB ?_ | refine ov_neB ?_)
    | ((with_reducible refine (?_ : IxV _ _ _ _ _ _ _)); first | refine iv_cons ?_ | refine iv_consT ?_)
    | ((with_reducible refine (?_ : SlV _ _ _ _ _ _ _ _)); first | refine sv_fromL (by decide) ?_ | refine sv_fromT (by decide) ?_ | refine sv_toL (by decide) ?_ | refine sv_toT (by decide) ?_)
    | ((with_reducible refine (?_ : ClV _ _ _ _ _ _ _)); first | refine cv_anyM rfl ?_ | refine cv_allM rfl ?_ | refine cv_len rfl ?_ | refine cv_tuple rfl ?_ | refine cv_list rfl ?_ | refine cv_abs ?_ | refine cv_isStr rfl ?_ | refine cv_isTup rfl ?_ | refine cv_isInt rfl ?_ | refine cv_isBool rfl ?_ | refine cv_sum rfl ?_)
    | (with_reducible refine turn0I (fun _ _ _ _ _ _ => ?_)) | (with_reducible refine turn1I (fun _ _ _ _ _ _ => ?_)) | (with_reducible refine turnDI (fun _ _ _ _ _ _ => ?_)) | (with_reducible refine abI (fun _ _ _ _ _ => ?_)) | ((with_reducible show (if _ then _ else _)); first | refine iteT ?_ | refine iteF ?_) | ((with_reducible refine (?_ : And _ _)); refine And.intro (show _ ≤ sizeLine by fail "z") ?_) | ((with_reducible refine (?_ : Exists _)); refine ⟨_, rfl, ?_⟩))
namespace W
open PySem L2 D PyProof.Rows
/-- what may come as a thing -/
inductive Th (C : Addr) : Dt → Prop
  | non : Th C .non
  | bl (b : Bool) : Th C (.bl b)
  | int (i : Int) : Th C (.int i)
  | str (s : Str) : s.length ≤ 200 → Th C (.str s)
  | lst (l : List Dt) : Th C (.lst l)
  | tup (l : List Dt) : l.length ≤ 2000 → (∀ d ∈ l, Th C d) → Th C (.tup l)
  | obj : Th C (.obj C)
theorem Th.tame {K : PySem.W.Frag} {C : Addr} (O : ObjC K C) {d : Dt} (h : Th C d) : Tame K d := by
  cases h with
  | obj => exact .inr ⟨C, rfl, O⟩
  | _ => exact .inl rfl
theorem Th.kn {C : Addr} {d : Dt} (h : Th C d) : Kn C d := by
  cases h with
  | obj => exact rfl
  | _ => exact True.intro
theorem Th.kn0 {C : Addr} {d : Dt} (h : Th C d) : ∀ d0 l, d = .tup (d0 :: l) → Kn C d0 := fun d0 l e => by
  subst e
  cases h with
  | tup _ _ h => exact (h d0 (List.mem_cons_self ..)).kn
theorem Th.of_tup {C : Addr} {l : List Dt} (h : Th C (.tup l)) : l.length ≤ 2000 ∧ ∀ d ∈ l, Th C d := by
  cases h with
  | tup _ h1 h2 => exact ⟨h1, h2⟩
/-- what may be spoilt: tuples so deep, of texts and ints -/
def SpD : Nat → Dt → Prop
  | 0, d => (∃ s : Str, d = .str s ∧ s.length ≤ 50) ∨ ∃ i, d = .int i
  | n + 1, d => ∃ l, d = .tup l ∧ l.length ≤ 900 ∧ ∀ x ∈ l, SpD n x
theorem SpD.th {C : Addr} : ∀ {n : Nat} {d : Dt}, SpD n d → Th C d
  | 0, _, .inl ⟨s, e, h⟩ => by subst e; exact .str s (by omega)
  | 0, _, .inr ⟨i, e⟩ => by subst e; exact .int i
  | n + 1, _, ⟨l, e, h1, h2⟩ => by subst e; exact .tup l (by omega) fun x hx => SpD.th (h2 x hx)
theorem SpD.nr : ∀ {n : Nat} {d : Dt}, SpD n d → noRaw d = true
  | 0, _, .inl ⟨s, e, h⟩ => by subst e; rfl
  | 0, _, .inr ⟨i, e⟩ => by subst e; rfl
  | n + 1, _, ⟨l, e, h1, h2⟩ => by subst e; rfl
theorem SpD.isInt : ∀ {n : Nat} {d : Dt}, SpD n d → isIntD d = true → ∃ i, d = .int i
  | 0, _, .inl ⟨s, e, h⟩, z => by subst e; cases z
  | 0, _, .inr ⟨i, e⟩, z => ⟨i, e⟩
  | n + 1, _, ⟨l, e, h1, h2⟩, z => by subst e; cases z
theorem SpD.isStr : ∀ {n : Nat} {d : Dt}, SpD n d → isStrD d = true → ∃ s : Str, d = .str s ∧ s.length ≤ 50
  | 0, _, .inl ⟨s, e, h⟩, z => ⟨s, e, h⟩
  | 0, _, .inr ⟨i, e⟩, z => by subst e; cases z
  | n + 1, _, ⟨l, e, h1, h2⟩, z => by subst e; cases z
theorem cutS_len (z : Str) (lo hi : Option Int) : (cutS z lo hi).length ≤ z.length := by
  rw [len_tl, tl_cut, List.length_take, List.length_drop, len_tl z]; omega
theorem cutD_len {α : Type} (l : List α) (lo hi : Option Int) : (cutD l lo hi).length ≤ l.length := by
  unfold D.cutD; rw [List.length_take, List.length_drop]; omega
theorem atI_any {α : Type} {l : List α} {i : Int} (h0 : -(l.length : Int) ≤ i) (h1 : i < l.length) : ∃ d, atI l i = some d ∧ d ∈ l := by
  by_cases h : 0 ≤ i
  · exact atI_nat' h h1
  · unfold atI L2.ixN
    rw [if_neg h, if_pos (by omega)]
    have hl : (i + (l.length : Int)).toNat < l.length := by omega
    exact ⟨l[(i + (l.length : Int)).toNat], List.getElem?_eq_getElem hl, List.getElem_mem hl⟩
def ThL (C : Addr) (l : List Dt) : Prop := ∀ d ∈ l, Th C d
theorem thl_nil {C : Addr} : ThL C [] := fun _ h => nomatch h
theorem thl_cons {C : Addr} {d : Dt} {l : List Dt} (h : Th C d) (t : ThL C l) : ThL C (d :: l) := fun x hx => by
  rcases List.mem_cons.mp hx with e | hx
  · rw [e]; exact h
  · exact t x hx
theorem thl_app {C : Addr} {l m : List Dt} (h : ThL C l) (t : ThL C m) : ThL C (l ++ m) := fun x hx => by
  rcases List.mem_append.mp hx with hx | hx
  · exact h x hx
  · exact t x hx
theorem thl_map {α : Type} {C : Addr} {f : α → Dt} {l : List α} (h : ∀ x ∈ l, Th C (f x)) : ThL C (l.map f) := fun x hx => by
  obtain ⟨y, hy, rfl⟩ := List.mem_map.mp hx
  exact h y hy
theorem thl_cut {C : Addr} {l : List Dt} {lo hi : Option Int} (h : ThL C l) : ThL C (cutD l lo hi) := fun d hd => h d (cutD_mem hd)
theorem th_tup {C : Addr} {l : List Dt} (hl : l.length ≤ 2000) (h : ThL C l) : Th C (.tup l) := .tup l hl h
abbrev obD (C : Addr) (u : List Unit) : Dt := .lst (u.map fun _ => Dt.obj C)
section
variable {P : Program} {w : World} {K : PySem.W.Frag} {mg : Str → Option Value} {base : Heap} {C : Addr}
abbrev sp_any (K : PySem.W.Frag) (C : Addr) : Sp := spB K (fun u : List Unit => [obD C u]) (fun u => u.length ≤ 10) (fun _ => 1) (fun _ z => Th C z)
theorem ok_any {f : Addr} {fd : FuncData} (Fu : Fun K "_law_any" "_law_any" s__law_any f fd) (T : Txt mg) (Dt' : D_take P w K mg base) : FnOk P w K mg base (L2.CX P w) 2 f fd ["_law_bag_here", "_law_objects"] (sp_any K C) := by
  refine fn_B Fu sc__law_any (fun a => rfl) (fun cdv A outer s H E F b c u hp hc hr => ?_)
  have hu : u.length ≤ 10 := hp
  have hc : c + 1 ≤ LIM := hc
  have nd := sc__law_any.nd
  have hlen := T.len
  repeat fail
  refine ov_pow ⟨by decide, by decide, by decide⟩ ?_
  repeat fail
  refine lcM (fun _ => .tup [.obj C]) (by fail "z") ?_ ?_
  · intro x hx
    repeat fail "e"
    exact ⟨rfl, rfl⟩
  repeat fail
  refine se_fB 0 Dt' hr ?_
  repeat fail "e"
  refine ⟨b, c, _, rfl, rfl, ⟨?_, ?_⟩, by show c + 1 ≤ LIM; omega, ?_⟩
  · simp only [List.length_append, List.length_cons, List.length_map, List.length_nil]; omega
  · simp only [List.length_append, List.length_cons, List.length_map, List.length_nil]; omega
  rintro _ ⟨k, rfl, hk0, hk1⟩
  obtain ⟨d, hd, hm⟩ := atI_nat' hk0 hk1
  refine iv_lst hd ?_
  refine ⟨⟨_, Nat.le_refl _, rfl⟩, ?_⟩
  revert hm
  refine (?_ : ThL C _) d
  repeat' (first | exact Th.non | exact Th.bl _ | exact Th.int _ | exact Th.str _ (by decide +kernel) | exact Th.lst _ | exact Th.obj | exact thl_nil | exact thl_map fun _ _ => Th.obj | exact thl_map fun _ _ => th_tup (by simp) (thl_cons Th.obj thl_nil) | refine th_tup (by simp) ?_ | refine thl_cons ?_ ?_ | refine thl_app ?_ ?_)
abbrev D_any (P : Program) (w : World) (K : PySem.W.Frag) (mg : Str → Option Value) (base : Heap) (C : Addr) : Prop := DefOk P w K mg base 2 "_law_any" ["_law_bag_here", "_law_objects"] (sp_any K C)
abbrev sp_spoilt (K : PySem.W.Frag) (C : Addr) (n : Nat) : Sp := spB K (fun x : Dt × List Unit => [x.1, obD C x.2]) (fun x => SpD n x.1 ∧ x.2.length ≤ 10) (fun _ => 8 * (n + 1)) (fun _ z => Th C z)
abbrev D_spoilt (P : Program) (w : World) (K : PySem.W.Frag) (mg : Str → Option Value) (base : Heap) (C : Addr) (n : Nat) : Prop := DefOk P w K mg base (n + 3) "_law_spoilt" ["_law_bag_here", "_law_item", "_law_objects"] (sp_spoilt K C n)
theorem ss_mid {F : Fm} {X : Cx} {Γ : List Sl} {c : Cells} {Φ : PEnds} {st : Stmt} {ss : List Stmt} (J : List Sl → Cells → Prop) (h : S1 F X Γ c st { Φ with nx := J }) (k : ∀ Γ' c', J Γ' c' → SS F X Γ' c' ss Φ) : SS F X Γ c (st :: ss) Φ := ss_cons (.mk fun σ H D S E => h σ H D S ⟨fun Γ' c' σ' H' p S' e' => E.nx Γ' c' σ' H' (k Γ' c' p) S' e', E.rt, E.bk, E.ct⟩)
/-- the suite of the first if: something else -/
theorem spoilt_any (T : Txt mg) (Dt' : D_take P w K mg base) (Da : D_any P w K mg base C) {f : Addr} {cdv : Value} {A : Around} {outer : List Env} {s : Shared} {H : Hp} {E : XK} {F : Fm} {b : Addr} {n k c0 c : Nat} {d : Dt} {u : List Unit} {cost : Nat} {Φ : PEnds}
    (hr : Room (k + 2) (A.deeper (envOfC "_law_spoilt" (defScope s__law_spoilt) s.heap.objs.size f cdv))) (hd : SpD n d) (hu : u.length ≤ 10) (hc : c + 4 ≤ c0 + cost) (hl : c0 + cost ≤ LIM) (hΦ : ∀ Γ c' d, ((∃ m, m ≤ c0 + cost ∧ c' = [(b, .bag m)]) ∧ Th C d) → Φ.rt Γ c' d) :
    SS F (cxOf (L2.CX P w) P w K mg base n__law_spoilt "_law_spoilt" (defScope s__law_spoilt) f cdv A outer s H E) [.dat (.raw (.ref b)), .dat d, .dat (obD C u), .un, .un] [(b, .bag c)] (match (defBody s__law_spoilt).head? with | some (.If _ body _ _) => body | _ => []) Φ := by
  have nd := sc__law_spoilt.nd
  have h1 := T.isi
  have h2 := T.int
  have h3 := T.str
  have h4 := T.bool
  refine ss_cons (s_st nd (se_fB 0 Dt' (hr.mono (by omega)) ?_))
  repeat fail "e"
  refine ⟨b, c, 4, rfl, rfl, ⟨by decide, by decide⟩, by show c + 1 ≤ LIM; omega, ?_⟩
  rintro _ ⟨k1, rfl, hk0, hk1⟩
  refine ss_mid (fun Γ cc => Γ = [.dat (.raw (.ref b)), .dat d, .dat (obD C u), .dat (.int k1), .un] ∧ cc = [(b, .bag (c + 1))]) (s_if ?_) ?_
  · repeat fail "e"
    refine ite2 (fun h => ?_) (fun h => ?_)
    · repeat fail "e"
      refine cv_isInt hd.nr ?_
      repeat fail "e"
      refine ite2 (fun h' => ?_) (fun h' => ?_)
      · obtain ⟨i, rfl⟩ := hd.isInt h'
        repeat fail
        refine se_callT (id := "bool") h4 ?_
        repeat fail "e"
        refine cv_boolI ?_
        repeat fail "e"
        refine se_fB 0 Dt' (hr.mono (by omega)) ?_
        repeat fail "e"
        refine ⟨b, c + 1, 4, rfl, rfl, ⟨by decide, by decide⟩, by show c + 1 + 1 ≤ LIM; omega, ?_⟩
        rintro _ ⟨k2, rfl, hk20, hk21⟩
        obtain ⟨z, hz, hm⟩ := atI_nat' (l := [Dt.int (i + 1), .int (i - 1), .bl (i != 0), .int (i + 7)]) hk20 (by simpa using hk21)
        refine iv_tup hz (hΦ _ _ _ ⟨⟨_, by show c + 1 + 1 ≤ _; omega, rfl⟩, ?_⟩)
        revert hm
        refine (?_ : ThL C _) z
        repeat' (first | exact Th.non | exact Th.bl _ | exact Th.int _ | exact Th.str _ (by decide +kernel) | exact Th.lst _ | exact Th.obj | exact thl_nil | exact thl_map fun _ _ => Th.obj | exact thl_map fun _ _ => th_tup (by simp) (thl_cons Th.obj thl_nil) | refine th_tup (by simp) ?_ | refine thl_cons ?_ ?_ | refine thl_app ?_ ?_)
      · exact ss_nil ⟨rfl, rfl⟩
    · exact ss_nil ⟨rfl, rfl⟩
  rintro Γ cc ⟨rfl, rfl⟩
  refine ss_mid (fun Γ cc => Γ = [.dat (.raw (.ref b)), .dat d, .dat (obD C u), .dat (.int k1), .un] ∧ cc = [(b, .bag (c + 1))]) (s_if ?_) ?_
  · repeat fail "e"
    refine ite2 (fun h => ?_) (fun h => ?_)
    · repeat fail "e"
      refine cv_isStr hd.nr ?_
      repeat fail "e"
      refine ite2 (fun h' => ?_) (fun h' => ?_)
      · obtain ⟨x, rfl, hx⟩ := hd.isStr h'
        have hbig := big_line
        repeat fail
        refine ov_addS (by show x.length + 1 ≤ _; omega) ?_
        repeat fail "e"
        refine sv_str (by omega) ?_
        repeat fail "e"
        refine se_fB 0 Dt' (hr.mono (by omega)) ?_
        repeat fail "e"
        refine ⟨b, c + 1, 8, rfl, rfl, ⟨by decide, by decide⟩, by show c + 1 + 1 ≤ LIM; omega, ?_⟩
        rintro _ ⟨k2, rfl, hk20, hk21⟩
        obtain ⟨z, hz, hm⟩ := atI_nat' (l := [Dt.str (x ++ "a"), .str (cutS x none (some (-1))), .str "can", .str "clash", .str "say", .str "next", .str "call", .str "A"]) hk20 (by simpa using hk21)
        refine iv_tup hz (hΦ _ _ _ ⟨⟨_, by show c + 1 + 1 ≤ _; omega, rfl⟩, ?_⟩)
        revert hm
        refine (?_ : ThL C _) z
        refine thl_cons (.str _ (by rw [len_app]; show x.length + 1 ≤ 200; omega)) (thl_cons (.str _ (by have := cutS_len x none (some (-1)); omega)) ?_)
        repeat' (first | exact Th.non | exact Th.bl _ | exact Th.int _ | exact Th.str _ (by decide +kernel) | exact Th.lst _ | exact Th.obj | exact thl_nil | exact thl_map fun _ _ => Th.obj | exact thl_map fun _ _ => th_tup (by simp) (thl_cons Th.obj thl_nil) | refine th_tup (by simp) ?_ | refine thl_cons ?_ ?_ | refine thl_app ?_ ?_)
      · exact ss_nil ⟨rfl, rfl⟩
    · exact ss_nil ⟨rfl, rfl⟩
  rintro Γ cc ⟨rfl, rfl⟩
  refine ss_one (s_ret (se_fB 0 Da (hr.mono (by omega)) ?_))
  repeat fail "e"
  refine ⟨b, c + 1, u, rfl, rfl, hu, by show c + 1 + 1 ≤ LIM; omega, ?_⟩
  intro z hz
  exact hΦ _ _ _ ⟨⟨_, by show c + 1 + 1 ≤ _; omega, rfl⟩, hz⟩
theorem ok_spoilt {f : Addr} {fd : FuncData} (Fu : Fun K "_law_spoilt" "_law_spoilt" s__law_spoilt f fd) (T : Txt mg) (Dt' : D_take P w K mg base) (Da : D_any P w K mg base C) (hmg : mg "_law_spoilt" = some (.ref f)) (hkp : PySem.W.keepIn K (.ref f) = true) (hb : Binds K fd ["_law_bag_here", "_law_item", "_law_objects"] []) :
    ∀ n : Nat, FnOk P w K mg base (L2.CX P w) (n + 3) f fd ["_law_bag_here", "_law_item", "_law_objects"] (sp_spoilt K C n)
  | 0 => by
    refine fn_B Fu sc__law_spoilt (fun a => rfl) (fun cdv A outer s H E F b c x hp hc hr => ?_)
    obtain ⟨d, u⟩ := x
    obtain ⟨hd, hu⟩ := (show SpD 0 d ∧ u.length ≤ 10 from hp)
    have hc : c + 8 * (0 + 1) ≤ LIM := hc
    have nd := sc__law_spoilt.nd
    have h1 := T.isi
    have h2 := T.tuple
    refine ss_cons (s_if ?_)
    repeat fail "e"
    refine cv_isTup hd.nr ?_
    have hnt : isTupD d = false := by
      rcases hd with ⟨s, rfl, _⟩ | ⟨i, rfl⟩ <;> rfl
    rw [hnt]
    repeat fail "e"
    exact spoilt_any (k := 0) (c0 := c) (cost := 8 * (0 + 1)) T Dt' Da hr hd hu (by omega) hc fun _ _ _ z => z
  | n + 1 => by
    have ih := ok_spoilt Fu T Dt' Da hmg hkp hb n
    have Ds : D_spoilt P w K mg base C n := ⟨f, fd, ih, hmg, hkp, hb⟩
    refine fn_B Fu sc__law_spoilt (fun a => rfl) (fun cdv A outer s H E F b c x hp hc hr => ?_)
    obtain ⟨d, u⟩ := x
    obtain ⟨hd, hu⟩ := (show SpD (n + 1) d ∧ u.length ≤ 10 from hp)
    have hd0 := hd
    obtain ⟨l, rfl, hl, hx⟩ := hd
    have hc : c + 8 * (n + 1 + 1) ≤ LIM := hc
    have nd := sc__law_spoilt.nd
    have h1 := T.isi
    have h2 := T.tuple
    have h3 := T.len
    have h4 := T.list
    have hbig := big_line
    have hth : ThL C l := fun x hx' => (hx x hx').th
    refine ss_cons (s_if ?_)
    repeat fail "e"
    refine ov_eqT0 hr.units0 ?_
    repeat fail "e"
    refine ite2 (fun h => ?_) (fun h => ?_)
    · repeat fail "e"
      exact spoilt_any (k := n + 1) (c0 := c) (cost := 8 * (n + 1 + 1)) T Dt' Da hr hd0 hu (by omega) hc fun _ _ _ z => z
    have hne : l ≠ [] := fun z => h (by rw [z]; rfl)
    have hpos : 0 < l.length := List.length_pos_iff.mpr hne
    repeat fail "e"
    refine se_fB 0 Dt' (hr.mono (by omega)) ?_
    repeat fail "e"
    refine ⟨b, c, 6, rfl, rfl, ⟨by decide, by decide⟩, by show c + 1 ≤ LIM; omega, ?_⟩
    rintro _ ⟨k0, rfl, hk00, hk01⟩
    repeat fail "e"
    refine ite2 (fun h => ?_) (fun h => ?_)
    · repeat fail "e"
      exact spoilt_any (k := n + 1) (c0 := c) (cost := 8 * (n + 1 + 1)) T Dt' Da hr hd0 hu (by omega) hc fun _ _ _ z => z
    refine ss_nil ?_
    refine ss_cons (s_par 3 4 rfl nd (by decide) (sa_cons (se_fB 0 Dt' (hr.mono (by omega)) ?_)))
    repeat fail "e"
    refine ⟨b, c + 1, 8, rfl, rfl, ⟨by decide, by decide⟩, by show c + 1 + 1 ≤ LIM; omega, ?_⟩
    rintro _ ⟨k1, rfl, hk10, hk11⟩
    refine sa_cons (se_fB 0 Dt' (hr.mono (by omega)) ?_)
    repeat fail "e"
    refine ⟨b, c + 1 + 1, l.length, rfl, rfl, ⟨by omega, by omega⟩, by show c + 1 + 1 + 1 ≤ LIM; omega, ?_⟩
    rintro _ ⟨k2, rfl, hk20, hk21⟩
    repeat fail "e"
    refine ⟨_, _, rfl, ?_⟩
    obtain ⟨e, he, hem⟩ := atI_nat' hk20 hk21
    obtain ⟨e', he', hem'⟩ := atI_any (l := l) (i := k2 - 1) (by omega) (by omega)
    have hcl := fun lo hi => cutD_len l lo hi
    have fin : ∀ {m : Nat} {z : Dt}, m ≤ c + 8 * (n + 1 + 1) → Th C z → ((∃ m', m' ≤ c + 8 * (n + 1 + 1) ∧ [(b, Cel.bag m)] = [(b, Cel.bag m')]) ∧ Th C z) := fun h1 h2 => ⟨⟨_, h1, rfl⟩, h2⟩
    refine ss_cons (s_if ?_)
    repeat fail "e"
    refine ite2 (fun h => ?_) (fun h => ?_)
    · repeat fail
      refine sv_tup ?_
      repeat fail "e"
      refine sv_tup ?_
      refine ov_catT (by have h1 := hcl none (some k2); have h2 := hcl (some (k2 + 1)) none; omega) ?_
      exact fin (by omega) (th_tup (by rw [List.length_append]; have h1 := hcl none (some k2); have h2 := hcl (some (k2 + 1)) none; omega) (thl_app (thl_cut hth) (thl_cut hth)))
    refine ss_nil (ss_cons (s_if ?_))
    repeat fail "e"
    refine ite2 (fun h => ?_) (fun h => ?_)
    · repeat fail
      refine sv_tup ?_
      repeat fail "e"
      refine iv_tup he ?_
      repeat fail "e"
      refine ov_catT (by have h1 := hcl none (some k2); show _ + 1 ≤ _; omega) ?_
      repeat fail "e"
      refine sv_tup ?_
      refine ov_catT (by rw [List.length_append]; have h1 := hcl none (some k2); have h2 := hcl (some k2) none; show _ + 1 + _ ≤ _; omega) ?_
      exact fin (by omega) (th_tup (by rw [List.length_append, List.length_append]; have h1 := hcl none (some k2); have h2 := hcl (some k2) none; show _ + 1 + _ ≤ _; omega) (thl_app (thl_app (thl_cut hth) (thl_cons (hth _ hem) thl_nil)) (thl_cut hth)))
    refine ss_nil (ss_cons (s_if ?_))
    repeat fail "e"
    refine ite2 (fun h => ?_) (fun h => ?_)
    · repeat fail
      refine se_fB 0 Da (hr.mono (by omega)) ?_
      repeat fail "e"
      refine ⟨b, c + 1 + 1 + 1, u, rfl, rfl, hu, by show c + 1 + 1 + 1 + 1 ≤ LIM; omega, ?_⟩
      intro y hy
      repeat fail "e"
      refine se_fB 0 Dt' (hr.mono (by omega)) ?_
      repeat fail "e"
      refine ⟨b, c + 1 + 1 + 1 + 1, 3, rfl, rfl, ⟨by decide, by decide⟩, by show c + 1 + 1 + 1 + 1 + 1 ≤ LIM; omega, ?_⟩
      rintro _ ⟨k3, rfl, hk30, hk31⟩
      obtain ⟨z, hz, hm⟩ := atI_nat' (l := [Dt.lst l, .tup l.reverse, .tup (l ++ [y])]) hk30 (by simpa using hk31)
      refine iv_lst hz (fin (by omega) ?_)
      revert hm
      refine (?_ : ThL C _) z
      exact thl_cons (.lst _) (thl_cons (th_tup (by rw [List.length_reverse]; omega) fun d hd => hth d (List.mem_reverse.mp hd)) (thl_cons (th_tup (by rw [List.length_append]; show _ + 1 ≤ _; omega) (thl_app hth (thl_cons hy thl_nil))) thl_nil))
    refine ss_nil (ss_cons (s_if ?_))
    repeat fail "e"
    refine ite2 (fun h => ?_) (fun h => ?_)
    · repeat fail
      refine sv_tup ?_
      repeat fail "e"
      refine iv_tup he' ?_
      repeat fail "e"
      refine ov_catT (by have h1 := hcl none (some k2); show _ + 1 ≤ _; omega) ?_
      repeat fail "e"
      refine sv_tup ?_
      refine ov_catT (by rw [List.length_append]; have h1 := hcl none (some k2); have h2 := hcl (some (k2 + 1)) none; show _ + 1 + _ ≤ _; omega) ?_
      exact fin (by omega) (th_tup (by rw [List.length_append, List.length_append]; have h1 := hcl none (some k2); have h2 := hcl (some (k2 + 1)) none; show _ + 1 + _ ≤ _; omega) (thl_app (thl_app (thl_cut hth) (thl_cons (hth _ hem') thl_nil)) (thl_cut hth)))
    refine ss_nil ?_
    repeat fail
    refine sv_tup ?_
    repeat fail "e"
    refine se_fB 0 Ds hr ?_
    repeat fail "e"
    refine iv_tup he ?_
    repeat fail "e"
    refine ⟨b, c + 1 + 1 + 1, (e, u), rfl, rfl, ⟨hx e hem, hu⟩, by show c + 1 + 1 + 1 + 8 * (n + 1) ≤ LIM; omega, ?_⟩
    intro z hz
    repeat fail "e"
    refine ov_catT (by have h1 := hcl none (some k2); show _ + 1 ≤ _; omega) ?_
    repeat fail "e"
    refine sv_tup ?_
    refine ov_catT (by rw [List.length_append]; have h1 := hcl none (some k2); have h2 := hcl (some (k2 + 1)) none; show _ + 1 + _ ≤ _; omega) ?_
    exact fin (by show c + 1 + 1 + 1 + 8 * (n + 1) ≤ _; omega) (th_tup (by rw [List.length_append, List.length_append]; have h1 := hcl none (some k2); have h2 := hcl (some (k2 + 1)) none; show _ + 1 + _ ≤ _; omega) (thl_app (thl_app (thl_cut hth) (thl_cons hz thl_nil)) (thl_cut hth)))
end
end W
end
section
set_option Elab.async false
set_option linter.all false
set_option maxRecDepth 100000
set_option maxHeartbeats 4000000
open PySem L2 D PyProof.Rows
local macro_rules
  | `(tactic| fail "z") => `(tactic| ((try simp only [List.length_map, List.length_cons, List.length_nil, List.length_append, List.length_drop, List.length_take]); have := big_line; omega))
local macro_rules
  | `(tactic| fail) => `(tactic| first
    | ((with_reducible refine (?_ : SE _ _ _ _ _ _)); first | refine se_nm rfl ?_ | refine se_tyTuple (by assumption) ?_ | refine se_tyStr (by assumption) ?_ | refine se_tyInt (by assumption) ?_ | refine se_tyBool (by assumption) ?_ | refine se_int ?_ | refine se_str ?_ | refine se_non ?_ | refine se_bl ?_ | refine se_cmp ?_ | refine se_bin ?_ | refine se_backT ?_ | refine se_ix ?_ | refine se_slice ?_ | refine se_tup ?_ | refine se_lst ?_ | ((with_reducible refine (?_ : SE _ _ _ _ (.Call _ _ _ _) _)); first | refine se_any (by assumption) ?_ | refine se_all (by assumption) ?_ | refine se_len (by assumption) ?_ | refine se_min (by assumption) ?_ | refine se_max (by assumption) ?_ | refine se_sorted (by assumption) ?_ | refine se_isi (by assumption) ?_ | refine se_abs (by assumption) ?_ | refine se_sum (by assumption) ?_ | refine se_tupleC (by assumption) ?_ | refine se_listC (by assumption) ?_) | refine se_M rfl (by assumption) (blkOk_by rfl) ?_ | refine se_F rfl (by assumption) (blkOk_by rfl) ?_ | refine se_Dc rfl (by assumption) (blkOk_by rfl) ?_ | refine se_chain ?_ | refine se_indexN ?_ | refine se_not ?_ | refine se_if ?_ | refine se_one ?_ | refine se_and ?_ | refine se_or ?_ | refine se_neg ?_)
    | ((with_reducible refine (?_ : ST _ _ _ _ _ _)); first | refine st_cmp ?_ | refine st_chain ?_ | refine st_not ?_ | refine st_w (sw_and ?_) | refine st_w (sw_or ?_) | refine st_val ?_)
    | ((with_reducible refine (?_ : SWt _ _ _ _ _ _)); first | refine sw_and ?_ | refine sw_and1 ?_ | refine sw_or ?_ | refine sw_or1 ?_)
    | ((with_reducible refine (?_ : SA _ _ _ _ _ _)); first | refine sa_cons ?_ | refine sa_nil ?_)
    | ((with_reducible refine (?_ : SO _ _ _ _ _ _)); first | refine so_none ?_ | refine so_some ?_)
    | ((with_reducible refine (?_ : SS _ _ _ _ _ _)); first | refine ss_one ?_ | refine ss_cons ?_)
    | ((with_reducible refine (?_ : S1 _ _ _ _ _ _)); first | refine s_ret ?_ | refine s_if ?_ | refine s_M rfl (by assumption) (blkOk_by rfl) ?_ | refine s_F rfl (by assumption) (blkOk_by rfl) ?_ | refine s_Dc rfl (by assumption) (blkOk_by rfl) ?_ | refine s_st (by assumption) ?_ | refine s_aug (by assumption) rfl ?_ | refine s_asg ?_ | refine s_expr ?_)
    | ((with_reducible refine (?_ : SG _ _ _ _ _ _ _)); first | refine sg_nm (by assumption) ?_ | refine sg_par rfl ?_ | refine sg_tup rfl ?_)
    | ((with_reducible refine (?_ : SGs _ _ _ _ _ _ _)); first | refine sgs_cons ?_ | refine sgs_nil ?_)
    | ((with_reducible refine (?_ : SGb _ _ _ _ _ _ _ _)); first | refine sgb_nm (by assumption) ?_ (by first | exact vs_self | exact vs_one | exact vs_two) | refine sgb_par rfl ?_ | refine sgb_tup rfl ?_)
    | ((with_reducible refine (?_ : SGbs _ _ _ _ _ _ _ _)); first | refine sgbs_cons ?_ | refine sgbs_nil ?_)
    | ((with_reducible refine (?_ : SW _ _ _ _ _ _ _)); first | refine sw_vals ?_ | refine sw_zipT (by assumption) ?_ | refine sw_range (by assumption) ?_ | refine sw_seq ?_)
    | ((with_reducible refine (?_ : OpV _ _ _ _ _ _ _ _)); first | refine ov_eqN ?_ | refine ov_neN ?_ | refine ov_inN ?_ | refine ov_ninN ?_ | refine ov_inNT ?_ | refine ov_ninNT ?_ | refine oi_add ?_ | refine oi_catT (by fail "z") ?_ | refine ov_cat (by fail "z") ?_ | refine ov_catT (by fail "z") ?_ | refine ov_add ?_ | refine ov_sub ?_ | refine ov_lt ?_ | refine ov_le ?_ | refine ov_gt ?_ | refine ov_ge ?_ | refine ov_eqI ?_ | refine ov_neI ?_ | refine ov_eqS ?_ | refine ov_neS ?_ | refine ov_eqB ?_ | refine ov_neB ?_)
    | ((with_reducible refine (?_ : IxV _ _ _ _ _ _ _)); first | refine iv_cons ?_ | refine iv_consT ?_)
    | ((with_reducible refine (?_ : SlV _ _ _ _ _ _ _ _)); first | refine sv_fromL (by decide) ?_ | refine sv_fromT (by decide) ?_ | refine sv_toL (by decide) ?_ | refine sv_toT (by decide) ?_)
    | ((with_reducible refine (?_ : ClV _ _ _ _ _ _ _)); first | refine cv_anyM rfl ?_ | refine cv_allM rfl ?_ | refine cv_len rfl ?_ | refine cv_tuple rfl ?_ | refine cv_list rfl ?_ | refine cv_abs ?_ | refine cv_isStr rfl ?_ | refine cv_isTup rfl ?_ | refine cv_isInt rfl ?_ | refine cv_isBool rfl ?_ | refine cv_sum rfl ?_)
    | (with_reducible refine turn0I (fun _ _ _ _ _ _ => ?_)) | (with_reducible refine turn1I (fun _ _ _ _ _ _ => ?_)) | (with_reducible refine turnDI (fun _ _ _ _ _ _ => ?_)) | (with_reducible refine abI (fun _ _ _ _ _ => ?_)) | ((with_reducible show (if _ then _ else _)); first | refine iteT ?_ | refine iteF ?_) | ((with_reducible refine (?_ : And _ _)); refine And.intro (show _ ≤ sizeLine by fail "z") ?_) | ((with_reducible refine (?_ : Exists _)); refine ⟨_, rfl, ?_⟩))
local macro_rules
  | `(tactic| fail "e") => `(tactic| first
    | ((with_reducible refine (?_ : SE _ _ _ _ _ _)); first | refine se_nm rfl ?_ | refine se_tyTuple (by assumption) ?_ | refine se_tyStr (by assumption) ?_ | refine se_tyInt (by assumption) ?_ | refine se_tyBool (by assumption) ?_ | refine se_int ?_ | refine se_str ?_ | refine se_non ?_ | refine se_bl ?_ | refine se_cmp ?_ | refine se_bin ?_ | refine se_backT ?_ | refine se_ix ?_ | refine se_slice ?_ | refine se_tup ?_ | refine se_lst ?_ | ((with_reducible refine (?_ : SE _ _ _ _ (.Call _ _ _ _) _)); first | refine se_any (by assumption) ?_ | refine se_all (by assumption) ?_ | refine se_len (by assumption) ?_ | refine se_min (by assumption) ?_ | refine se_max (by assumption) ?_ | refine se_sorted (by assumption) ?_ | refine se_isi (by assumption) ?_ | refine se_abs (by assumption) ?_ | refine se_sum (by assumption) ?_ | refine se_tupleC (by assumption) ?_ | refine se_listC (by assumption) ?_) | refine se_M rfl (by assumption) (blkOk_by rfl) ?_ | refine se_F rfl (by assumption) (blkOk_by rfl) ?_ | refine se_Dc rfl (by assumption) (blkOk_by rfl) ?_ | refine se_chain ?_ | refine se_indexN ?_ | refine se_not ?_ | refine se_if ?_ | refine se_one ?_ | refine se_and ?_ | refine se_or ?_ | refine se_neg ?_)
    | ((with_reducible refine (?_ : ST _ _ _ _ _ _)); first | refine st_cmp ?_ | refine st_chain ?_ | refine st_not ?_ | refine st_w (sw_and ?_) | refine st_w (sw_or ?_) | refine st_val ?_)
    | ((with_reducible refine (?_ : SWt _ _ _ _ _ _)); first | refine sw_and ?_ | refine sw_and1 ?_ | refine sw_or ?_ | refine sw_or1 ?_)
    | ((with_reducible refine (?_ : SA _ _ _ _ _ _)); first | refine sa_cons ?_ | refine sa_nil ?_)
    | ((with_reducible refine (?_ : SO _ _ _ _ _ _)); first | refine so_none ?_ | refine so_some ?_)
    | ((with_reducible refine (?_ : SG _ _ _ _ _ _ _)); first | refine sg_nm (by assumption) ?_ | refine sg_par rfl ?_ | refine sg_tup rfl ?_)
    | ((with_reducible refine (?_ : SGs _ _ _ _ _ _ _)); first | refine sgs_cons ?_ | refine sgs_nil ?_)
    | ((with_reducible refine (?_ : SGb _ _ _ _ _ _ _ _)); first | refine sgb_nm (by assumption) ?_ (by first | exact vs_self | exact vs_one | exact vs_two) | refine sgb_par rfl ?_ | refine sgb_tup rfl ?_)
    | ((with_reducible refine (?_ : SGbs _ _ _ _ _ _ _ _)); first | refine sgbs_cons ?_ | refine sgbs_nil ?_)
    | ((with_reducible refine (?_ : SW _ _ _ _ _ _ _)); first | refine sw_vals ?_ | refine sw_zipT (by assumption) ?_ | refine sw_range (by assumption) ?_ | refine sw_seq ?_)
    | ((with_reducible refine (?_ : OpV _ _ _ _ _ _ _ _)); first | refine ov_eqN ?_ | refine ov_neN ?_ | refine ov_inN ?_ | refine ov_ninN ?_ | refine ov_inNT ?_ | refine ov_ninNT ?_ | refine oi_add ?_ | refine oi_catT (by fail "z") ?_ | refine ov_cat (by fail "z") ?_ | refine ov_catT (by fail "z") ?_ | refine ov_add ?_ | refine ov_sub ?_ | refine ov_lt ?_ | refine ov_le ?_ | refine ov_gt ?_ | refine ov_ge ?_ | refine ov_eqI ?_ | refine ov_neI ?_ | refine ov_eqS ?_ | refine ov_neS ?_ | refine ov_eqB ?_ | refine ov_neB ?_)
    | ((with_reducible refine (?_ : IxV _ _ _ _ _ _ _)); first | refine iv_cons ?_ | refine iv_consT ?_)
    | ((with_reducible refine (?_ : SlV _ _ _ _ _ _ _ _)); first | refine sv_fromL (by decide) ?_ | refine sv_fromT (by decide) ?_ | refine sv_toL (by decide) ?_ | refine sv_toT (by decide) ?_)
    | ((with_reducible refine (?_ : ClV _ _ _ _ _ _ _)); first | refine cv_anyM rfl ?_ | refine cv_allM rfl ?_ | refine cv_len rfl ?_ | refine cv_tuple rfl ?_ | refine cv_list rfl ?_ | refine cv_abs ?_ | refine cv_isStr rfl ?_ | refine cv_isTup rfl ?_ | refine cv_isInt rfl ?_ | refine cv_isBool rfl ?_ | refine cv_sum rfl ?_)
    | (with_reducible refine turn0I (fun _ _ _ _ _ _ => ?_)) | (with_reducible refine turn1I (fun _ _ _ _ _ _ => ?_)) | (with_reducible refine turnDI (fun _ _ _ _ _ _ => ?_)) | (with_reducible refine abI (fun _ _ _ _ _ => ?_)) | ((with_reducible show (if _ then _ else _)); first | refine iteT ?_ | refine iteF ?_) | ((with_reducible refine (?_ : And _ _)); refine And.intro (show _ ≤ sizeLine by fail "z") ?_) | ((with_reducible refine (?_ : Exists _)); refine ⟨_, rfl, ?_⟩))
namespace W
open PySem L2 D PyProof.Rows
abbrev regFields : List Str := ["kind_bases", "lines", "bodies", "cache", "things", "opened_by_number", "made", "begun", "past"]
structure RegC (K : PySem.W.Frag) (C : Addr) : Prop where
  cl : Cls K C
  na : ∀ f ∈ regFields, NoAttr K C f
abbrev regFs (p1 p2 p3 p4 p5 p6 p7 : Addr) (m b : Int) : List (Str × Dt) := [("kind_bases", .raw (.ref p1)), ("lines", .raw (.ref p2)), ("bodies", .raw (.ref p3)), ("cache", .raw (.ref p4)), ("things", .raw (.ref p5)), ("opened_by_number", .raw (.ref p6)), ("made", .int m), ("begun", .int b), ("past", .raw (.ref p7))]
def initPost (C a dx : Addr) (c' : Cells) : Prop := ∃ p1 p2 p3 p4 p5 p6 p7, c' = [(a, .ins C dx (regFs p1 p2 p3 p4 p5 p6 p7 0 0)), (p1, .dk []), (p2, .dk []), (p3, .dt []), (p4, .dt []), (p5, .dk []), (p6, .dk []), (p7, .lst [])]
theorem putFD_len {f : Str} {d : Dt} : ∀ {fs : List (Str × Dt)} {n : Nat}, fs.length ≤ n → (putFD f d fs).length ≤ n + 1
  | [], n, _ => by show 1 ≤ n + 1; omega
  | (g, x) :: r, n, h => by
    unfold putFD
    split
    · exact Nat.le_succ_of_le h
    · match n, h with
      | n + 1, h => exact Nat.succ_le_succ (putFD_len (Nat.le_of_succ_le_succ h))
section
variable {P : Program} {w : World} {K : PySem.W.Frag} {mg : Str → Option Value} {base : Heap} {C : Addr}
theorem ok_reg_init {f : Addr} {fd : FuncData} (Fu : Fun K "__init__" "Registry.__init__" s_Registry___init__ f fd) (R : RegC K C) : FnOk P w K mg base (L2.CX P w) 1 f fd ["self"] (spM K C (initPost C)) := by
  refine fn_G Fu sc_Registry___init__ (fun a => rfl) (fun cdv A outer s H E F x hp hr xt => ?_)
  obtain ⟨a, dx⟩ := x
  have nd := sc_Registry___init__.nd
  refine ss_cons (s_fput (se_dnew fun p1 => ?_))
  repeat fail "e"
  refine ⟨0, a, C, dx, _, rfl, rfl, R.cl, R.na _ (by decide +kernel), (by refine Nat.lt_of_le_of_lt (m := 20) ?_ (by decide); repeat (first | exact Nat.zero_le _ | refine putFD_len ?_)), ?_⟩
  refine ss_cons (s_fput (se_dnew fun p2 => ?_))
  repeat fail "e"
  refine ⟨0, a, C, dx, _, rfl, rfl, R.cl, R.na _ (by decide +kernel), (by refine Nat.lt_of_le_of_lt (m := 20) ?_ (by decide); repeat (first | exact Nat.zero_le _ | refine putFD_len ?_)), ?_⟩
  refine ss_cons (s_fput (se_dnewT fun p3 => ?_))
  repeat fail "e"
  refine ⟨0, a, C, dx, _, rfl, rfl, R.cl, R.na _ (by decide +kernel), (by refine Nat.lt_of_le_of_lt (m := 20) ?_ (by decide); repeat (first | exact Nat.zero_le _ | refine putFD_len ?_)), ?_⟩
  refine ss_cons (s_fput (se_dnewT fun p4 => ?_))
  repeat fail "e"
  refine ⟨0, a, C, dx, _, rfl, rfl, R.cl, R.na _ (by decide +kernel), (by refine Nat.lt_of_le_of_lt (m := 20) ?_ (by decide); repeat (first | exact Nat.zero_le _ | refine putFD_len ?_)), ?_⟩
  refine ss_cons (s_fput (se_dnew fun p5 => ?_))
  repeat fail "e"
  refine ⟨0, a, C, dx, _, rfl, rfl, R.cl, R.na _ (by decide +kernel), (by refine Nat.lt_of_le_of_lt (m := 20) ?_ (by decide); repeat (first | exact Nat.zero_le _ | refine putFD_len ?_)), ?_⟩
  refine ss_cons (s_fput (se_dnew fun p6 => ?_))
  repeat fail "e"
  refine ⟨0, a, C, dx, _, rfl, rfl, R.cl, R.na _ (by decide +kernel), (by refine Nat.lt_of_le_of_lt (m := 20) ?_ (by decide); repeat (first | exact Nat.zero_le _ | refine putFD_len ?_)), ?_⟩
  refine ss_cons (s_fput ?_)
  repeat fail "e"
  refine ⟨0, a, C, dx, _, rfl, rfl, R.cl, R.na _ (by decide +kernel), (by refine Nat.lt_of_le_of_lt (m := 20) ?_ (by decide); repeat (first | exact Nat.zero_le _ | refine putFD_len ?_)), ?_⟩
  refine ss_cons (s_fput ?_)
  repeat fail "e"
  refine ⟨0, a, C, dx, _, rfl, rfl, R.cl, R.na _ (by decide +kernel), (by refine Nat.lt_of_le_of_lt (m := 20) ?_ (by decide); repeat (first | exact Nat.zero_le _ | refine putFD_len ?_)), ?_⟩
  refine ss_one (s_fput (SEL.sc (sel_lst ?_)))
  repeat fail "e"
  intro p7
  repeat fail "e"
  refine ⟨0, a, C, dx, _, rfl, rfl, R.cl, R.na _ (by decide +kernel), (by refine Nat.lt_of_le_of_lt (m := 20) ?_ (by decide); repeat (first | exact Nat.zero_le _ | refine putFD_len ?_)), ?_⟩
  exact ⟨rfl, p1, p2, p3, p4, p5, p6, p7, rfl⟩
/-- isinstance(d, C), d plain -/
theorem cv_isC {F : Fm} {X : Cx} {Γ : List Sl} {c : Cells} {Pp : Cells → Dt → Prop} {d : Dt} {b : Bool} (nr : noRaw d = true) (hk : PySem.W.kitOne X.K (.type (tyD d)) (.ref C) = some b) (p : Pp c (.bl b)) : ClV F X Γ c (.builtin "isinstance") [d, .raw (.ref C)] Pp :=
  ClV.of call_isi fun σ H vs Q S dv k => by
    cases dv with
    | cons h1 t => cases t with
      | cons h2 t =>
        cases t
        cases h2
        exact ⟨_, _, _, _, b, rfl, .own C, dv_ty (h1.mono (mask_ex _ _)) nr, hk, k _ H c _ p S (Ex.refl _) (.bl _)⟩
theorem ok_reg_eq {f : Addr} {fd : FuncData} (Fu : Fun K "__eq__" "Registry.__eq__" s_Registry___eq__ f fd) (T : Txt mg) (hC : mg "Registry" = some (.ref C)) (ks : PySem.W.kitOne K (.type "str") (.ref C) = some false) (kt : PySem.W.kitOne K (.type "tuple") (.ref C) = some false) :
    FnOk P w K mg base (L2.CX P w) 1 f fd ["self", "other"] (spEqO K C) := by
  refine fn_P Fu sc_Registry___eq__ (fun a => rfl) (fun cdv A outer s H E F d hp hr => ?_)
  have nd := sc_Registry___eq__.nd
  have h1 := T.isi
  refine ss_cons (s_if ?_)
  repeat fail "e"
  refine se_glob (u := .ref C) (v := .ref C) rfl hC rfl (fun _ => .raw _) ?_
  repeat fail "e"
  have key : noRaw d = true ∧ PySem.W.kitOne K (.type (tyD d)) (.ref C) = some false := by
    rcases hp with hp | hp
    · cases d with
      | str s => exact ⟨rfl, ks⟩
      | _ => cases hp
    · cases d with
      | tup l => exact ⟨rfl, kt⟩
      | par l => exact ⟨rfl, kt⟩
      | _ => cases hp
  refine cv_isC key.1 key.2 ?_
  repeat fail
  exact ⟨rfl, rfl⟩
end
end W
end
section
set_option Elab.async false
set_option linter.all false
set_option maxRecDepth 100000
set_option maxHeartbeats 4000000
open PySem L2 D PyProof.Rows
local macro_rules
  | `(tactic| fail "z") => `(tactic| ((try simp only [List.length_map, List.length_cons, List.length_nil, List.length_append, List.length_drop, List.length_take]); have := big_line; omega))
local macro_rules
  | `(tactic| fail) => `(tactic| first
    | ((with_reducible refine (?_ : SE _ _ _ _ _ _)); first | refine se_nm rfl ?_ | refine se_tyTuple (by assumption) ?_ | refine se_tyStr (by assumption) ?_ | refine se_tyInt (by assumption) ?_ | refine se_tyBool (by assumption) ?_ | refine se_int ?_ | refine se_str ?_ | refine se_non ?_ | refine se_bl ?_ | refine se_cmp ?_ | refine se_bin ?_ | refine se_backT ?_ | refine se_ix ?_ | refine se_slice ?_ | refine se_tup ?_ | refine se_lst ?_ | ((with_reducible refine (?_ : SE _ _ _ _ (.Call _ _ _ _) _)); first | refine se_any (by assumption) ?_ | refine se_all (by assumption) ?_ | refine se_len (by assumption) ?_ | refine se_min (by assumption) ?_ | refine se_max (by assumption) ?_ | refine se_sorted (by assumption) ?_ | refine se_isi (by assumption) ?_ | refine se_abs (by assumption) ?_ | refine se_sum (by assumption) ?_ | refine se_tupleC (by assumption) ?_ | refine se_listC (by assumption) ?_) | refine se_M rfl (by assumption) (blkOk_by rfl) ?_ | refine se_F rfl (by assumption) (blkOk_by rfl) ?_ | refine se_Dc rfl (by assumption) (blkOk_by rfl) ?_ | refine se_chain ?_ | refine se_indexN ?_ | refine se_not ?_ | refine se_if ?_ | refine se_one ?_ | refine se_and ?_ | refine se_or ?_ | refine se_neg ?_)
    | ((with_reducible refine (?_ : ST _ _ _ _ _ _)); first | refine st_cmp ?_ | refine st_chain ?_ | refine st_not ?_ | refine st_w (sw_and ?_) | refine st_w (sw_or ?_) | refine st_val ?_)
    | ((with_reducible refine (?_ : SWt _ _ _ _ _ _)); first | refine sw_and ?_ | refine sw_and1 ?_ | refine sw_or ?_ | refine sw_or1 ?_)
    | ((with_reducible refine (?_ : SA _ _ _ _ _ _)); first | refine sa_cons ?_ | refine sa_nil ?_)
    | ((with_reducible refine (?_ : SO _ _ _ _ _ _)); first | refine so_none ?_ | refine so_some ?_)
    | ((with_reducible refine (?_ : SS _ _ _ _ _ _)); first | refine ss_one ?_ | refine ss_cons ?_)
    | ((with_reducible refine (?_ : S1 _ _ _ _ _ _)); first | refine s_ret ?_ | refine s_if ?_ | refine s_M rfl (by assumption) (blkOk_by rfl) ?_ | refine s_F rfl (by assumption) (blkOk_by rfl) ?_ | refine s_Dc rfl (by assumption) (blkOk_by rfl) ?_ | refine s_st (by assumption) ?_ | refine s_aug (by assumption) rfl ?_ | refine s_asg ?_ | refine s_expr ?_)
    | ((with_reducible refine (?_ : SG _ _ _ _ _ _ _)); first | refine sg_nm (by assumption) ?_ | refine sg_par rfl ?_ | refine sg_tup rfl ?_)
    | ((with_reducible refine (?_ : SGs _ _ _ _ _ _ _)); first | refine sgs_cons ?_ | refine sgs_nil ?_)
    | ((with_reducible refine (?_ : SGb _ _ _ _ _ _ _ _)); first | refine sgb_nm (by assumption) ?_ (by first | exact vs_self | exact vs_one | exact vs_two) | refine sgb_par rfl ?_ | refine sgb_tup rfl ?_)
    | ((with_reducible refine (?_ : SGbs _ _ _ _ _ _ _ _)); first | refine sgbs_cons ?_ | refine sgbs_nil ?_)
    | ((with_reducible refine (?_ : SW _ _ _ _ _ _ _)); first | refine sw_vals ?_ | refine sw_zipT (by assumption) ?_ | refine sw_range (by assumption) ?_ | refine sw_seq ?_)
    | ((with_reducible refine (?_ : OpV _ _ _ _ _ _ _ _)); first | refine ov_eqN ?_ | refine ov_neN ?_ | refine ov_inN ?_ | refine ov_ninN ?_ | refine ov_inNT ?_ | refine ov_ninNT ?_ | refine oi_add ?_ | refine oi_catT (by fail "z") ?_ | refine ov_cat (by fail "z") ?_ | refine ov_catT (by fail "z") ?_ | refine ov_add ?_ | refine ov_sub ?_ | refine ov_lt ?_ | refine ov_le ?_ | refine ov_gt ?_ | refine ov_ge ?_ | refine ov_eqI ?_ | refine ov_neI ?_ | refine ov_eqS ?_ | refine ov_neS ?_ | refine ov_eqB ?_ | refine ov_neB ?_)
    | ((with_reducible refine (?_ : IxV _ _ _ _ _ _ _)); first | refine iv_cons ?_ | refine iv_consT ?_)
    | ((with_reducible refine (?_ : SlV _ _ _ _ _ _ _ _)); first | refine sv_fromL (by decide) ?_ | refine sv_fromT (by decide) ?_ | refine sv_toL (by decide) ?_ | refine sv_toT (by decide) ?_)
    | ((with_reducible refine (?_ : ClV _ _ _ _ _ _ _)); first | refine cv_anyM rfl ?_ | refine cv_allM rfl ?_ | refine cv_len rfl ?_ | refine cv_tuple rfl ?_ | refine cv_list rfl ?_ | refine cv_abs ?_ | refine cv_isStr rfl ?_ | refine cv_isTup rfl ?_ | refine cv_isInt rfl ?_ | refine cv_isBool rfl ?_ | refine cv_sum rfl ?_)
    | (with_reducible refine turn0I (fun _ _ _ _ _ _ => ?_)) | (with_reducible refine turn1I (fun _ _ _ _ _ _ => ?_)) | (with_reducible refine turnDI (fun _ _ _ _ _ _ => ?_)) | (with_reducible refine abI (fun _ _ _ _ _ => ?_)) | ((with_reducible show (if _ then _ else _)); first | refine iteT ?_ | refine iteF ?_) | ((with_reducible refine (?_ : And _ _)); refine And.intro (show _ ≤ sizeLine by fail "z") ?_) | ((with_reducible refine (?_ : Exists _)); refine ⟨_, rfl, ?_⟩))
local macro_rules
  | `(tactic| fail "e") => `(tactic| first
    | ((with_reducible refine (?_ : SE _ _ _ _ _ _)); first | refine se_nm rfl ?_ | refine se_tyTuple (by assumption) ?_ | refine se_tyStr (by assumption) ?_ | refine se_tyInt (by assumption) ?_ | refine se_tyBool (by assumption) ?_ | refine se_int ?_ | refine se_str ?_ | refine se_non ?_ | refine se_bl ?_ | refine se_cmp ?_ | refine se_bin ?_ | refine se_backT ?_ | refine se_ix ?_ | refine se_slice ?_ | refine se_tup ?_ | refine se_lst ?_ | ((with_reducible refine (?_ : SE _ _ _ _ (.Call _ _ _ _) _)); first | refine se_any (by assumption) ?_ | refine se_all (by assumption) ?_ | refine se_len (by assumption) ?_ | refine se_min (by assumption) ?_ | refine se_max (by assumption) ?_ | refine se_sorted (by assumption) ?_ | refine se_isi (by assumption) ?_ | refine se_abs (by assumption) ?_ | refine se_sum (by assumption) ?_ | refine se_tupleC (by assumption) ?_ | refine se_listC (by assumption) ?_) | refine se_M rfl (by assumption) (blkOk_by rfl) ?_ | refine se_F rfl (by assumption) (blkOk_by rfl) ?_ | refine se_Dc rfl (by assumption) (blkOk_by rfl) ?_ | refine se_chain ?_ | refine se_indexN ?_ | refine se_not ?_ | refine se_if ?_ | refine se_one ?_ | refine se_and ?_ | refine se_or ?_ | refine se_neg ?_)
    | ((with_reducible refine (?_ : ST _ _ _ _ _ _)); first | refine st_cmp ?_ | refine st_chain ?_ | refine st_not ?_ | refine st_w (sw_and ?_) | refine st_w (sw_or ?_) | refine st_val ?_)
    | ((with_reducible refine (?_ : SWt _ _ _ _ _ _)); first | refine sw_and ?_ | refine sw_and1 ?_ | refine sw_or ?_ | refine sw_or1 ?_)
    | ((with_reducible refine (?_ : SA _ _ _ _ _ _)); first | refine sa_cons ?_ | refine sa_nil ?_)
    | ((with_reducible refine (?_ : SO _ _ _ _ _ _)); first | refine so_none ?_ | refine so_some ?_)
    | ((with_reducible refine (?_ : SG _ _ _ _ _ _ _)); first | refine sg_nm (by assumption) ?_ | refine sg_par rfl ?_ | refine sg_tup rfl ?_)
    | ((with_reducible refine (?_ : SGs _ _ _ _ _ _ _)); first | refine sgs_cons ?_ | refine sgs_nil ?_)
    | ((with_reducible refine (?_ : SGb _ _ _ _ _ _ _ _)); first | refine sgb_nm (by assumption) ?_ (by first | exact vs_self | exact vs_one | exact vs_two) | refine sgb_par rfl ?_ | refine sgb_tup rfl ?_)
    | ((with_reducible refine (?_ : SGbs _ _ _ _ _ _ _ _)); first | refine sgbs_cons ?_ | refine sgbs_nil ?_)
    | ((with_reducible refine (?_ : SW _ _ _ _ _ _ _)); first | refine sw_vals ?_ | refine sw_zipT (by assumption) ?_ | refine sw_range (by assumption) ?_ | refine sw_seq ?_)
    | ((with_reducible refine (?_ : OpV _ _ _ _ _ _ _ _)); first | refine ov_eqN ?_ | refine ov_neN ?_ | refine ov_inN ?_ | refine ov_ninN ?_ | refine ov_inNT ?_ | refine ov_ninNT ?_ | refine oi_add ?_ | refine oi_catT (by fail "z") ?_ | refine ov_cat (by fail "z") ?_ | refine ov_catT (by fail "z") ?_ | refine ov_add ?_ | refine ov_sub ?_ | refine ov_lt ?_ | refine ov_le ?_ | refine ov_gt ?_ | refine ov_ge ?_ | refine ov_eqI ?_ | refine ov_neI ?_ | refine ov_eqS ?_ | refine ov_neS ?_ | refine ov_eqB ?_ | refine ov_neB ?_)
    | ((with_reducible refine (?_ : IxV _ _ _ _ _ _ _)); first | refine iv_cons ?_ | refine iv_consT ?_)
    | ((with_reducible refine (?_ : SlV _ _ _ _ _ _ _ _)); first | refine sv_fromL (by decide) ?_ | refine sv_fromT (by decide) ?_ | refine sv_toL (by decide) ?_ | refine sv_toT (by decide) ?_)
    | ((with_reducible refine (?_ : ClV _ _ _ _ _ _ _)); first | refine cv_anyM rfl ?_ | refine cv_allM rfl ?_ | refine cv_len rfl ?_ | refine cv_tuple rfl ?_ | refine cv_list rfl ?_ | refine cv_abs ?_ | refine cv_isStr rfl ?_ | refine cv_isTup rfl ?_ | refine cv_isInt rfl ?_ | refine cv_isBool rfl ?_ | refine cv_sum rfl ?_)
    | (with_reducible refine turn0I (fun _ _ _ _ _ _ => ?_)) | (with_reducible refine turn1I (fun _ _ _ _ _ _ => ?_)) | (with_reducible refine turnDI (fun _ _ _ _ _ _ => ?_)) | (with_reducible refine abI (fun _ _ _ _ _ => ?_)) | ((with_reducible show (if _ then _ else _)); first | refine iteT ?_ | refine iteF ?_) | ((with_reducible refine (?_ : And _ _)); refine And.intro (show _ ≤ sizeLine by fail "z") ?_) | ((with_reducible refine (?_ : Exists _)); refine ⟨_, rfl, ?_⟩))
namespace W
open PySem L2 D PyProof.Rows
def nameD : Dt → Bool
  | .str s => nameC s
  | _ => false
def rowB (call : Nm) : Dt → Bool
  | .tup [.str s] => decide (s = ("next" : Str))
  | .tup [.str x, .str n] => nameC n && (decide (x = ("say" : Str)) || (decide (x = ("call" : Str)) && decide (tl call.1 < tl n)))
  | _ => false
def bodyB (call : Nm) : Dt → Bool
  | .tup l => decide (l.length ≤ 6) && l.all (rowB call)
  | _ => false
def badD (call : Nm) : Dt → Dt
  | .tup l => if 6 < l.length then .int (-1) else match l.zipIdx.filter fun p => !rowB call p.1 with
      | [] => .non
      | p :: _ => .int (p.2 : Nat)
  | _ => .int (-1)
theorem filt_nil {α : Type} {q : α → Bool} : ∀ {l : List α} {n : Nat}, (l.zipIdx n).filter (fun p => !q p.1) = [] ↔ l.all q = true
  | [], n => by simp
  | x :: l, n => by
    rw [List.zipIdx_cons, List.filter_cons, List.all_cons]
    cases h : q x with
    | false => simp [h]
    | true => simp only [h, Bool.not_true, Bool.false_eq_true, if_false, Bool.true_and]; exact filt_nil
theorem badD_body (call : Nm) (d : Dt) : D.isNon (badD call d) = bodyB call d := by
  cases d with
  | tup l =>
    unfold badD bodyB
    by_cases h : 6 < l.length
    · simp only [if_pos h, D.isNon]
      rw [decide_eq_false (by omega)]; rfl
    · simp only [if_neg h]
      rw [decide_eq_true (by omega), Bool.true_and]
      cases h2 : l.zipIdx.filter fun p => !rowB call p.1 with
      | nil => rw [filt_nil.mp h2]; rfl
      | cons p r =>
        have : ¬ l.all (rowB call) = true := fun z => by rw [filt_nil.mpr z] at h2; cases h2
        rw [Bool.not_eq_true] at this
        rw [this]; rfl
  | _ => rfl
theorem badD_nr (call : Nm) (d : Dt) : ∀ v, badD call d ≠ .raw v := fun v => by
  cases d with
  | tup l =>
    simp only [badD]
    split
    · exact fun e => Dt.noConfusion e
    · split <;> exact fun e => Dt.noConfusion e
  | _ => exact fun e => Dt.noConfusion e
theorem rowB_notup (call : Nm) {d : Dt} (h : ¬ isTupD d = true) : rowB call d = false := by
  cases d with
  | tup l => exact absurd rfl h
  | _ => rfl
theorem isTup_ex {d : Dt} (h : isTupD d = true) (hr : ∀ l, d ≠ .par l) : ∃ l, d = .tup l := by
  cases d with
  | tup l => exact ⟨l, rfl⟩
  | par l => exact absurd rfl (hr l)
  | _ => cases h
theorem isStr_ex {d : Dt} (h : isStrD d = true) : ∃ s, d = .str s := by
  cases d with
  | str s => exact ⟨s, rfl⟩
  | _ => cases h
theorem Th.nopar {C : Addr} {d : Dt} (h : Th C d) : ∀ l, d ≠ .par l := fun l e => by subst e; cases h
theorem Th.slen {C : Addr} {s : Str} (h : Th C (.str s)) : s.length ≤ 200 := by cases h; assumption
theorem rowB_len (call : Nm) {l : List Dt} (h1 : eqOne "next" (.tup l) = false) (h2 : l.length ≠ 2) : rowB call (.tup l) = false := by
  match l, h1, h2 with
  | [], _, _ => rfl
  | [.str s], h, _ => exact h
  | [.non], _, _ => rfl
  | [.bl _], _, _ => rfl
  | [.int _], _, _ => rfl
  | [.lst _], _, _ => rfl
  | [.tup _], _, _ => rfl
  | [.par _], _, _ => rfl
  | [.dct _], _, _ => rfl
  | [.dcu _], _, _ => rfl
  | [.fzl _], _, _ => rfl
  | [.exc _ _ _], _, _ => rfl
  | [.obj _], _, _ => rfl
  | [.raw _], _, _ => rfl
  | [_, _], _, h => exact absurd rfl h
  | a :: b :: _ :: _, _, _ => cases a <;> (try rfl) <;> cases b <;> rfl
theorem eqOne_ex {s : Str} {d : Dt} (h : eqOne s d = true) : d = .tup [.str s] := by
  unfold eqOne at h
  split at h
  · rename_i t
    rw [of_decide_eq_true h]
  · cases h
theorem rowB_two (call : Nm) (x y : Dt) : rowB call (.tup [x, y]) = (isStrD x && nameD y && match x, y with | .str x, .str n => decide (x = ("say" : Str)) || (decide (x = ("call" : Str)) && decide (tl call.1 < tl n)) | _, _ => false) := by
  cases x with
  | str x =>
    cases y with
    | str n => simp [rowB, isStrD, nameD]
    | _ => rfl
  | _ => rfl
theorem rowB_one (call : Nm) (x : Dt) : rowB call (.tup [x]) = eqOne "next" (.tup [x]) := by cases x <;> rfl
theorem in12 (n : Nat) : inD (.int (n : Nat)) [.int 1, .int 2] = decide (n = 1 ∨ n = 2) := by
  have h : inD (.int (n : Nat)) [.int 1, .int 2] = (((1 : Int) == (n : Int)) || (((2 : Int) == (n : Int)) || false)) := rfl
  rw [h]
  by_cases h1 : n = 1
  · subst h1; rfl
  · by_cases h2 : n = 2
    · subst h2; rfl
    · rw [decide_eq_false (by omega), beq_eq_false_iff_ne.mpr (by omega), beq_eq_false_iff_ne.mpr (by omega)]; rfl
structure Cst (mg : Str → Option Value) : Prop where
  letters : ∃ t, mg "LETTERS" = some (.str abc t)
  mostL : ∃ t, mg "MOST_LETTERS" = some (.int 8 t)
  mostR : ∃ t, mg "MOST_ROWS" = some (.int 6 t)
  say : ∃ t, mg "SAY" = some (.str "say" t)
  next : ∃ t, mg "NEXT" = some (.str "next" t)
  call : ∃ t, mg "CALL" = some (.str "call" t)
section
variable {P : Program} {w : World} {K : PySem.W.Frag} {mg : Str → Option Value} {base : Heap} {C : Addr}
abbrev sp_is_name (K : PySem.W.Frag) : Sp := spP K (fun d : Dt => [d]) (fun d => Tame K d ∧ ∀ s, d = .str s → s.length ≤ 1000) (fun d z => z = .bl (nameD d))
theorem ok_is_name {f : Addr} {fd : FuncData} (Fu : Fun K "is_name" "is_name" s_is_name f fd) (T : Txt mg) (Cs : Cst mg) : FnOk P w K mg base (L2.CX P w) 1 f fd ["thing"] (sp_is_name K) := by
  refine fn_P Fu sc_is_name (fun a => rfl) (fun cdv A outer s H E F d hp hr => ?_)
  have nd := sc_is_name.nd
  have h1 := T.isi
  have h2 := T.str
  have h3 := T.len
  have h4 := T.all
  have hbig := big_line
  obtain ⟨t1, c1⟩ := Cs.letters
  obtain ⟨t2, c2⟩ := Cs.mostL
  obtain ⟨ht, hs⟩ := hp
  repeat fail
  refine ct_isStr ht ?_
  repeat fail "e"
  refine ite2 (fun h => ?_) (fun h => ?_)
  · obtain ⟨z, rfl⟩ := isStr_ex h
    have hz := hs z rfl
    repeat fail "e"
    refine cv_lenS (by omega) ?_
    repeat fail "e"
    refine ite2 (fun h => ?_) (fun h => ?_)
    · repeat fail "e"
      refine se_gint c2 ?_
      repeat fail "e"
      refine ite2 (fun h' => ?_) (fun h' => ?_)
      · repeat fail "e"
        refine lcM (fun a => .bl (decide (a ∈ abc.cps.toList))) (by rw [← len_tl]; omega) ?_ ?_
        · intro a ha
          repeat fail "e"
          refine se_gstr c1 ?_
          repeat fail "e"
          refine ov_inSign ?_
          exact ⟨rfl, rfl⟩
        repeat fail "e"
        refine ⟨rfl, ?_⟩
        show _ = Dt.bl (nameC z)
        unfold nameC
        rw [h, h', Bool.true_and, Bool.true_and]
      · repeat fail "e"
        refine ⟨rfl, ?_⟩
        show _ = Dt.bl (nameC z)
        unfold nameC
        rw [Bool.not_eq_true] at h'
        rw [h', Bool.false_and, Bool.and_false]
    · repeat fail "e"
      refine ⟨rfl, ?_⟩
      show _ = Dt.bl (nameC z)
      unfold nameC
      rw [Bool.not_eq_true] at h
      rw [h, Bool.false_and]
  · refine ⟨rfl, ?_⟩
    cases d with
    | str z => exact absurd rfl h
    | _ => rfl
abbrev D_is_name (P : Program) (w : World) (K : PySem.W.Frag) (mg : Str → Option Value) (base : Heap) : Prop := DefOk P w K mg base 1 "is_name_rows" ["thing"] (sp_is_name K)
abbrev sp_is_row (K : PySem.W.Frag) (C : Addr) : Sp := spP K (fun x : Nm × Dt => [nD x.1, x.2]) (fun x => Th C x.2) (fun x z => z = .bl (rowB x.1 x.2))
theorem ok_is_row {f : Addr} {fd : FuncData} (Fu : Fun K "is_row" "is_row" s_is_row f fd) (T : Txt mg) (Cs : Cst mg) (O : ObjC K C) (Eq : EqC P w K mg base 1 C) (Dn : D_is_name P w K mg base) : FnOk P w K mg base (L2.CX P w) 3 f fd ["call", "thing"] (sp_is_row K C) := by
  refine fn_P Fu sc_is_row (fun a => rfl) (fun cdv A outer s H E F x hp hr => ?_)
  obtain ⟨call, d⟩ := x
  have hd : Th C d := hp
  have nd := sc_is_row.nd
  have h1 := T.isi
  have h2 := T.str
  have h3 := T.len
  have h4 := T.tuple
  have hbig := big_line
  obtain ⟨t1, c1⟩ := Cs.say
  obtain ⟨t2, c2⟩ := Cs.next
  obtain ⟨t3, c3⟩ := Cs.call
  refine ss_cons (s_if ?_)
  repeat fail "e"
  refine se_gstr c2 ?_
  repeat fail "e"
  refine ov_eq1 Eq (hr.mono (by decide)) hd.kn hd.kn0 ?_
  repeat fail "e"
  refine ite2 (fun h => ?_) (fun h => ?_)
  · obtain rfl := eqOne_ex h
    repeat fail
    exact ⟨rfl, by show _ = Dt.bl (rowB call (.tup [.str "next"])); rw [rowB_one, h]⟩
  rw [Bool.not_eq_true] at h
  refine ss_nil (ss_cons (s_if ?_))
  repeat fail "e"
  refine ct_isTup (hd.tame O) ?_
  repeat fail "e"
  refine ite2 (fun h' => ?_) (fun h' => ?_)
  · repeat fail
    exact ⟨rfl, by rw [rowB_notup call (by simpa using h')]⟩
  obtain ⟨l, rfl⟩ := isTup_ex (by simpa using h') hd.nopar
  obtain ⟨hl, hx⟩ := hd.of_tup
  repeat fail "e"
  refine ite2 (fun h2 => ?_) (fun h2 => ?_)
  · repeat fail
    refine ⟨rfl, ?_⟩
    rw [rowB_len call h (fun z => by rw [z] at h2; simp at h2)]
  have hl2 : l.length = 2 := by
    by_cases z : ((l.length : Nat) : Int) = 2
    · omega
    · exact absurd (show (!decide (((l.length : Nat) : Int) = 2)) = true by simp [z]) h2
  match l, hl2 with
  | [a, b], _ =>
  have ha := hx a (List.mem_cons_self ..)
  have hb := hx b (List.mem_cons_of_mem _ (List.mem_cons_self ..))
  repeat fail "e"
  refine se_fP Dn (hr.mono (by decide)) ?_
  repeat fail "e"
  refine iv_tup rfl ?_
  repeat fail "e"
  refine ⟨⟨hb.tame O, fun s e => by subst e; have := hb.slen; omega⟩, ?_⟩
  rintro _ rfl
  repeat fail "e"
  refine ite2 (fun h3 => ?_) (fun h3 => ?_)
  · repeat fail
    refine ⟨rfl, ?_⟩
    rw [rowB_two]
    have : nameD b = false := by simpa using h3
    rw [this, Bool.and_false, Bool.false_and]
  have hnb : nameD b = true := by simpa using h3
  obtain ⟨n, rfl⟩ : ∃ n, b = .str n := by
    cases b with
    | str n => exact ⟨n, rfl⟩
    | _ => cases hnb
  refine ss_nil ?_
  repeat fail
  refine ct_isStr (ha.tame O) ?_
  repeat fail "e"
  refine ite2 (fun h4 => ?_) (fun h4 => ?_)
  · obtain ⟨x, rfl⟩ := isStr_ex h4
    repeat fail "e"
    refine se_gstr c1 ?_
    repeat fail "e"
    refine ite2 (fun h5 => ?_) (fun h5 => ?_)
    · refine ⟨rfl, ?_⟩
      rw [rowB_two, hnb]
      show _ = Dt.bl (decide (x = ("say" : Str)) || (decide (x = ("call" : Str)) && decide (tl call.1 < tl n)))
      rw [h5]; rfl
    repeat fail "e"
    refine se_gstr c3 ?_
    repeat fail "e"
    rw [Bool.not_eq_true] at h5
    refine ite2 (fun h6 => ?_) (fun h6 => ?_)
    · repeat fail "e"
      refine ov_gtS ⟨rfl, ?_⟩
      rw [rowB_two, hnb]
      show _ = Dt.bl (decide (x = ("say" : Str)) || (decide (x = ("call" : Str)) && decide (tl call.1 < tl n)))
      rw [h5, h6]; rfl
    · refine ⟨rfl, ?_⟩
      rw [Bool.not_eq_true] at h6
      rw [rowB_two, hnb]
      show _ = Dt.bl (decide (x = ("say" : Str)) || (decide (x = ("call" : Str)) && decide (tl call.1 < tl n)))
      rw [h5, h6]; rfl
  · refine ⟨rfl, ?_⟩
    rw [Bool.not_eq_true] at h4
    rw [rowB_two, h4]; rfl
abbrev D_is_row (P : Program) (w : World) (K : PySem.W.Frag) (mg : Str → Option Value) (base : Heap) (C : Addr) : Prop := DefOk P w K mg base 3 "is_row" ["call", "thing"] (sp_is_row K C)
abbrev sp_bad_row (K : PySem.W.Frag) (C : Addr) : Sp := spP K (fun x : Nm × Dt => [nD x.1, x.2]) (fun x => Th C x.2) (fun x z => z = badD x.1 x.2)
theorem enumD_dt (l : List Dt) : enumD l = l.zipIdx.map fun p => Dt.par [.int (p.2 : Nat), p.1] := by
  have := enumD_map id l
  rw [List.map_id] at this
  exact this
theorem ok_bad_row {f : Addr} {fd : FuncData} (Fu : Fun K "bad_row" "bad_row" s_bad_row f fd) (T : Txt mg) (Cs : Cst mg) (O : ObjC K C) (Dr : D_is_row P w K mg base C) : FnOk P w K mg base (L2.CX P w) 4 f fd ["call", "thing"] (sp_bad_row K C) := by
  refine fn_P Fu sc_bad_row (fun a => rfl) (fun cdv A outer s H E F x hp hr => ?_)
  obtain ⟨call, d⟩ := x
  have hd : Th C d := hp
  have nd := sc_bad_row.nd
  have h1 := T.isi
  have h2 := T.str
  have h3 := T.len
  have h4 := T.tuple
  have h5 := T.enumerate
  have hbig := big_line
  obtain ⟨t1, c1⟩ := Cs.mostR
  refine ss_cons (s_if ?_)
  repeat fail "e"
  refine ct_isTup (hd.tame O) ?_
  repeat fail "e"
  refine ite2 (fun h' => ?_) (fun h' => ?_)
  · repeat fail
    refine ⟨rfl, ?_⟩
    cases d with
    | tup l => cases h'
    | _ => rfl
  obtain ⟨l, rfl⟩ := isTup_ex (by simpa using h') hd.nopar
  obtain ⟨hl, hx⟩ := hd.of_tup
  repeat fail "e"
  refine se_gint c1 ?_
  repeat fail "e"
  refine ite2 (fun h2 => ?_) (fun h2 => ?_)
  · repeat fail
    refine ⟨rfl, ?_⟩
    have h2 := of_decide_eq_true h2
    show _ = badD call (.tup l)
    simp only [badD]
    rw [if_pos (by omega)]
  have h2 : ¬ 6 < l.length := fun z => h2 (decide_eq_true (by omega))
  refine ss_nil ?_
  refine ss_cons (s_F rfl nd (blkOk_by rfl) (sw_enumT h5 ?_))
  repeat fail "e"
  rw [enumD_dt]
  refine lcF (fun p : Dt × Nat => !rowB call p.1) (fun p => .int (p.2 : Nat)) (by rw [List.length_zipIdx]; omega) ?_ ?_
  · rintro ⟨e, i⟩ hm
    have he : Th C e := hx e (by have := List.mem_zipIdx hm; simp only [Nat.zero_add, Nat.sub_zero] at this; rw [this.2.2]; exact List.getElem_mem _)
    repeat fail "e"
    refine se_fP Dr (hr.mono (by decide)) ?_
    repeat fail "e"
    refine ⟨(call, e), rfl, he, ?_⟩
    rintro _ rfl
    repeat fail "e"
    refine filt_end (fun h => ?_) (fun h => ?_)
    · repeat fail "e"
      exact ⟨h, rfl, rfl⟩
    · exact ⟨rfl, h⟩
  repeat fail
  refine ov_neNil hr.units (fit_lst fun d hd => by obtain ⟨p, _, rfl⟩ := List.mem_map.mp hd; exact fit_int) ?_
  repeat fail "e"
  cases hq : l.zipIdx.filter fun p => !rowB call p.1 with
  | nil =>
    repeat fail "e"
    refine ⟨rfl, ?_⟩
    show _ = badD call (.tup l)
    simp only [badD]
    rw [if_neg h2]
    simp only [hq]
  | cons p r =>
    repeat fail "e"
    refine ⟨rfl, ?_⟩
    show _ = badD call (.tup l)
    simp only [badD]
    rw [if_neg h2]
    simp only [hq]
abbrev D_bad_row (P : Program) (w : World) (K : PySem.W.Frag) (mg : Str → Option Value) (base : Heap) (C : Addr) : Prop := DefOk P w K mg base 4 "bad_row" ["call", "thing"] (sp_bad_row K C)
abbrev sp_is_body (K : PySem.W.Frag) (C : Addr) : Sp := spP K (fun x : Nm × Dt => [nD x.1, x.2]) (fun x => Th C x.2) (fun x z => z = .bl (bodyB x.1 x.2))
theorem ok_is_body {f : Addr} {fd : FuncData} (Fu : Fun K "is_body" "is_body" s_is_body f fd) (Db : D_bad_row P w K mg base C) : FnOk P w K mg base (L2.CX P w) 5 f fd ["call", "thing"] (sp_is_body K C) := by
  refine fn_P Fu sc_is_body (fun a => rfl) (fun cdv A outer s H E F x hp hr => ?_)
  obtain ⟨call, d⟩ := x
  have hd : Th C d := hp
  have nd := sc_is_body.nd
  refine ss_one (s_ret (se_cmp ?_))
  refine se_fP Db (hr.mono (by decide)) ?_
  repeat fail "e"
  refine ⟨hd, ?_⟩
  rintro _ rfl
  repeat fail "e"
  refine ov_isN (badD_nr call d) ?_
  exact ⟨rfl, by rw [badD_body]⟩
theorem ok_l_is_name {f : Addr} {fd : FuncData} (Fu : Fun K "_law_is_name" "_law_is_name" s__law_is_name f fd) (T : Txt mg) : FnOk P w K mg base (L2.CX P w) 1 f fd ["_law_item"] (sp_is_name K) := by
  refine fn_P Fu sc__law_is_name (fun a => rfl) (fun cdv A outer s H E F d hp hr => ?_)
  have nd := sc__law_is_name.nd
  have h1 := T.isi
  have h2 := T.str
  have h3 := T.len
  have h4 := T.all
  have hbig := big_line
  obtain ⟨ht, hs⟩ := hp
  repeat fail
  refine ct_isStr ht ?_
  repeat fail "e"
  refine ite2 (fun h => ?_) (fun h => ?_)
  · obtain ⟨z, rfl⟩ := isStr_ex h
    have hz := hs z rfl
    repeat fail "e"
    refine cv_lenS (by omega) ?_
    repeat fail "e"
    refine ite2 (fun h => ?_) (fun h => ?_)
    · repeat fail "e"
      refine ite2 (fun h' => ?_) (fun h' => ?_)
      · repeat fail "e"
        refine lcM (fun a => .bl (decide (a ∈ abc.cps.toList))) (by rw [← len_tl]; omega) ?_ ?_
        · intro a ha
          repeat fail "e"
          refine ov_inSign ?_
          exact ⟨rfl, rfl⟩
        repeat fail "e"
        refine ⟨rfl, ?_⟩
        show _ = Dt.bl (nameC z)
        unfold nameC
        rw [h, h', Bool.true_and, Bool.true_and]
      · repeat fail "e"
        refine ⟨rfl, ?_⟩
        show _ = Dt.bl (nameC z)
        unfold nameC
        rw [Bool.not_eq_true] at h'
        rw [h', Bool.false_and, Bool.and_false]
    · repeat fail "e"
      refine ⟨rfl, ?_⟩
      show _ = Dt.bl (nameC z)
      unfold nameC
      rw [Bool.not_eq_true] at h
      rw [h, Bool.false_and]
  · refine ⟨rfl, ?_⟩
    cases d with
    | str z => exact absurd rfl h
    | _ => rfl
abbrev D_l_is_name (P : Program) (w : World) (K : PySem.W.Frag) (mg : Str → Option Value) (base : Heap) : Prop := DefOk P w K mg base 1 "_law_is_name" ["_law_item"] (sp_is_name K)
theorem ok_l_is_row {f : Addr} {fd : FuncData} (Fu : Fun K "_law_is_row" "_law_is_row" s__law_is_row f fd) (T : Txt mg) (O : ObjC K C) (Dn : D_l_is_name P w K mg base) : FnOk P w K mg base (L2.CX P w) 2 f fd ["_law_name", "_law_item"] (sp_is_row K C) := by
  refine fn_P Fu sc__law_is_row (fun a => rfl) (fun cdv A outer s H E F x hp hr => ?_)
  obtain ⟨call, d⟩ := x
  have hd : Th C d := hp
  have nd := sc__law_is_row.nd
  have h1 := T.isi
  have h2 := T.str
  have h3 := T.len
  have h4 := T.tuple
  have hbig := big_line
  refine ss_cons (s_if ?_)
  repeat fail "e"
  refine ct_isTup (hd.tame O) ?_
  repeat fail "e"
  refine ite2 (fun h' => ?_) (fun h' => ?_)
  · repeat fail
    exact ⟨rfl, by rw [rowB_notup call (by simpa using h')]⟩
  obtain ⟨l, rfl⟩ := isTup_ex (by simpa using h') hd.nopar
  obtain ⟨hl, hx⟩ := hd.of_tup
  repeat fail "e"
  refine ov_notIn rfl rfl rfl ?_
  repeat fail "e"
  have hin : inD (.int (l.length : Nat)) [.int 1, .int 2] = decide (l.length = 1 ∨ l.length = 2) := in12 l.length
  rw [hin]
  refine ite2 (fun h2 => ?_) (fun h2 => ?_)
  · repeat fail
    refine ⟨rfl, ?_⟩
    have h2 : ¬ (l.length = 1 ∨ l.length = 2) := fun z => by rw [decide_eq_true z] at h2; cases h2
    match l, h2 with
    | [], _ => rfl
    | [_], h => exact absurd (.inl rfl) h
    | [_, _], h => exact absurd (.inr rfl) h
    | a :: b :: _ :: _, _ => cases a <;> (try rfl) <;> cases b <;> rfl
  have h2 : l.length = 1 ∨ l.length = 2 := by
    cases hd' : decide (l.length = 1 ∨ l.length = 2) with
    | true => exact of_decide_eq_true hd'
    | false => rw [hd'] at h2; exact absurd rfl h2
  match l, h2 with
  | [a], _ =>
    have ha := hx a (List.mem_cons_self ..)
    repeat fail "e"
    refine ct_isStr (ha.tame O) ?_
    repeat fail "e"
    refine ite2 (fun h4 => ?_) (fun h4 => ?_)
    · repeat fail
      refine ⟨rfl, ?_⟩
      have h4 : isStrD a = false := by simpa using h4
      cases a with
      | str s => cases h4
      | _ => rfl
    obtain ⟨x, rfl⟩ := isStr_ex (by simpa using h4)
    refine ss_nil ?_
    repeat fail
    exact ⟨rfl, rfl⟩
  | [a, b], _ =>
    have ha := hx a (List.mem_cons_self ..)
    have hb := hx b (List.mem_cons_of_mem _ (List.mem_cons_self ..))
    repeat fail "e"
    refine ct_isStr (ha.tame O) ?_
    repeat fail "e"
    refine ite2 (fun h4 => ?_) (fun h4 => ?_)
    · repeat fail
      refine ⟨rfl, ?_⟩
      have h4 : isStrD a = false := by simpa using h4
      rw [rowB_two, h4]; rfl
    obtain ⟨x, rfl⟩ := isStr_ex (by simpa using h4)
    refine ss_nil (ss_cons (s_if ?_))
    repeat fail
    refine ss_nil (ss_cons (s_if ?_))
    repeat fail "e"
    refine se_fP Dn (hr.mono (by decide)) ?_
    repeat fail "e"
    refine iv_tup rfl ?_
    repeat fail "e"
    refine ⟨⟨hb.tame O, fun s e => by subst e; have := hb.slen; omega⟩, ?_⟩
    rintro _ rfl
    repeat fail "e"
    refine ite2 (fun h3 => ?_) (fun h3 => ?_)
    · repeat fail
      refine ⟨rfl, ?_⟩
      rw [rowB_two]
      have : nameD b = false := by simpa using h3
      rw [this, Bool.and_false, Bool.false_and]
    have hnb : nameD b = true := by simpa using h3
    obtain ⟨n, rfl⟩ : ∃ n, b = .str n := by
      cases b with
      | str n => exact ⟨n, rfl⟩
      | _ => cases hnb
    refine ss_nil ?_
    repeat fail
    refine ite2 (fun h5 => ?_) (fun h5 => ?_)
    · refine ⟨rfl, ?_⟩
      rw [rowB_two, hnb]
      show _ = Dt.bl (decide (x = ("say" : Str)) || (decide (x = ("call" : Str)) && decide (tl call.1 < tl n)))
      rw [h5]; rfl
    repeat fail "e"
    rw [Bool.not_eq_true] at h5
    refine ite2 (fun h6 => ?_) (fun h6 => ?_)
    · repeat fail "e"
      refine iv_tup rfl ?_
      repeat fail "e"
      refine ov_gtS ⟨rfl, ?_⟩
      rw [rowB_two, hnb]
      show _ = Dt.bl (decide (x = ("say" : Str)) || (decide (x = ("call" : Str)) && decide (tl call.1 < tl n)))
      rw [h5, h6]; rfl
    · refine ⟨rfl, ?_⟩
      rw [Bool.not_eq_true] at h6
      rw [rowB_two, hnb]
      show _ = Dt.bl (decide (x = ("say" : Str)) || (decide (x = ("call" : Str)) && decide (tl call.1 < tl n)))
      rw [h5, h6]; rfl
abbrev D_l_is_row (P : Program) (w : World) (K : PySem.W.Frag) (mg : Str → Option Value) (base : Heap) (C : Addr) : Prop := DefOk P w K mg base 2 "_law_is_row" ["_law_name", "_law_item"] (sp_is_row K C)
theorem ok_l_is_body {f : Addr} {fd : FuncData} (Fu : Fun K "_law_is_body" "_law_is_body" s__law_is_body f fd) (T : Txt mg) (O : ObjC K C) (Dr : D_l_is_row P w K mg base C) : FnOk P w K mg base (L2.CX P w) 3 f fd ["_law_name", "_law_item"] (sp_is_body K C) := by
  refine fn_P Fu sc__law_is_body (fun a => rfl) (fun cdv A outer s H E F x hp hr => ?_)
  obtain ⟨call, d⟩ := x
  have hd : Th C d := hp
  have nd := sc__law_is_body.nd
  have h1 := T.isi
  have h3 := T.len
  have h4 := T.tuple
  have h5 := T.all
  have hbig := big_line
  repeat fail
  refine ct_isTup (hd.tame O) ?_
  repeat fail "e"
  refine ite2 (fun h' => ?_) (fun h' => ?_)
  · obtain ⟨l, rfl⟩ := isTup_ex h' hd.nopar
    obtain ⟨hl, hx⟩ := hd.of_tup
    repeat fail "e"
    refine ite2 (fun h2 => ?_) (fun h2 => ?_)
    · have h2 := of_decide_eq_true h2
      repeat fail "e"
      rw [show l = l.map id from (List.map_id l).symm]
      refine lcM (fun e => .bl (rowB call e)) (by omega) ?_ ?_
      · intro e he
        repeat fail "e"
        refine se_fP Dr (hr.mono (by decide)) ?_
        repeat fail "e"
        refine ⟨(call, e), rfl, hx e he, ?_⟩
        rintro _ rfl
        exact ⟨rfl, rfl⟩
      repeat fail "e"
      refine ⟨rfl, ?_⟩
      show _ = Dt.bl (decide ((l.map id).length ≤ 6) && (l.map id).all (rowB call))
      rw [List.map_id, decide_eq_true (by omega), Bool.true_and]
    · refine ⟨rfl, ?_⟩
      show _ = Dt.bl (decide (l.length ≤ 6) && l.all (rowB call))
      rw [decide_eq_false (fun z => h2 (decide_eq_true (by omega))), Bool.false_and]
  · refine ⟨rfl, ?_⟩
    cases d with
    | tup l => exact absurd rfl h'
    | _ => rfl
end
end W
end
section
set_option Elab.async false
set_option linter.all false
set_option maxRecDepth 100000
set_option maxHeartbeats 8000000
open PySem L2 D PyProof.Rows
local macro_rules
  | `(tactic| fail "z") => `(tactic| ((try simp only [List.length_map, List.length_cons, List.length_nil, List.length_append, List.length_drop, List.length_take]); have := big_line; omega))
local macro_rules
  | `(tactic| fail) => `(tactic| first
    | ((with_reducible refine (?_ : SE _ _ _ _ _ _)); first | refine se_nm rfl ?_ | refine se_tyTuple (by assumption) ?_ | refine se_tyStr (by assumption) ?_ | refine se_tyInt (by assumption) ?_ | refine se_tyBool (by assumption) ?_ | refine se_int ?_ | refine se_str ?_ | refine se_non ?_ | refine se_bl ?_ | refine se_cmp ?_ | refine se_bin ?_ | refine se_backT ?_ | refine se_ix ?_ | refine se_slice ?_ | refine se_tup ?_ | refine se_lst ?_ | ((with_reducible refine (?_ : SE _ _ _ _ (.Call _ _ _ _) _)); first | refine se_any (by assumption) ?_ | refine se_all (by assumption) ?_ | refine se_len (by assumption) ?_ | refine se_min (by assumption) ?_ | refine se_max (by assumption) ?_ | refine se_sorted (by assumption) ?_ | refine se_isi (by assumption) ?_ | refine se_abs (by assumption) ?_ | refine se_sum (by assumption) ?_ | refine se_tupleC (by assumption) ?_ | refine se_listC (by assumption) ?_) | refine se_M rfl (by assumption) (blkOk_by rfl) ?_ | refine se_F rfl (by assumption) (blkOk_by rfl) ?_ | refine se_Dc rfl (by assumption) (blkOk_by rfl) ?_ | refine se_chain ?_ | refine se_indexN ?_ | refine se_not ?_ | refine se_if ?_ | refine se_one ?_ | refine se_and ?_ | refine se_or ?_ | refine se_neg ?_)
    | ((with_reducible refine (?_ : ST _ _ _ _ _ _)); first | refine st_cmp ?_ | refine st_chain ?_ | refine st_not ?_ | refine st_w (sw_and ?_) | refine st_w (sw_or ?_) | refine st_val ?_)
    | ((with_reducible refine (?_ : SWt _ _ _ _ _ _)); first | refine sw_and ?_ | refine sw_and1 ?_ | refine sw_or ?_ | refine sw_or1 ?_)
    | ((with_reducible refine (?_ : SA _ _ _ _ _ _)); first | refine sa_cons ?_ | refine sa_nil ?_)
    | ((with_reducible refine (?_ : SO _ _ _ _ _ _)); first | refine so_none ?_ | refine so_some ?_)
    | ((with_reducible refine (?_ : SS _ _ _ _ _ _)); first | refine ss_one ?_ | refine ss_cons ?_)
    | ((with_reducible refine (?_ : S1 _ _ _ _ _ _)); first | refine s_ret ?_ | refine s_if ?_ | refine s_M rfl (by assumption) (blkOk_by rfl) ?_ | refine s_F rfl (by assumption) (blkOk_by rfl) ?_ | refine s_Dc rfl (by assumption) (blkOk_by rfl) ?_ | refine s_st (by assumption) ?_ | refine s_aug (by assumption) rfl ?_ | refine s_asg ?_ | refine s_expr ?_)
    | ((with_reducible refine (?_ : SG _ _ _ _ _ _ _)); first | refine sg_nm (by assumption) ?_ | refine sg_par rfl ?_ | refine sg_tup rfl ?_)
    | ((with_reducible refine (?_ : SGs _ _ _ _ _ _ _)); first | refine sgs_cons ?_ | refine sgs_nil ?_)
    | ((with_reducible refine (?_ : SGb _ _ _ _ _ _ _ _)); first | refine sgb_nm (by assumption) ?_ (by first | exact vs_self | exact vs_one | exact vs_two) | refine sgb_par rfl ?_ | refine sgb_tup rfl ?_)
    | ((with_reducible refine (?_ : SGbs _ _ _ _ _ _ _ _)); first | refine sgbs_cons ?_ | refine sgbs_nil ?_)
    | ((with_reducible refine (?_ : SW _ _ _ _ _ _ _)); first | refine sw_vals ?_ | refine sw_zipT (by assumption) ?_ | refine sw_range (by assumption) ?_ | refine sw_seq ?_)
    | ((with_reducible refine (?_ : OpV _ _ _ _ _ _ _ _)); first | refine ov_eqN ?_ | refine ov_neN ?_ | refine ov_inN ?_ | refine ov_ninN ?_ | refine ov_inNT ?_ | refine ov_ninNT ?_ | refine oi_add ?_ | refine oi_catT (by fail "z") ?_ | refine ov_cat (by fail "z") ?_ | refine ov_catT (by fail "z") ?_ | refine ov_add ?_ | refine ov_sub ?_ | refine ov_lt ?_ | refine ov_le ?_ | refine ov_gt ?_ | refine ov_ge ?_ | refine ov_eqI ?_ | refine ov_neI ?_ | refine ov_eqS ?_ | refine ov_neS ?_ | refine ov_eqB ?_ | refine ov_neB ?_)
    | ((with_reducible refine (?_ : IxV _ _ _ _ _ _ _)); first | refine iv_cons ?_ | refine iv_consT ?_)
    | ((with_reducible refine (?_ : SlV _ _ _ _ _ _ _ _)); first | refine sv_fromL (by decide) ?_ | refine sv_fromT (by decide) ?_ | refine sv_toL (by decide) ?_ | refine sv_toT (by decide) ?_)
    | ((with_reducible refine (?_ : ClV _ _ _ _ _ _ _)); first | refine cv_anyM rfl ?_ | refine cv_allM rfl ?_ | refine cv_len rfl ?_ | refine cv_tuple rfl ?_ | refine cv_list rfl ?_ | refine cv_abs ?_ | refine cv_isStr rfl ?_ | refine cv_isTup rfl ?_ | refine cv_isInt rfl ?_ | refine cv_isBool rfl ?_ | refine cv_sum rfl ?_)
    | (with_reducible refine turn0I (fun _ _ _ _ _ _ => ?_)) | (with_reducible refine turn1I (fun _ _ _ _ _ _ => ?_)) | (with_reducible refine turnDI (fun _ _ _ _ _ _ => ?_)) | (with_reducible refine abI (fun _ _ _ _ _ => ?_)) | ((with_reducible show (if _ then _ else _)); first | refine iteT ?_ | refine iteF ?_) | ((with_reducible refine (?_ : And _ _)); refine And.intro (show _ ≤ sizeLine by fail "z") ?_) | ((with_reducible refine (?_ : Exists _)); refine ⟨_, rfl, ?_⟩))
local macro_rules
  | `(tactic| fail "e") => `(tactic| first
    | ((with_reducible refine (?_ : SE _ _ _ _ _ _)); first | refine se_nm rfl ?_ | refine se_tyTuple (by assumption) ?_ | refine se_tyStr (by assumption) ?_ | refine se_tyInt (by assumption) ?_ | refine se_tyBool (by assumption) ?_ | refine se_int ?_ | refine se_str ?_ | refine se_non ?_ | refine se_bl ?_ | refine se_cmp ?_ | refine se_bin ?_ | refine se_backT ?_ | refine se_ix ?_ | refine se_slice ?_ | refine se_tup ?_ | refine se_lst ?_ | ((with_reducible refine (?_ : SE _ _ _ _ (.Call _ _ _ _) _)); first | refine se_any (by assumption) ?_ | refine se_all (by assumption) ?_ | refine se_len (by assumption) ?_ | refine se_min (by assumption) ?_ | refine se_max (by assumption) ?_ | refine se_sorted (by assumption) ?_ | refine se_isi (by assumption) ?_ | refine se_abs (by assumption) ?_ | refine se_sum (by assumption) ?_ | refine se_tupleC (by assumption) ?_ | refine se_listC (by assumption) ?_) | refine se_M rfl (by assumption) (blkOk_by rfl) ?_ | refine se_F rfl (by assumption) (blkOk_by rfl) ?_ | refine se_Dc rfl (by assumption) (blkOk_by rfl) ?_ | refine se_chain ?_ | refine se_indexN ?_ | refine se_not ?_ | refine se_if ?_ | refine se_one ?_ | refine se_and ?_ | refine se_or ?_ | refine se_neg ?_)
    | ((with_reducible refine (?_ : ST _ _ _ _ _ _)); first | refine st_cmp ?_ | refine st_chain ?_ | refine st_not ?_ | refine st_w (sw_and ?_) | refine st_w (sw_or ?_) | refine st_val ?_)
    | ((with_reducible refine (?_ : SWt _ _ _ _ _ _)); first | refine sw_and ?_ | refine sw_and1 ?_ | refine sw_or ?_ | refine sw_or1 ?_)
    | ((with_reducible refine (?_ : SA _ _ _ _ _ _)); first | refine sa_cons ?_ | refine sa_nil ?_)
    | ((with_reducible refine (?_ : SO _ _ _ _ _ _)); first | refine so_none ?_ | refine so_some ?_)
    | ((with_reducible refine (?_ : SG _ _ _ _ _ _ _)); first | refine sg_nm (by assumption) ?_ | refine sg_par rfl ?_ | refine sg_tup rfl ?_)
    | ((with_reducible refine (?_ : SGs _ _ _ _ _ _ _)); first | refine sgs_cons ?_ | refine sgs_nil ?_)
    | ((with_reducible refine (?_ : SGb _ _ _ _ _ _ _ _)); first | refine sgb_nm (by assumption) ?_ (by first | exact vs_self | exact vs_one | exact vs_two) | refine sgb_par rfl ?_ | refine sgb_tup rfl ?_)
    | ((with_reducible refine (?_ : SGbs _ _ _ _ _ _ _ _)); first | refine sgbs_cons ?_ | refine sgbs_nil ?_)
    | ((with_reducible refine (?_ : SW _ _ _ _ _ _ _)); first | refine sw_vals ?_ | refine sw_zipT (by assumption) ?_ | refine sw_range (by assumption) ?_ | refine sw_seq ?_)
    | ((with_reducible refine (?_ : OpV _ _ _ _ _ _ _ _)); first | refine ov_eqN ?_ | refine ov_neN ?_ | refine ov_inN ?_ | refine ov_ninN ?_ | refine ov_inNT ?_ | refine ov_ninNT ?_ | refine oi_add ?_ | refine oi_catT (by fail "z") ?_ | refine ov_cat (by fail "z") ?_ | refine ov_catT (by fail "z") ?_ | refine ov_add ?_ | refine ov_sub ?_ | refine ov_lt ?_ | refine ov_le ?_ | refine ov_gt ?_ | refine ov_ge ?_ | refine ov_eqI ?_ | refine ov_neI ?_ | refine ov_eqS ?_ | refine ov_neS ?_ | refine ov_eqB ?_ | refine ov_neB ?_)
    | ((with_reducible refine (?_ : IxV _ _ _ _ _ _ _)); first | refine iv_cons ?_ | refine iv_consT ?_)
    | ((with_reducible refine (?_ : SlV _ _ _ _ _ _ _ _)); first | refine sv_fromL (by decide) ?_ | refine sv_fromT (by decide) ?_ | refine sv_toL (by decide) ?_ | refine sv_toT (by decide) ?_)
    | ((with_reducible refine (?_ : ClV _ _ _ _ _ _ _)); first | refine cv_anyM rfl ?_ | refine cv_allM rfl ?_ | refine cv_len rfl ?_ | refine cv_tuple rfl ?_ | refine cv_list rfl ?_ | refine cv_abs ?_ | refine cv_isStr rfl ?_ | refine cv_isTup rfl ?_ | refine cv_isInt rfl ?_ | refine cv_isBool rfl ?_ | refine cv_sum rfl ?_)
    | (with_reducible refine turn0I (fun _ _ _ _ _ _ => ?_)) | (with_reducible refine turn1I (fun _ _ _ _ _ _ => ?_)) | (with_reducible refine turnDI (fun _ _ _ _ _ _ => ?_)) | (with_reducible refine abI (fun _ _ _ _ _ => ?_)) | ((with_reducible show (if _ then _ else _)); first | refine iteT ?_ | refine iteF ?_) | ((with_reducible refine (?_ : And _ _)); refine And.intro (show _ ≤ sizeLine by fail "z") ?_) | ((with_reducible refine (?_ : Exists _)); refine ⟨_, rfl, ?_⟩))
namespace W
open PySem L2 D PyProof.Rows
theorem range_pre {n : Nat} {pre rest : List Nat} {k : Nat} (h : List.range n = pre ++ k :: rest) : k < n := by
  have : k ∈ List.range n := by rw [h]; simp
  exact List.mem_range.mp this
/-- a row that the law draws -/
def DrR (d : Dt) : Prop := ∃ l : List Str, d = .tup (l.map Dt.str) ∧ l.length ≤ 3 ∧ ∀ s ∈ l, s.length ≤ 12
theorem DrR.sp {d : Dt} (h : DrR d) : SpD 1 d := by
  obtain ⟨l, rfl, hl, hs⟩ := h
  refine ⟨_, rfl, by rw [List.length_map]; omega, fun x hx => ?_⟩
  obtain ⟨s, h1, rfl⟩ := List.mem_map.mp hx
  exact .inl ⟨s, rfl, by have := hs s h1; omega⟩
theorem DrR.th {C : Addr} {d : Dt} (h : DrR d) : Th C d := h.sp.th
theorem nm_len (x : Nm) : x.1.length ≤ 8 := (nameC_iff.mp x.2).2.1
theorem drR1 {a : Str} (h : a.length ≤ 12) : DrR (.tup [.str a]) := ⟨[a], rfl, by simp, fun s hs => by rw [List.mem_singleton.mp hs]; exact h⟩
theorem drR2 {a b : Str} (h : a.length ≤ 12) (h' : b.length ≤ 12) : DrR (.tup [.str a, .str b]) := ⟨[a, b], rfl, by simp, fun s hs => by
  rcases List.mem_cons.mp hs with e | hs
  · rw [e]; exact h
  · rw [List.mem_singleton.mp hs]; exact h'⟩
theorem drR3 {a b e : Str} (h : a.length ≤ 12) (h' : b.length ≤ 12) (h2 : e.length ≤ 12) : DrR (.tup [.str a, .str b, .str e]) := ⟨[a, b, e], rfl, by simp, fun s hs => by
  rcases List.mem_cons.mp hs with q | hs
  · rw [q]; exact h
  · rcases List.mem_cons.mp hs with q | hs
    · rw [q]; exact h'
    · rw [List.mem_singleton.mp hs]; exact h2⟩
abbrev nA : Nm := ⟨"a", by decide +kernel⟩
structure Lw02 (P : Program) (w : World) (K : PySem.W.Frag) (mg : Str → Option Value) (base : Heap) (C : Addr) : Prop where
  bag : DefOk P w K mg base 1 "_law_bag" ["_law_script", "_law_at"] (sp_bag K)
  take : D_take P w K mg base
  names : DefOk P w K mg base 2 "_law_names" ["_law_bag_here", "_law_many"] (sp_names K)
  spoilt : D_spoilt P w K mg base C 2
  is_body : DefOk P w K mg base 5 "is_body" ["call", "thing"] (sp_is_body K C)
  l_is_body : DefOk P w K mg base 3 "_law_is_body" ["_law_name", "_law_item"] (sp_is_body K C)
  sw : DefSw P w K mg base 5 "is_body" "call" "thing" (sp_is_body K C)
  mak : MkC P w K mg base 1 "Registry" C (initPost C)
section
variable {P : Program} {w : World} {K : PySem.W.Frag} {mg : Str → Option Value} {base : Heap} {C : Addr}
abbrev spLaw (K : PySem.W.Frag) : Sp := spP K (fun ns : List Int => [.fzl (ns.map .int)]) (fun ns => ns.length ≤ 63) (fun _ d => d = .bl true)
theorem ok_law {f : Addr} {fd : FuncData} (Fu : Fun K "law" "law" s_law f fd) (T : Txt mg) (D : Lw02 P w K mg base C) : FnOk P w K mg base (L2.CX P w) 8 f fd ["_law_script"] (spLaw K) := by
  refine fn_P Fu sc_law (fun a => rfl) (fun cdv A outer s H E F ns hp hr => ?_)
  have nd := sc_law.nd
  have hrg := T.range
  have hmin := T.min
  have hmax := T.max
  have hlen := T.len
  have htup := T.tuple
  have hisi := T.isi
  have hbool := T.bool
  have hbig := big_line
  refine ss_cons (s_for (passes_of rfl) rfl (sw_range hrg ?_))
  repeat fail "e"
  refine cv_lenF  ?_
  repeat fail "e"
  refine cv_min2 rfl ?_
  repeat fail "e"
  refine cv_max2 rfl ?_
  repeat fail "e"
  obtain ⟨m, hm⟩ : ∃ m : Nat, (m : Int) = (if (if ((ns.map Dt.int).length : Int) < 10 then ((ns.map Dt.int).length : Int) else 10) > 3 then (if ((ns.map Dt.int).length : Int) < 10 then ((ns.map Dt.int).length : Int) else 10) else 3) ∧ m ≤ 10 :=
    ⟨(if (if ((ns.map Dt.int).length : Int) < 10 then ((ns.map Dt.int).length : Int) else 10) > 3 then (if ((ns.map Dt.int).length : Int) < 10 then ((ns.map Dt.int).length : Int) else 10) else 3).toNat, by split <;> split <;> omega, by split <;> split <;> omega⟩
  rw [← hm.1]
  refine ⟨by omega, by omega, ?_⟩
  rw [Int.toNat_natCast, idxs_eq]
  refine for_t (fun rest Γ c => ∃ u1 u2 u3 u4 u5 u6 u7 u8 u9 ua ub uc ud, Γ = [.dat (.fzl (ns.map .int)), u1, u2, u3, u4, u5, u6, u7, u8, u9, ua, ub, uc, ud] ∧ c = []) ⟨_, _, _, _, _, _, _, _, _, _, _, _, _, rfl, rfl⟩ ?_ ?_
  · rintro pre k rest Γ c hl ⟨u1, u2, u3, u4, u5, u6, u7, u8, u9, ua, ub, uc, ud, rfl, rfl⟩
    have hk10 := range_pre hl
    repeat fail "e"
    refine ss_cons (s_st nd (se_fG D.bag (hr.mono (by decide)) XT.no ?_))
    repeat fail "e"
    refine ⟨(ns, (k : Int)), [], [], rfl, rfl, ⟨by omega, by omega⟩, ?_, fun _ _ z => z⟩
    rintro _ _ ⟨b, rfl, rfl⟩
    refine ss_cons (s_par 3 4 rfl nd (by decide) (sa_cons (se_fB 0 D.names (hr.mono (by decide)) ?_)))
    repeat fail "e"
    refine ⟨b, 0, 3, rfl, rfl, ⟨by omega, by omega⟩, by decide, ?_⟩
    rintro _ ⟨nms, rfl, hnl, hnd⟩
    refine sa_cons (se_lst (sa_cons (se_obj (C := C) (se_make D.mak (hr.mono (by decide)) ?_))))
    rintro a dx c' ⟨p1, p2, p3, p4, p5, p6, p7, rfl⟩
    refine ⟨[(b, .bag 10)], a, dx, _, _, rfl, rfl, ?_⟩
    repeat fail "e"
    refine ⟨_, _, rfl, ?_⟩
    obtain ⟨n0, n1, n2, rfl⟩ : ∃ n0 n1 n2, nms = [n0, n1, n2] := by
      match nms, hnl with
      | [a, b, c], _ => exact ⟨a, b, c, rfl⟩
      | [], h => simp at h
      | [_], h => simp at h
      | [_, _], h => simp at h
      | _ :: _ :: _ :: _ :: _, h => simp at h; omega
    refine ss_cons (s_par 5 6 rfl nd (by decide) (sa_cons ?_))
    repeat fail "e"
    refine se_fB 0 D.take (hr.mono (by decide)) ?_
    repeat fail "e"
    refine ⟨b, 10, 3, rfl, rfl, ⟨by decide, by decide⟩, by decide, ?_⟩
    rintro _ ⟨k1, rfl, hk10', hk11⟩
    obtain ⟨d, hd, hdm⟩ := atI_nat' (l := [n0, n1, n2].map nD) hk10' (by simpa using hk11)
    obtain ⟨nm, hnm, rfl⟩ := List.mem_map.mp hdm
    refine iv_lst hd ?_
    repeat fail "e"
    refine ov_mulS (by decide +kernel) (by decide) (by decide) ?_
    obtain ⟨zz, hzz, hzn, hzl⟩ : ∃ z : Str, Txt.mul "z" 8 = z ∧ nameC z = true ∧ decide (tl nA.1 < tl z) = true := ⟨_, rfl, by decide +kernel, by decide +kernel⟩
    rw [hzz]
    have hz12 : zz.length ≤ 8 := (nameC_iff.mp hzn).2.1
    repeat fail "e"
    refine ⟨_, _, rfl, ?_⟩
    refine ss_cons (s_st nd ?_)
    repeat fail "e"
    refine cv_maxN rfl (room65 hr) fun mx hmx => ?_
    repeat fail "e"
    generalize hrows : [Dt.tup [.str "next"], .tup [.str "say", nD n0], .tup [.str "say", .str zz], .tup [.str "call", .str zz], .tup [.str "call", nD mx]] = rows
    have hrl : rows.length = 5 := by rw [← hrows]; rfl
    have hrd : ∀ d ∈ rows, DrR d := by
      rw [← hrows]
      have hz : zz.length ≤ 12 := by omega
      have h0 := nm_len n0
      have h1 := nm_len mx
      intro d hd
      simp only [List.mem_cons, List.not_mem_nil, or_false] at hd
      rcases hd with rfl | rfl | rfl | rfl | rfl
      · exact drR1 (by decide +kernel)
      · exact drR2 (by decide +kernel) (by omega)
      · exact drR2 (by decide +kernel) hz
      · exact drR2 (by decide +kernel) hz
      · exact drR2 (by decide +kernel) (by omega)
    refine ss_cons (s_J rfl nd (blkOk_by rfl) (sw_range hrg ?_))
    repeat fail "e"
    refine se_fB 0 D.take (hr.mono (by decide)) ?_
    repeat fail "e"
    refine ⟨b, 11, 7, rfl, rfl, ⟨by decide, by decide⟩, by decide, ?_⟩
    rintro _ ⟨k2, rfl, hk20, hk21⟩
    repeat fail "e"
    refine ⟨by omega, by omega, ?_⟩
    rw [idxs_eq]
    refine lcJ id (fun i c' acc => ∃ n2, c' = [(b, .bag n2)] ∧ n2 ≤ 12 + i ∧ acc.length = i ∧ ∀ r ∈ acc, DrR r) (by rw [List.length_range]; omega) ⟨_, rfl, by show 11 + 1 ≤ _; omega, rfl, fun _ h => nomatch h⟩ ?_ ?_
    · rintro i r0 c' acc hi ⟨n2', rfl, hn2, hal, har⟩
      have hi7 : i < 7 := by
        have := (List.getElem?_eq_some_iff.mp hi).1
        rw [List.length_range] at this; omega
      repeat fail "e"
      refine se_fB 0 D.take (hr.mono (by decide)) ?_
      repeat fail "e"
      refine ⟨b, n2', 5, rfl, rfl, ⟨by decide, by decide⟩, by show n2' + 1 ≤ 1000000000; omega, ?_⟩
      rintro _ ⟨k3, rfl, hk30, hk31⟩
      obtain ⟨r, hr1, hr2⟩ := atI_nat' (l := rows) hk30 (by rw [hrl]; exact hk31)
      refine iv_lst hr1 ⟨r, rfl, _, rfl, by show n2' + 1 ≤ _; omega, by rw [List.length_append, hal]; rfl, fun z hz => ?_⟩
      rcases List.mem_append.mp hz with q | q
      · exact har z q
      · rw [List.mem_singleton.mp q]; exact hrd r hr2
    rintro c' some ⟨n2', rfl, hn2, hal, har⟩
    rw [List.length_range] at hn2 hal
    rw [List.map_id]
    have hsl : some.length ≤ 6 := by omega
    have hsome : SpD 2 (.tup some) := ⟨some, rfl, by omega, fun x hx => (har x hx).sp⟩
    have h6 : ThL C some := fun d hd => (har d hd).th
    have hrt : ThL C rows := fun d hd => (hrd d hd).th
    have hnmL := nm_len nm
    have rep : ∀ (m : Nat) (l : List Dt), ThL C l → ThL C (List.replicate m l).flatten := fun m l h d hd => by
      obtain ⟨l', h1, h2⟩ := List.mem_flatten.mp hd
      rw [(List.mem_replicate.mp h1).2] at h2
      exact h d h2
    have tk : ∀ (m : Nat) (l : List Dt), ThL C l → ThL C (l.take m) := fun m l h d hd => h d (List.mem_of_mem_take hd)
    have repl : ∀ (m : Nat) (l : List Dt), l.length ≤ 1 → m ≤ 10 → (List.replicate m l).flatten.length ≤ 2000 := fun m l h h2 => by
      rw [PyProof.Rows.lm_len_rep_flat]
      have := Nat.mul_le_mul h2 h
      omega
    refine ss_cons (s_st nd (SE.mono (P := fun c1 d => c1 = [(b, Cel.bag n2')] ∧ ∃ l, d = .lst l ∧ l.length ≤ 7 ∧ ThL C l) ?_ ?_))
    · repeat fail "e"
      refine sv_lst ?_
      repeat fail "e"
      rw [cutD_to _ (by decide)]
      refine ov_repT' (by decide) (by decide) (by rw [List.length_take]; omega) ?_
      repeat fail "e"
      refine sv_lst ?_
      repeat fail "e"
      rw [cutD_to _ (by decide)]
      refine ov_repT' (by decide) (by decide) (by rw [List.length_take]; omega) ?_
      repeat fail "e"
      refine ⟨rfl, _, rfl, by simp, ?_⟩
      refine thl_cons (th_tup (by omega) h6) (thl_cons (th_tup (repl _ _ (by rw [List.length_take]; simp; omega) (by decide)) (rep _ _ (tk _ _ h6))) (thl_cons (th_tup (repl _ _ (by rw [List.length_take]; simp; omega) (by decide)) (rep _ _ (tk _ _ (thl_app h6 hrt)))) ?_))
      exact thl_cons (.lst _) (thl_cons (th_tup (by simp) thl_nil) (thl_cons (.lst _) (thl_cons (th_tup (by simp) (thl_cons (drR2 (by decide +kernel) (by omega)).th thl_nil)) thl_nil)))
    rintro _ _ ⟨rfl, t1, rfl, hl1, ht1⟩
    refine ss_cons (s_st nd (SE.mono (P := fun c1 d => c1 = [(b, Cel.bag n2')] ∧ ∃ l, d = .lst l ∧ l.length ≤ 12 ∧ ThL C l) ?_ ?_))
    · repeat fail "e"
      refine lcM (fun x : Nm => .tup [.tup [.str "call", nD x]]) (by simp; omega) ?_ ?_
      · intro x hx
        repeat fail "e"
        exact ⟨rfl, rfl⟩
      repeat fail "e"
      refine ov_addS (by show _ + 1 ≤ _; omega) ?_
      repeat fail "e"
      refine ⟨rfl, _, rfl, by simp; omega, ?_⟩
      refine thl_app (thl_app ht1 (thl_map fun x _ => th_tup (by simp) (thl_cons (drR2 (by decide +kernel) (by have := nm_len x; omega)).th thl_nil))) ?_
      refine thl_cons (th_tup (by simp) (thl_cons (drR2 (by decide +kernel) (by decide +kernel)).th thl_nil)) (thl_cons (th_tup (by simp) (thl_cons (drR2 (by decide +kernel) ?_).th thl_nil)) thl_nil)
      rw [len_app]; show _ + 1 ≤ _; omega
    rintro _ _ ⟨rfl, t2, rfl, hl2, ht2⟩
    refine ss_cons (s_st nd (SE.mono (P := fun c1 d => c1 = [(b, Cel.bag n2')] ∧ ∃ l, d = .lst l ∧ l.length ≤ 16 ∧ ThL C l) ?_ ?_))
    · repeat fail "e"
      refine ⟨rfl, _, rfl, by simp; omega, ?_⟩
      refine thl_app ht2 ?_
      exact thl_cons (th_tup (by simp) (thl_cons (drR2 (by decide +kernel) (by decide +kernel)).th thl_nil)) (thl_cons (th_tup (by simp) (thl_cons (drR2 (by decide +kernel) (by decide +kernel)).th thl_nil)) (thl_cons (th_tup (by simp) (thl_cons (drR2 (by decide +kernel) (by decide +kernel)).th thl_nil)) (thl_cons (th_tup (by simp) (thl_cons (drR2 (by decide +kernel) (by decide +kernel)).th thl_nil)) thl_nil)))
    rintro _ _ ⟨rfl, t3, rfl, hl3, ht3⟩
    refine ss_cons (s_st nd (SE.mono (P := fun c1 d => ∃ (a : Addr) (l : List Dt), c1 = [(b, Cel.bag n2'), (a, .lst l)] ∧ d = .raw (.ref a) ∧ l.length ≤ 21 ∧ ThL C l) (SEL.sc (sel_cat ?_)) ?_))
    · repeat fail "e"
      refine fun a => ⟨a, _, rfl, rfl, by simp; omega, ?_⟩
      refine thl_app ht3 ?_
      exact thl_cons (th_tup (by simp) (thl_cons (drR2 (by decide +kernel) (by omega)).th thl_nil)) (thl_cons (th_tup (by simp) (thl_cons (.str _ (by decide +kernel)) thl_nil)) (thl_cons (th_tup (by simp) (thl_cons (drR1 (by decide +kernel)).th thl_nil)) (thl_cons (th_tup (by simp) (thl_cons (drR3 (by decide +kernel) (by omega) (by omega)).th thl_nil)) (thl_cons (th_tup (by simp) (thl_cons (drR2 (by decide +kernel) (by omega)).th thl_nil)) thl_nil))))
    rintro _ _ ⟨ad, t4, rfl, rfl, hl4, ht4⟩
    refine ss_cons (s_for (passes_of rfl) rfl (sw_range hrg ?_))
    repeat fail "e"
    refine ⟨by decide, by decide, ?_⟩
    rw [idxs_eq]
    refine for_t (fun left Γ c => ∃ va n t, Γ = [.dat (.fzl (ns.map .int)), .dat (.int (k : Int)), .dat (.raw (.ref b)), .dat (nL [n0, n1, n2]), .dat (.lst [.obj C]), .dat (nD nm), .dat (.str zz), .dat (.lst rows), .dat (.lst some), .dat (.raw (.ref ad)), va, ub, uc, ud] ∧ c = [(b, Cel.bag n), (ad, .lst t)] ∧ n + 24 * left.length ≤ 1000 ∧ t.length + left.length ≤ 31 ∧ ThL C t) ⟨_, _, _, rfl, rfl, by show _ + 24 * 10 ≤ _; omega, by show _ + 10 ≤ _; omega, ht4⟩ ?_ ?_
    · rintro pre2 tn left Γ c hl2' ⟨va, n, t, rfl, rfl, hn, htl, htt⟩
      rw [List.length_cons] at hn htl
      repeat fail "e"
      refine ss_one (s_expr (se_append 1 (a := ad) (l := t) ?_))
      repeat fail "e"
      refine ⟨rfl, ⟨_, rfl⟩, ?_⟩
      refine se_fB 0 D.spoilt (hr.mono (by decide)) ?_
      repeat fail "e"
      refine ⟨b, n, (.tup some, [()]), rfl, rfl, ⟨hsome, by show 1 ≤ 10; decide⟩, by show n + 24 ≤ 1000000000; omega, ?_⟩
      intro z hz
      refine ⟨rfl, by omega, ?_⟩
      refine ⟨_, _, _, rfl, rfl, by show n + 24 + _ ≤ _; omega, by rw [List.length_append]; show _ + 1 + _ ≤ _; omega, thl_app htt (thl_cons hz thl_nil)⟩
    rintro Γ c ⟨va, n, t, rfl, rfl, hn, htl, htt⟩
    refine ss_freeze 9 1 rfl rfl ?_
    obtain ⟨t', rfl⟩ : ∃ t' : List Dt, t = t'.map id := ⟨t, (List.map_id t).symm⟩
    rw [List.map_id] at htt htl
    refine ss_cons (s_for (passes_of rfl) rfl (sw_lst ?_))
    repeat fail "e"
    refine for_t (fun left Γ c => ∃ vb vc, Γ = [.dat (.fzl (ns.map .int)), .dat (.int (k : Int)), .dat (.raw (.ref b)), .dat (nL [n0, n1, n2]), .dat (.lst [.obj C]), .dat (nD nm), .dat (.str zz), .dat (.lst rows), .dat (.lst some), .dat (.lst (t'.map id)), va, vb, vc, ud] ∧ c = [(b, Cel.bag n)]) ⟨_, _, rfl, rfl⟩ ?_ ?_
    · rintro pre3 it left Γ c hl3' ⟨vb, vc, rfl, rfl⟩
      have hit : Th C it := htt it (by rw [hl3']; simp)
      repeat fail "e"
      refine ss_cons (s_st nd (se_fP D.is_body (hr.mono (by decide)) ?_))
      repeat fail "e"
      refine ⟨(nm, it), rfl, hit, ?_⟩
      rintro _ rfl
      refine ss_one (s_if ?_)
      repeat fail "e"
      refine se_fP D.l_is_body (hr.mono (by decide)) ?_
      repeat fail "e"
      refine ⟨(nm, it), rfl, hit, ?_⟩
      rintro _ rfl
      repeat fail "e"
      rw [decide_eq_true rfl]
      repeat fail "e"
      exact ss_nil ⟨_, _, rfl, rfl⟩
    rintro Γ c ⟨vb, vc, rfl, rfl⟩
    refine ss_one (s_if ?_)
    refine st_cmp (se_fSw D.sw (hr.mono (by decide)) ?_)
    repeat fail "e"
    refine sv_lst ?_
    rw [cutD_to _ (by decide)]
    repeat fail "e"
    refine ⟨(nA, .tup (rows.take (4 : Int).toNat)), rfl, th_tup (by rw [List.length_take]; omega) (tk _ _ hrt), ?_⟩
    rintro _ rfl
    have hb : bodyB nA (.tup (rows.take (4 : Int).toNat)) = true := by
      rw [← hrows]
      have h1 : nameC n0.1 = true := n0.2
      have h2 := hzn
      have h3 := hzl
      have e1 : rowB nA (.tup [.str "next"]) = true := by decide +kernel
      have e2 : rowB nA (.tup [.str "say", nD n0]) = true := by rw [rowB_two]; show (true && nameC n0.1 && (decide ((Str.ofString "say") = Str.ofString "say") || _)) = true; rw [h1, decide_eq_true rfl]; rfl
      have e3 : rowB nA (.tup [.str "say", .str zz]) = true := by rw [rowB_two]; show (true && nameC zz && (decide ((Str.ofString "say") = Str.ofString "say") || _)) = true; rw [h2, decide_eq_true rfl]; rfl
      have e4 : rowB nA (.tup [.str "call", .str zz]) = true := by rw [rowB_two]; show (true && nameC zz && (_ || (decide ((Str.ofString "call") = Str.ofString "call") && decide (tl nA.1 < tl zz)))) = true; rw [h2, h3, decide_eq_true rfl]; simp
      show (decide (4 ≤ 6) && List.all [Dt.tup [.str "next"], .tup [.str "say", nD n0], .tup [.str "say", .str zz], .tup [.str "call", .str zz]] (rowB nA)) = true
      rw [List.all_cons, List.all_cons, List.all_cons, List.all_cons, e1, e2, e3, e4]; rfl
    rw [hb]
    repeat fail "e"
    refine ov_notB ?_
    repeat fail "e"
    exact ss_clear (ss_nil ⟨_, _, _, _, _, _, _, _, _, _, _, _, _, rfl, rfl⟩)
  · rintro Γ c ⟨u1, u2, u3, u4, u5, u6, u7, u8, u9, ua, ub, uc, ud, rfl, rfl⟩
    repeat fail
    exact ⟨rfl, rfl⟩
end
end W
end
section
set_option Elab.async false
set_option linter.all false
set_option maxRecDepth 100000
set_option maxHeartbeats 8000000
namespace K02
open PySem L2 D W PyProof.Rows
theorem kit_ref_ty {K : PySem.W.Frag} {R : Addr} {T : String} {b : Bool} (hm : PySem.W.kitMeta T = true) (h : PySem.W.subIn K (.ref R) (.type T) = some b) : PySem.W.kitOne K (.ref R) (.type T) = some b := by
  have e : ((Value.ref R == Value.type T) = true) = False := by simp
  unfold PySem.W.kitOne
  rw [if_neg (by rw [e]; exact id)]
  show (if PySem.W.kitMeta T = true then PySem.W.subIn K (.ref R) (.type T) else none) = some b
  rw [if_pos hm, h]
theorem kit_ty_ref {K : PySem.W.Frag} {R : Addr} {T : String} {b : Bool} (h2 : PySem.W.isClsIn K R = true) (h3 : PySem.W.typeIn K (.ref R) = some (.type "type")) (h : PySem.W.subIn K (.type T) (.ref R) = some b) : PySem.W.kitOne K (.type T) (.ref R) = some b := by
  have e : ((Value.type T == Value.ref R) = true) = False := by simp
  unfold PySem.W.kitOne
  rw [if_neg (by rw [e]; exact id)]
  have e2 : ((PySem.W.clsIn K R).isSome && PySem.W.typeIn K (.ref R) == some (.type "type")) = true := by
    have h2' : (PySem.W.clsIn K R).isSome = true := h2
    rw [h2', h3] <;> rfl
  show (if ((PySem.W.clsIn K R).isSome && PySem.W.typeIn K (.ref R) == some (.type "type")) = true then PySem.W.subIn K (.type T) (.ref R) else none) = some b
  rw [if_pos e2, h]
theorem all_mk {l : PySem.W.OpenLaw} {w : World} {K : PySem.W.Frag} {h : Heap} {mg : Str → Option Value} {fa : Addr} {R : Addr} (X : K.In h) (Gg : h.Ns mainGlobals mg) (hfa : mg "law" = some (.ref fa))
    {fd0 : Addr} {odd0 and0 : Option Addr} {sld0 : Array (Option Value)} {ocd0 kVd0 dcd0 pmd0 cdd0 ctd0 : Value}
    {fd1 : Addr} {odd1 and1 : Option Addr} {sld1 : Array (Option Value)} {ocd1 kVd1 dcd1 pmd1 cdd1 ctd1 : Value}
    {fd2 : Addr} {odd2 and2 : Option Addr} {sld2 : Array (Option Value)} {ocd2 kVd2 dcd2 pmd2 cdd2 ctd2 : Value}
    {fd3 : Addr} {odd3 and3 : Option Addr} {sld3 : Array (Option Value)} {ocd3 kVd3 dcd3 pmd3 cdd3 ctd3 : Value}
    {fd4 : Addr} {odd4 and4 : Option Addr} {sld4 : Array (Option Value)} {ocd4 kVd4 dcd4 pmd4 cdd4 ctd4 : Value}
    {fd5 : Addr} {odd5 and5 : Option Addr} {sld5 : Array (Option Value)} {ocd5 kVd5 dcd5 pmd5 cdd5 ctd5 : Value}
    {fd6 : Addr} {odd6 and6 : Option Addr} {sld6 : Array (Option Value)} {ocd6 kVd6 dcd6 pmd6 cdd6 ctd6 : Value}
    {fd7 : Addr} {odd7 and7 : Option Addr} {sld7 : Array (Option Value)} {ocd7 kVd7 dcd7 pmd7 cdd7 ctd7 : Value}
    {fd8 : Addr} {odd8 and8 : Option Addr} {sld8 : Array (Option Value)} {ocd8 kVd8 dcd8 pmd8 cdd8 ctd8 : Value}
    {fd9 : Addr} {odd9 and9 : Option Addr} {sld9 : Array (Option Value)} {ocd9 kVd9 dcd9 pmd9 cdd9 ctd9 : Value}
    {fd10 : Addr} {odd10 and10 : Option Addr} {sld10 : Array (Option Value)} {ocd10 kVd10 dcd10 pmd10 cdd10 ctd10 : Value}
    {fd11 : Addr} {odd11 and11 : Option Addr} {sld11 : Array (Option Value)} {ocd11 kVd11 dcd11 pmd11 cdd11 ctd11 : Value}
    {fd12 : Addr} {odd12 and12 : Option Addr} {sld12 : Array (Option Value)} {ocd12 kVd12 dcd12 pmd12 cdd12 ctd12 : Value}
    {fmR0 : Addr} {odmR0 anmR0 : Option Addr} {slmR0 : Array (Option Value)} {ocmR0 kVmR0 dcmR0 pmmR0 cdmR0 ctmR0 : Value}
    {fmR1 : Addr} {odmR1 anmR1 : Option Addr} {slmR1 : Array (Option Value)} {ocmR1 kVmR1 dcmR1 pmmR1 cdmR1 ctmR1 : Value}
    {tLETTERS : Tok}
    {tMOST_LETTERS : Tok}
    {tMOST_ROWS : Tok}
    {tSAY : Tok}
    {tNEXT : Tok}
    {tCALL : Tok}
    (ad0 : PySem.W.nsIn K mainGlobals "is_name" = some (some (.ref fd0)))
    (ld0 : K.lookup fd0 = some ⟨ocd0, odd0, .func (PySem.W.fnOf "is_name" "is_name" (defArgs s_is_name) (defBody s_is_name) (defScope s_is_name) .none kVd0 dcd0 pmd0 and0 cdd0 ctd0), sld0⟩)
    (cd0 : PySem.W.codeIn K cdd0 "is_name" = true)
    (kd0 : PySem.W.keepIn K (.ref fd0) = true)
    (ad1 : PySem.W.nsIn K mainGlobals "is_row" = some (some (.ref fd1)))
    (ld1 : K.lookup fd1 = some ⟨ocd1, odd1, .func (PySem.W.fnOf "is_row" "is_row" (defArgs s_is_row) (defBody s_is_row) (defScope s_is_row) .none kVd1 dcd1 pmd1 and1 cdd1 ctd1), sld1⟩)
    (cd1 : PySem.W.codeIn K cdd1 "is_row" = true)
    (kd1 : PySem.W.keepIn K (.ref fd1) = true)
    (ad2 : PySem.W.nsIn K mainGlobals "bad_row" = some (some (.ref fd2)))
    (ld2 : K.lookup fd2 = some ⟨ocd2, odd2, .func (PySem.W.fnOf "bad_row" "bad_row" (defArgs s_bad_row) (defBody s_bad_row) (defScope s_bad_row) .none kVd2 dcd2 pmd2 and2 cdd2 ctd2), sld2⟩)
    (cd2 : PySem.W.codeIn K cdd2 "bad_row" = true)
    (kd2 : PySem.W.keepIn K (.ref fd2) = true)
    (ad3 : PySem.W.nsIn K mainGlobals "is_body" = some (some (.ref fd3)))
    (ld3 : K.lookup fd3 = some ⟨ocd3, odd3, .func (PySem.W.fnOf "is_body" "is_body" (defArgs s_is_body) (defBody s_is_body) (defScope s_is_body) .none kVd3 dcd3 pmd3 and3 cdd3 ctd3), sld3⟩)
    (cd3 : PySem.W.codeIn K cdd3 "is_body" = true)
    (kd3 : PySem.W.keepIn K (.ref fd3) = true)
    (ad4 : PySem.W.nsIn K mainGlobals "_law_bag" = some (some (.ref fd4)))
    (ld4 : K.lookup fd4 = some ⟨ocd4, odd4, .func (PySem.W.fnOf "_law_bag" "_law_bag" (defArgs s__law_bag) (defBody s__law_bag) (defScope s__law_bag) .none kVd4 dcd4 pmd4 and4 cdd4 ctd4), sld4⟩)
    (cd4 : PySem.W.codeIn K cdd4 "_law_bag" = true)
    (kd4 : PySem.W.keepIn K (.ref fd4) = true)
    (ad5 : PySem.W.nsIn K mainGlobals "_law_take" = some (some (.ref fd5)))
    (ld5 : K.lookup fd5 = some ⟨ocd5, odd5, .func (PySem.W.fnOf "_law_take" "_law_take" (defArgs s__law_take) (defBody s__law_take) (defScope s__law_take) .none kVd5 dcd5 pmd5 and5 cdd5 ctd5), sld5⟩)
    (cd5 : PySem.W.codeIn K cdd5 "_law_take" = true)
    (kd5 : PySem.W.keepIn K (.ref fd5) = true)
    (ad6 : PySem.W.nsIn K mainGlobals "_law_names" = some (some (.ref fd6)))
    (ld6 : K.lookup fd6 = some ⟨ocd6, odd6, .func (PySem.W.fnOf "_law_names" "_law_names" (defArgs s__law_names) (defBody s__law_names) (defScope s__law_names) .none kVd6 dcd6 pmd6 and6 cdd6 ctd6), sld6⟩)
    (cd6 : PySem.W.codeIn K cdd6 "_law_names" = true)
    (kd6 : PySem.W.keepIn K (.ref fd6) = true)
    (ad7 : PySem.W.nsIn K mainGlobals "_law_any" = some (some (.ref fd7)))
    (ld7 : K.lookup fd7 = some ⟨ocd7, odd7, .func (PySem.W.fnOf "_law_any" "_law_any" (defArgs s__law_any) (defBody s__law_any) (defScope s__law_any) .none kVd7 dcd7 pmd7 and7 cdd7 ctd7), sld7⟩)
    (cd7 : PySem.W.codeIn K cdd7 "_law_any" = true)
    (kd7 : PySem.W.keepIn K (.ref fd7) = true)
    (ad8 : PySem.W.nsIn K mainGlobals "_law_spoilt" = some (some (.ref fd8)))
    (ld8 : K.lookup fd8 = some ⟨ocd8, odd8, .func (PySem.W.fnOf "_law_spoilt" "_law_spoilt" (defArgs s__law_spoilt) (defBody s__law_spoilt) (defScope s__law_spoilt) .none kVd8 dcd8 pmd8 and8 cdd8 ctd8), sld8⟩)
    (cd8 : PySem.W.codeIn K cdd8 "_law_spoilt" = true)
    (kd8 : PySem.W.keepIn K (.ref fd8) = true)
    (ad9 : PySem.W.nsIn K mainGlobals "_law_is_name" = some (some (.ref fd9)))
    (ld9 : K.lookup fd9 = some ⟨ocd9, odd9, .func (PySem.W.fnOf "_law_is_name" "_law_is_name" (defArgs s__law_is_name) (defBody s__law_is_name) (defScope s__law_is_name) .none kVd9 dcd9 pmd9 and9 cdd9 ctd9), sld9⟩)
    (cd9 : PySem.W.codeIn K cdd9 "_law_is_name" = true)
    (kd9 : PySem.W.keepIn K (.ref fd9) = true)
    (ad10 : PySem.W.nsIn K mainGlobals "_law_is_row" = some (some (.ref fd10)))
    (ld10 : K.lookup fd10 = some ⟨ocd10, odd10, .func (PySem.W.fnOf "_law_is_row" "_law_is_row" (defArgs s__law_is_row) (defBody s__law_is_row) (defScope s__law_is_row) .none kVd10 dcd10 pmd10 and10 cdd10 ctd10), sld10⟩)
    (cd10 : PySem.W.codeIn K cdd10 "_law_is_row" = true)
    (kd10 : PySem.W.keepIn K (.ref fd10) = true)
    (ad11 : PySem.W.nsIn K mainGlobals "_law_is_body" = some (some (.ref fd11)))
    (ld11 : K.lookup fd11 = some ⟨ocd11, odd11, .func (PySem.W.fnOf "_law_is_body" "_law_is_body" (defArgs s__law_is_body) (defBody s__law_is_body) (defScope s__law_is_body) .none kVd11 dcd11 pmd11 and11 cdd11 ctd11), sld11⟩)
    (cd11 : PySem.W.codeIn K cdd11 "_law_is_body" = true)
    (kd11 : PySem.W.keepIn K (.ref fd11) = true)
    (ad12 : PySem.W.nsIn K mainGlobals "law" = some (some (.ref fd12)))
    (ld12 : K.lookup fd12 = some ⟨ocd12, odd12, .func (PySem.W.fnOf "law" "law" (defArgs s_law) (defBody s_law) (defScope s_law) .none kVd12 dcd12 pmd12 and12 cdd12 ctd12), sld12⟩)
    (cd12 : PySem.W.codeIn K cdd12 "law" = true)
    (kd12 : PySem.W.keepIn K (.ref fd12) = true)
    (aR : PySem.W.nsIn K mainGlobals "Registry" = some (some (.ref R)))
    (amR0 : PySem.W.findIn K (.ref R) "__init__" = some (some (.ref fmR0)))
    (imR0 : PySem.W.isFn K (.ref fmR0) = true)
    (lmR0 : K.lookup fmR0 = some ⟨ocmR0, odmR0, .func (PySem.W.fnOf "__init__" "Registry.__init__" (defArgs s_Registry___init__) (defBody s_Registry___init__) (defScope s_Registry___init__) .none kVmR0 dcmR0 pmmR0 anmR0 cdmR0 ctmR0), slmR0⟩)
    (cmR0 : PySem.W.codeIn K cdmR0 "Registry.__init__" = true)
    (kmR0 : PySem.W.keepIn K (.ref fmR0) = true)
    (amR1 : PySem.W.findIn K (.ref R) "__eq__" = some (some (.ref fmR1)))
    (imR1 : PySem.W.isFn K (.ref fmR1) = true)
    (lmR1 : K.lookup fmR1 = some ⟨ocmR1, odmR1, .func (PySem.W.fnOf "__eq__" "Registry.__eq__" (defArgs s_Registry___eq__) (defBody s_Registry___eq__) (defScope s_Registry___eq__) .none kVmR1 dcmR1 pmmR1 anmR1 cdmR1 ctmR1), slmR1⟩)
    (cmR1 : PySem.W.codeIn K cdmR1 "Registry.__eq__" = true)
    (kmR1 : PySem.W.keepIn K (.ref fmR1) = true)
    (pgR : PySem.W.plainGet K R Str.empty = true)
    (hdR : PySem.W.hasDictIn K R = true)
    (poR : PySem.W.plainOver K R = true)
    (saR : PySem.W.findIn K (.ref R) "__setattr__" = some (some (.builtin "object.__setattr__")))
    (mkR : PySem.W.makesIn K R = true)
    (kcR : PySem.W.keepIn K (.ref R) = true)
    (nRkind_bases : PySem.W.findIn K (.ref R) "kind_bases" = some none)
    (nRlines : PySem.W.findIn K (.ref R) "lines" = some none)
    (nRbodies : PySem.W.findIn K (.ref R) "bodies" = some none)
    (nRcache : PySem.W.findIn K (.ref R) "cache" = some none)
    (nRthings : PySem.W.findIn K (.ref R) "things" = some none)
    (nRopened_by_number : PySem.W.findIn K (.ref R) "opened_by_number" = some none)
    (nRmade : PySem.W.findIn K (.ref R) "made" = some none)
    (nRbegun : PySem.W.findIn K (.ref R) "begun" = some none)
    (nRpast : PySem.W.findIn K (.ref R) "past" = some none)
    (haR : PySem.W.findIn K (.ref R) "__class__" = some (some (.builtin "object.__class__")))
    (hnR : PySem.W.specialIn K (.builtin "object.__class__") "__get__" = some (some (.builtin "getset_descriptor.__get__")))
    (htR : PySem.W.takesIn K (.builtin "object.__class__") = some true)
    (hmR : PySem.W.mroIn K R (.type "object") = some true)
    (tCR : PySem.W.typeIn K (.ref R) = some (.type "type"))
    (iCR : PySem.W.isClsIn K R = true)
    (kisRtuple : PySem.W.subIn K (.ref R) (.type "tuple") = some false)
    (kisRstr : PySem.W.subIn K (.ref R) (.type "str") = some false)
    (kisRint : PySem.W.subIn K (.ref R) (.type "int") = some false)
    (kisRbool : PySem.W.subIn K (.ref R) (.type "bool") = some false)
    (issRstr : PySem.W.subIn K (.type "str") (.ref R) = some false)
    (issRtuple : PySem.W.subIn K (.type "tuple") (.ref R) = some false)
    (alis_name_rows : PySem.W.nsIn K mainGlobals "is_name_rows" = some (some (.ref fd0)))
    (zany : PySem.W.nsIn K mainGlobals "any" = some none)
    (zall : PySem.W.nsIn K mainGlobals "all" = some none)
    (zlen : PySem.W.nsIn K mainGlobals "len" = some none)
    (zmin : PySem.W.nsIn K mainGlobals "min" = some none)
    (zmax : PySem.W.nsIn K mainGlobals "max" = some none)
    (zabs : PySem.W.nsIn K mainGlobals "abs" = some none)
    (zisinstance : PySem.W.nsIn K mainGlobals "isinstance" = some none)
    (ztuple : PySem.W.nsIn K mainGlobals "tuple" = some none)
    (zlist : PySem.W.nsIn K mainGlobals "list" = some none)
    (zsorted : PySem.W.nsIn K mainGlobals "sorted" = some none)
    (zsum : PySem.W.nsIn K mainGlobals "sum" = some none)
    (zstr : PySem.W.nsIn K mainGlobals "str" = some none)
    (zint : PySem.W.nsIn K mainGlobals "int" = some none)
    (zbool : PySem.W.nsIn K mainGlobals "bool" = some none)
    (zrange : PySem.W.nsIn K mainGlobals "range" = some none)
    (zenumerate : PySem.W.nsIn K mainGlobals "enumerate" = some none)
    (zzip : PySem.W.nsIn K mainGlobals "zip" = some none)
    (gLETTERS : PySem.W.nsIn K mainGlobals "LETTERS" = some (some (.str "abcdefghijklmnopqrstuvwxyz" tLETTERS)))
    (gMOST_LETTERS : PySem.W.nsIn K mainGlobals "MOST_LETTERS" = some (some (.int 8 tMOST_LETTERS)))
    (gMOST_ROWS : PySem.W.nsIn K mainGlobals "MOST_ROWS" = some (some (.int 6 tMOST_ROWS)))
    (gSAY : PySem.W.nsIn K mainGlobals "SAY" = some (some (.str "say" tSAY)))
    (gNEXT : PySem.W.nsIn K mainGlobals "NEXT" = some (some (.str "next" tNEXT)))
    (gCALL : PySem.W.nsIn K mainGlobals "CALL" = some (some (.str "call" tCALL)))
    : ∃ fd : FuncData, (∀ (s : Shared) (v : Value), BindsTo s fd ⟨[v], []⟩ [("_law_script", v)]) ∧ ∀ base : Heap, K.In base → base.Ns mainGlobals mg → FnOk l.prog w K mg base (L2.CX l.prog w) 8 fa fd ["_law_script"] (spLaw K) := by
  have e := hfa.symm.trans (PySem.W.mg_of X Gg ad12)
  cases e
  have T : Txt mg := { any := PySem.W.mg_none_of X Gg zany, all := PySem.W.mg_none_of X Gg zall, len := PySem.W.mg_none_of X Gg zlen, min := PySem.W.mg_none_of X Gg zmin, max := PySem.W.mg_none_of X Gg zmax, abs := PySem.W.mg_none_of X Gg zabs, isi := PySem.W.mg_none_of X Gg zisinstance, tuple := PySem.W.mg_none_of X Gg ztuple, list := PySem.W.mg_none_of X Gg zlist, sorted := PySem.W.mg_none_of X Gg zsorted, sum := PySem.W.mg_none_of X Gg zsum, str := PySem.W.mg_none_of X Gg zstr, int := PySem.W.mg_none_of X Gg zint, bool := PySem.W.mg_none_of X Gg zbool, range := PySem.W.mg_none_of X Gg zrange, enumerate := PySem.W.mg_none_of X Gg zenumerate, zip := PySem.W.mg_none_of X Gg zzip }
  have Fd0 := fun_mk (st := s_is_name) ld0 cd0 kd0
  have Fd1 := fun_mk (st := s_is_row) ld1 cd1 kd1
  have Fd2 := fun_mk (st := s_bad_row) ld2 cd2 kd2
  have Fd3 := fun_mk (st := s_is_body) ld3 cd3 kd3
  have Fd4 := fun_mk (st := s__law_bag) ld4 cd4 kd4
  have Fd5 := fun_mk (st := s__law_take) ld5 cd5 kd5
  have Fd6 := fun_mk (st := s__law_names) ld6 cd6 kd6
  have Fd7 := fun_mk (st := s__law_any) ld7 cd7 kd7
  have Fd8 := fun_mk (st := s__law_spoilt) ld8 cd8 kd8
  have Fd9 := fun_mk (st := s__law_is_name) ld9 cd9 kd9
  have Fd10 := fun_mk (st := s__law_is_row) ld10 cd10 kd10
  have Fd11 := fun_mk (st := s__law_is_body) ld11 cd11 kd11
  have Fd12 := fun_mk (st := s_law) ld12 cd12 kd12
  have bd0 := Fd0.binds (ps := ["thing"]) fun _ _ _ _ _ _ us hl => match us, hl with | [_], _ => rfl
  have bd1 := Fd1.binds (ps := ["call", "thing"]) fun _ _ _ _ _ _ us hl => match us, hl with | [_, _], _ => rfl
  have bd2 := Fd2.binds (ps := ["call", "thing"]) fun _ _ _ _ _ _ us hl => match us, hl with | [_, _], _ => rfl
  have bd3 := Fd3.binds (ps := ["call", "thing"]) fun _ _ _ _ _ _ us hl => match us, hl with | [_, _], _ => rfl
  have bd4 := Fd4.binds (ps := ["_law_script", "_law_at"]) fun _ _ _ _ _ _ us hl => match us, hl with | [_, _], _ => rfl
  have bd5 := Fd5.binds (ps := ["_law_bag_here", "_law_many"]) fun _ _ _ _ _ _ us hl => match us, hl with | [_, _], _ => rfl
  have bd6 := Fd6.binds (ps := ["_law_bag_here", "_law_many"]) fun _ _ _ _ _ _ us hl => match us, hl with | [_, _], _ => rfl
  have bd7 := Fd7.binds (ps := ["_law_bag_here", "_law_objects"]) fun _ _ _ _ _ _ us hl => match us, hl with | [_, _], _ => rfl
  have bd8 := Fd8.binds (ps := ["_law_bag_here", "_law_item", "_law_objects"]) fun _ _ _ _ _ _ us hl => match us, hl with | [_, _, _], _ => rfl
  have bd9 := Fd9.binds (ps := ["_law_item"]) fun _ _ _ _ _ _ us hl => match us, hl with | [_], _ => rfl
  have bd10 := Fd10.binds (ps := ["_law_name", "_law_item"]) fun _ _ _ _ _ _ us hl => match us, hl with | [_, _], _ => rfl
  have bd11 := Fd11.binds (ps := ["_law_name", "_law_item"]) fun _ _ _ _ _ _ us hl => match us, hl with | [_, _], _ => rfl
  have FmR0 := fun_mk (st := s_Registry___init__) lmR0 cmR0 kmR0
  have bmR0 := FmR0.binds (ps := ["self"]) fun _ _ _ _ _ _ us hl => match us, hl with | [_], _ => rfl
  have FmR1 := fun_mk (st := s_Registry___eq__) lmR1 cmR1 kmR1
  have bmR1 := FmR1.binds (ps := ["self", "other"]) fun _ _ _ _ _ _ us hl => match us, hl with | [_, _], _ => rfl
  have kitRtuple := kit_ref_ty (T := "tuple") (by decide +kernel) kisRtuple
  have kitRstr := kit_ref_ty (T := "str") (by decide +kernel) kisRstr
  have kitRint := kit_ref_ty (T := "int") (by decide +kernel) kisRint
  have kitRbool := kit_ref_ty (T := "bool") (by decide +kernel) kisRbool
  have isoRstr := kit_ty_ref (T := "str") iCR tCR issRstr
  have isoRtuple := kit_ty_ref (T := "tuple") iCR tCR issRtuple
  have CLR : Cls K R := ⟨pgR, hdR, poR, saR⟩
  have OCR : ObjC K R := ⟨CLR, haR, hnR, htR, hmR, kitRtuple, kitRstr, kitRint, kitRbool⟩
  refine ⟨PySem.W.fnOf "law" "law" (defArgs s_law) (defBody s_law) (defScope s_law) .none kVd12 dcd12 pmd12 and12 cdd12 ctd12, fun s v => .of_eq rfl, fun base _ _ => ?_⟩
  have RC : RegC K R := ⟨CLR, fun f hf => by simp only [regFields, List.mem_cons, List.not_mem_nil, or_false] at hf; rcases hf with rfl | rfl | rfl | rfl | rfl | rfl | rfl | rfl | rfl; exact nRkind_bases; exact nRlines; exact nRbodies; exact nRcache; exact nRthings; exact nRopened_by_number; exact nRmade; exact nRbegun; exact nRpast⟩
  have MK : MkC l.prog w K mg base 1 "Registry" R (initPost R) := ⟨fmR0, _, ⟨mkR, amR0, imR0, kcR⟩, ok_reg_init FmR0 RC, PySem.W.mg_of X Gg aR, bmR0⟩
  have EQ : EqC l.prog w K mg base 1 R := ⟨fmR1, _, ok_reg_eq FmR1 T (PySem.W.mg_of X Gg aR) isoRstr isoRtuple, amR1, imR1, bmR1⟩
  have CS : Cst mg := ⟨⟨_, PySem.W.mg_of X Gg gLETTERS⟩, ⟨_, PySem.W.mg_of X Gg gMOST_LETTERS⟩, ⟨_, PySem.W.mg_of X Gg gMOST_ROWS⟩, ⟨_, PySem.W.mg_of X Gg gSAY⟩, ⟨_, PySem.W.mg_of X Gg gNEXT⟩, ⟨_, PySem.W.mg_of X Gg gCALL⟩⟩
  have D0 : DefOk l.prog w K mg base 1 "is_name" _ _ := ⟨_, _, ok_is_name Fd0 T CS, PySem.W.mg_of X Gg ad0, kd0, bd0⟩
  have DA : D_is_name l.prog w K mg base := ⟨_, _, ok_is_name Fd0 T CS, PySem.W.mg_of X Gg alis_name_rows, kd0, bd0⟩
  have D1 : DefOk l.prog w K mg base 3 "is_row" _ _ := ⟨_, _, ok_is_row Fd1 T CS OCR EQ DA, PySem.W.mg_of X Gg ad1, kd1, bd1⟩
  have D2 : DefOk l.prog w K mg base 4 "bad_row" _ _ := ⟨_, _, ok_bad_row Fd2 T CS OCR D1, PySem.W.mg_of X Gg ad2, kd2, bd2⟩
  have D3 : DefOk l.prog w K mg base 5 "is_body" _ _ := ⟨_, _, ok_is_body Fd3 D2, PySem.W.mg_of X Gg ad3, kd3, bd3⟩
  have SW : DefSw l.prog w K mg base 5 "is_body" "call" "thing" (sp_is_body K R) := ⟨_, _, ok_is_body Fd3 D2, PySem.W.mg_of X Gg ad3, kd3, kb_sw fun u v => rfl⟩
  have D4 : DefOk l.prog w K mg base 1 "_law_bag" _ _ := ⟨_, _, ok_bag Fd4 T, PySem.W.mg_of X Gg ad4, kd4, bd4⟩
  have D5 : DefOk l.prog w K mg base 1 "_law_take" _ _ := ⟨_, _, ok_take Fd5 , PySem.W.mg_of X Gg ad5, kd5, bd5⟩
  have D6 : DefOk l.prog w K mg base 2 "_law_names" _ _ := ⟨_, _, ok_names Fd6 T D5, PySem.W.mg_of X Gg ad6, kd6, bd6⟩
  have D7 : DefOk l.prog w K mg base 2 "_law_any" _ _ := ⟨_, _, ok_any (C := R) Fd7 T D5, PySem.W.mg_of X Gg ad7, kd7, bd7⟩
  have D8 : D_spoilt l.prog w K mg base R 2 := ⟨_, _, ok_spoilt Fd8 T D5 D7 (PySem.W.mg_of X Gg ad8) kd8 bd8 2, PySem.W.mg_of X Gg ad8, kd8, bd8⟩
  have D9 : DefOk l.prog w K mg base 1 "_law_is_name" _ _ := ⟨_, _, ok_l_is_name Fd9 T, PySem.W.mg_of X Gg ad9, kd9, bd9⟩
  have D10 : DefOk l.prog w K mg base 2 "_law_is_row" _ _ := ⟨_, _, ok_l_is_row Fd10 T OCR D9, PySem.W.mg_of X Gg ad10, kd10, bd10⟩
  have D11 : DefOk l.prog w K mg base 3 "_law_is_body" _ _ := ⟨_, _, ok_l_is_body Fd11 T OCR D10, PySem.W.mg_of X Gg ad11, kd11, bd11⟩
  exact ok_law Fd12 T ⟨D4, D5, D6, D8, D3, D11, SW, MK⟩
theorem sp0 {K : PySem.W.Frag} {H : Hp} {a : Addr} {ns : List Int} (hl : ns.length ≤ 63) (hS : SqL K H a (ns.map V.int)) : spLaw K [.ref a] H (fun v _ => v = .bl true) fun _ _ _ => False := by
  refine ⟨[], ns, fun x hx => absurd hx (by simp), List.nodup_nil, fun x hx => (nomatch hx), fun p hp => (nomatch hp), ?_, hl, ?_, fun _ _ _ _ _ z => z.elim⟩
  · have e : SqL K (mask [] H) a (ns.map V.int) := (by rw [mask_nil]; exact hS)
    exact .cons (.fzl e (DVs.ints ns)) .nil
  · rintro v H' C' d ⟨_, rfl⟩ _ dv
    first | (cases dv; done) | (cases dv; rfl)
theorem walk {l : PySem.W.OpenLaw} {q : Program} {loose : List Str} {XP : (Str → Option Value) → Heap → Prop} {YP : World → Heap → Prop} {d : DefRec} {K : Params → PySem.W.Frag} (hn : l.most = some 63) (hdf : d.params.defaults = [])
    (hY : ∀ (w : World) (h : Heap), YP w h → (K w.params).In h)
    (F : ∀ (w : World) (mg : Str → Option Value) (fa : Addr) (h : Heap), (K w.params).In h → h.Ns mainGlobals mg → mg d.name = some (.ref fa) →
      ∃ fd : FuncData, (∀ (s : Shared) (u : Value), BindsTo s fd ⟨[u], []⟩ [("_law_script", u)]) ∧ ∀ base : Heap, (K w.params).In base → base.Ns mainGlobals mg → FnOk l.prog w (K w.params) mg base (L2.CX l.prog w) 8 fa fd ["_law_script"] (spLaw (K w.params))) :
    PySem.W.WalkO q loose XP YP l.row.toRowW d [] (fun f vs => PySem.call f vs) :=
  L2.walk_of (n := 63) (k := 8) (x := "_law_script") (CX := fun w => L2.CX l.prog w) (sp := fun w => spLaw (K w.params)) hn (by decide) hdf ⟨rfl, by decide, by decide⟩ hY F
    (fun _ H a ns hl _ hS => sp0 hl hS) fun _ _ _ _ _ ⟨_, _, _, _, _, _, _, _, _, _, _, _, z⟩ => z
end K02
open PySem PySem.W PyProof.Rows
set_option maxRecDepth 100000 in
set_option maxHeartbeats 0 in
theorem PySem.Challenge.cw_openlines_k02_bodies_known_holds : PySem.Challenge.rw_openlines_k02_bodies_known.Holds := by
  w_on; o_law; k_head; (case hw => w_witness2)
  k_fill
  refine K02.walk (l := PySem.Challenge.rw_openlines_k02_bodies_known) rfl rfl (fun w h Y => PySem.W.km_in_of Y) ?F
  case F =>
    intro w mg fa h KX Gg hmg
    refine' K02.all_mk KX Gg hmg ?ad0 ?ld0 ?cd0 ?kd0 ?ad1 ?ld1 ?cd1 ?kd1 ?ad2 ?ld2 ?cd2 ?kd2 ?ad3 ?ld3 ?cd3 ?kd3 ?ad4 ?ld4 ?cd4 ?kd4 ?ad5 ?ld5 ?cd5 ?kd5 ?ad6 ?ld6 ?cd6 ?kd6 ?ad7 ?ld7 ?cd7 ?kd7 ?ad8 ?ld8 ?cd8 ?kd8 ?ad9 ?ld9 ?cd9 ?kd9 ?ad10 ?ld10 ?cd10 ?kd10 ?ad11 ?ld11 ?cd11 ?kd11 ?ad12 ?ld12 ?cd12 ?kd12 ?aR ?amR0 ?imR0 ?lmR0 ?cmR0 ?kmR0 ?amR1 ?imR1 ?lmR1 ?cmR1 ?kmR1 ?pgR ?hdR ?poR ?saR ?mkR ?kcR ?nRkind_bases ?nRlines ?nRbodies ?nRcache ?nRthings ?nRopened_by_number ?nRmade ?nRbegun ?nRpast ?haR ?hnR ?htR ?hmR ?tCR ?iCR ?kisRtuple ?kisRstr ?kisRint ?kisRbool ?issRstr ?issRtuple ?alis_name_rows ?zany ?zall ?zlen ?zmin ?zmax ?zabs ?zisinstance ?ztuple ?zlist ?zsorted ?zsum ?zstr ?zint ?zbool ?zrange ?zenumerate ?zzip ?gLETTERS ?gMOST_LETTERS ?gMOST_ROWS ?gSAY ?gNEXT ?gCALL
    (case ad0 => k_is)
    (case ld0 => k_is)
    (case cd0 => k_is)
    (case kd0 => k_is)
    (case ad1 => k_is)
    (case ld1 => k_is)
    (case cd1 => k_is)
    (case kd1 => k_is)
    (case ad2 => k_is)
    (case ld2 => k_is)
    (case cd2 => k_is)
    (case kd2 => k_is)
    (case ad3 => k_is)
    (case ld3 => k_is)
    (case cd3 => k_is)
    (case kd3 => k_is)
    (case ad4 => k_is)
    (case ld4 => k_is)
    (case cd4 => k_is)
    (case kd4 => k_is)
    (case ad5 => k_is)
    (case ld5 => k_is)
    (case cd5 => k_is)
    (case kd5 => k_is)
    (case ad6 => k_is)
    (case ld6 => k_is)
    (case cd6 => k_is)
    (case kd6 => k_is)
    (case ad7 => k_is)
    (case ld7 => k_is)
    (case cd7 => k_is)
    (case kd7 => k_is)
    (case ad8 => k_is)
    (case ld8 => k_is)
    (case cd8 => k_is)
    (case kd8 => k_is)
    (case ad9 => k_is)
    (case ld9 => k_is)
    (case cd9 => k_is)
    (case kd9 => k_is)
    (case ad10 => k_is)
    (case ld10 => k_is)
    (case cd10 => k_is)
    (case kd10 => k_is)
    (case ad11 => k_is)
    (case ld11 => k_is)
    (case cd11 => k_is)
    (case kd11 => k_is)
    (case ad12 => k_is)
    (case ld12 => k_is)
    (case cd12 => k_is)
    (case kd12 => k_is)
    (case aR => k_is)
    (case amR0 => k_is)
    (case imR0 => k_is)
    (case lmR0 => k_is)
    (case cmR0 => k_is)
    (case kmR0 => k_is)
    (case amR1 => k_is)
    (case imR1 => k_is)
    (case lmR1 => k_is)
    (case cmR1 => k_is)
    (case kmR1 => k_is)
    (case pgR => k_is)
    (case hdR => k_is)
    (case poR => k_is)
    (case saR => k_is)
    (case mkR => k_is)
    (case kcR => k_is)
    (case nRkind_bases => k_is)
    (case nRlines => k_is)
    (case nRbodies => k_is)
    (case nRcache => k_is)
    (case nRthings => k_is)
    (case nRopened_by_number => k_is)
    (case nRmade => k_is)
    (case nRbegun => k_is)
    (case nRpast => k_is)
    (case haR => k_is)
    (case hnR => k_is)
    (case htR => k_is)
    (case hmR => k_is)
    (case tCR => k_is)
    (case iCR => k_is)
    (case kisRtuple => k_is)
    (case kisRstr => k_is)
    (case kisRint => k_is)
    (case kisRbool => k_is)
    (case issRstr => k_is)
    (case issRtuple => k_is)
    (case alis_name_rows => k_is)
    (case zany => k_is)
    (case zall => k_is)
    (case zlen => k_is)
    (case zmin => k_is)
    (case zmax => k_is)
    (case zabs => k_is)
    (case zisinstance => k_is)
    (case ztuple => k_is)
    (case zlist => k_is)
    (case zsorted => k_is)
    (case zsum => k_is)
    (case zstr => k_is)
    (case zint => k_is)
    (case zbool => k_is)
    (case zrange => k_is)
    (case zenumerate => k_is)
    (case zzip => k_is)
    (case gLETTERS => k_is)
    (case gMOST_LETTERS => k_is)
    (case gMOST_ROWS => k_is)
    (case gSAY => k_is)
    (case gNEXT => k_is)
    (case gCALL => k_is)
#print axioms PySem.Challenge.cw_openlines_k02_bodies_known_holds
end
