import PyProof.Rows.All
import Wide.All
import OpenK.AllK
import Wide.FinOn
import HandS.ForMost
import HandS.ForExc
import HandS.ExcInit
import HandS.ExcField
import HandS.IsInst
import HandS.Flow
import HandS.Deep
import HandS.TupAny
import HandS.Evl
import HandS.Walk
import HandS.BoundDict
import HandS.DictComp
import KE.GoesMore
import PyProof.DictUpdate
import KE.DataMinMax
import HandS.Zip
import HandS.Strs
import HandS.More
import PySem.Challenge.RW_openlines_k05_whole_merges
section
set_option Elab.async false
set_option linter.all false
set_option maxRecDepth 100000
namespace D
open PySem L2
structure TEc (X : Cx) (e : Expr) (σ : L2.St) (H : Hp) (Q : VK) : Prop where
  run : ∀ pins s, Inv X pins σ H s → wpAny (model X.prog X.w) X.A (eval e X.env) (EP X pins σ Q) X.xe s
def tE (X : Cx) (e : Expr) : TE := fun σ H Q => TEc X e σ H Q
theorem pE {X : Cx} {e : Expr} : PE X e (tE X e) := ⟨fun pins s _ _ _ I h => TEc.run h pins s I⟩
theorem tE_of {X : Cx} {e : Expr} {t : TE} (h : PE X e t) {σ : L2.St} {H : Hp} {Q : VK} (q : t σ H Q) : tE X e σ H Q := ⟨fun pins s I => h.run pins s σ H Q I q⟩
structure TTc (X : Cx) (e : Expr) (σ : L2.St) (H : Hp) (Q : Bool → Hp → Prop) : Prop where
  run : ∀ pins s, Inv X pins σ H s → wpAny (model X.prog X.w) X.A (PySem.isTrue e X.env (eval e X.env)) (TP X pins σ Q) X.xe s
def tT (X : Cx) (e : Expr) : TT := fun σ H Q => TTc X e σ H Q
theorem pT {X : Cx} {e : Expr} : PT X e (tT X e) := ⟨fun pins s _ _ _ I h => TTc.run h pins s I⟩
theorem tT_of {X : Cx} {e : Expr} {t : TT} (h : PT X e t) {σ : L2.St} {H : Hp} {Q : Bool → Hp → Prop} (q : t σ H Q) : tT X e σ H Q := ⟨fun pins s I => h.run pins s σ H Q I q⟩
structure TAc (X : Cx) (es : List Expr) (σ : L2.St) (H : Hp) (Q : List V → Hp → Prop) : Prop where
  run : ∀ pos pins s, Inv X pins σ H s → wpAny (model X.prog X.w) X.A (spliced (backTo pos (starEach es X.env))) (AP X pins σ Q) X.xe s
def tAs (X : Cx) (es : List Expr) : TA := fun σ H Q => TAc X es σ H Q
theorem pAs {X : Cx} {es : List Expr} : PA X es (tAs X es) := ⟨fun pos pins s _ _ _ I h => TAc.run h pos pins s I⟩
theorem tAs_of {X : Cx} {es : List Expr} {t : TA} (h : PA X es t) {σ : L2.St} {H : Hp} {Q : List V → Hp → Prop} (q : t σ H Q) : tAs X es σ H Q := ⟨fun pos pins s I => h.run pos pins s σ H Q I q⟩
structure TSc (X : Cx) (st : Stmt) (D : Ends) (σ : L2.St) (H : Hp) : Prop where
  run : ∀ pins s, Inv X pins σ H s → wpAny (model X.prog X.w) X.A (exec st X.env) (SP X pins D) X.xe s
def tSt (X : Cx) (st : Stmt) : TS := fun D σ H => TSc X st D σ H
theorem pSt {X : Cx} {st : Stmt} : PS X st (tSt X st) := ⟨fun pins s _ _ _ I h => TSc.run h pins s I⟩
theorem tSt_of {X : Cx} {st : Stmt} {t : TS} (h : PS X st t) {D : Ends} {σ : L2.St} {H : Hp} (q : t D σ H) : tSt X st D σ H := ⟨fun pins s I => h.run pins s σ H D I q⟩
structure TSsc (X : Cx) (st : List Stmt) (D : Ends) (σ : L2.St) (H : Hp) : Prop where
  run : ∀ pins s, Inv X pins σ H s → wpAny (model X.prog X.w) X.A (execs st X.env) (SP X pins D) X.xe s
def tSts (X : Cx) (st : List Stmt) : TS := fun D σ H => TSsc X st D σ H
theorem pSts {X : Cx} {st : List Stmt} : PSs X st (tSts X st) := ⟨fun pins s _ _ _ I h => TSsc.run h pins s I⟩
theorem tSts_of {X : Cx} {st : List Stmt} {t : TS} (h : PSs X st t) {D : Ends} {σ : L2.St} {H : Hp} (q : t D σ H) : tSts X st D σ H := ⟨fun pins s I => h.run pins s σ H D I q⟩
def Ex (H H' : Hp) : Prop := ∀ a o, H a = some o → H' a = some o
theorem Ex.refl (H : Hp) : Ex H H := fun _ _ h => h
theorem Ex.trans {H H1 H2 : Hp} (a : Ex H H1) (b : Ex H1 H2) : Ex H H2 := fun x o h => b x o (a x o h)
def mask (M : List Addr) (H : Hp) : Hp := fun a => if a ∈ M then none else H a
theorem mask_in {M : List Addr} {H : Hp} {a : Addr} (h : a ∈ M) : mask M H a = none := if_pos h
theorem mask_out {M : List Addr} {H : Hp} {a : Addr} (h : a ∉ M) : mask M H a = H a := if_neg h
theorem of_mask {M : List Addr} {H : Hp} {a : Addr} {o : HO} (h : mask M H a = some o) : a ∉ M ∧ H a = some o := by
  by_cases q : a ∈ M
  · rw [mask_in q] at h; cases h
  · rw [mask_out q] at h; exact ⟨q, h⟩
theorem mask_ex (M : List Addr) (H : Hp) : Ex (mask M H) H := fun a o h => (of_mask h).2
theorem mask_nil (H : Hp) : mask [] H = H := by
  funext a; exact mask_out (by simp)
inductive Dt where
  | non | bl (b : Bool) | int (i : Int) | str (s : Str) | lst (l : List Dt) | tup (l : List Dt) | par (l : List Dt) | dct (l : List (Key × Dt)) | dcu (l : List (List Key × Dt)) | fzl (l : List Dt) | exc (a dd : Addr) (fs : List (Str × Dt)) | raw (v : V)
/-- a tuple without a dict of its own -/
def SqF (K : PySem.W.Frag) (H : Hp) (a : Addr) (xs : List V) : Prop := (∃ o : Obj, H a = some (.frz o (.tup xs)) ∧ o.dict = none) ∨ (SqT K (fun _ => none) a xs ∧ ∃ o : Obj, K.lookup a = some o ∧ o.cls = .type "tuple" ∧ o.dict = none)
theorem SqF.t {K : PySem.W.Frag} {H : Hp} {a : Addr} {xs : List V} (h : SqF K H a xs) : SqT K H a xs := by
  rcases h with ⟨o, h, _⟩ | ⟨h, _⟩
  · exact .inl (.inr ⟨o, h⟩)
  · rcases h with h | h
    · rcases h with h | ⟨o, h⟩ <;> cases h
    · exact .inr h
theorem SqF.mono {K : PySem.W.Frag} {H H' : Hp} {a : Addr} {xs : List V} (h : SqF K H a xs) (e : Ex H H') : SqF K H' a xs := by
  rcases h with ⟨o, h, d⟩ | h
  · exact .inl ⟨o, e _ _ h, d⟩
  · exact .inr h
mutual
inductive DV (K : PySem.W.Frag) (H : Hp) : V → Dt → Prop
  | non : DV K H .non .non
  | bl (b : Bool) : DV K H (.bl b) (.bl b)
  | int (i : Int) : DV K H (.int i) (.int i)
  | str (s : Str) : DV K H (.str s) (.str s)
  | lst {a : Addr} {xs : List V} {l : List Dt} : H a = some (.lst xs) → DVs K H xs l → DV K H (.ref a) (.lst l)
  | tup {a : Addr} {xs : List V} {l : List Dt} : SqF K H a xs → DVs K H xs l → DV K H (.ref a) (.tup l)
  | par {a : Addr} {xs : List V} {l : List Dt} : SqT K H a xs → DVs K H xs l → DV K H (.ref a) (.par l)
  | dct {a : Addr} {o : Obj} {xs : List (Key × V)} {l : List (Key × Dt)} : H a = some (.frz o (.dK xs)) → DVk K H xs l → DV K H (.ref a) (.dct l)
  | dcu {a : Addr} {o : Obj} {xs : List (List Key × V)} {l : List (List Key × Dt)} : H a = some (.frz o (.dT xs)) → DVu K H xs l → DV K H (.ref a) (.dcu l)
  | fzl {a : Addr} {xs : List V} {l : List Dt} : SqL K H a xs → DVs K H xs l → DV K H (.ref a) (.fzl l)
  | exc {a dd : Addr} {xs : List (Str × V)} {l : List (Str × Dt)} : H dd = some (.xd xs) → DVx K H xs l → DV K H (.ref a) (.exc a dd l)
  | raw (v : V) : DV K H v (.raw v)
inductive DVs (K : PySem.W.Frag) (H : Hp) : List V → List Dt → Prop
  | nil : DVs K H [] []
  | cons {v : V} {vs : List V} {d : Dt} {ds : List Dt} : DV K H v d → DVs K H vs ds → DVs K H (v :: vs) (d :: ds)
inductive DVk (K : PySem.W.Frag) (H : Hp) : List (Key × V) → List (Key × Dt) → Prop
  | nil : DVk K H [] []
  | cons {k : Key} {v : V} {vs : List (Key × V)} {d : Dt} {ds : List (Key × Dt)} : DV K H v d → DVk K H vs ds → DVk K H ((k, v) :: vs) ((k, d) :: ds)
inductive DVu (K : PySem.W.Frag) (H : Hp) : List (List Key × V) → List (List Key × Dt) → Prop
  | nil : DVu K H [] []
  | cons {k : List Key} {v : V} {vs : List (List Key × V)} {d : Dt} {ds : List (List Key × Dt)} : DV K H v d → DVu K H vs ds → DVu K H ((k, v) :: vs) ((k, d) :: ds)
inductive DVx (K : PySem.W.Frag) (H : Hp) : List (Str × V) → List (Str × Dt) → Prop
  | nil : DVx K H [] []
  | cons {k : Str} {v : V} {vs : List (Str × V)} {d : Dt} {ds : List (Str × Dt)} : DV K H v d → DVx K H vs ds → DVx K H ((k, v) :: vs) ((k, d) :: ds)
end
theorem ex_rd {H H' : Hp} {a : Addr} {u : HO} (e : Ex H H') (h : Rd H a u) : Rd H' a u := by
  rcases h with h | ⟨o, h⟩
  · exact Or.inl (e a _ h)
  · exact Or.inr ⟨o, e a _ h⟩
theorem ex_t {K : PySem.W.Frag} {H H' : Hp} {a : Addr} {xs : List V} (e : Ex H H') (h : SqT K H a xs) : SqT K H' a xs := by
  rcases h with h | h
  · exact Or.inl (ex_rd e h)
  · exact Or.inr h
theorem ex_l {K : PySem.W.Frag} {H H' : Hp} {a : Addr} {xs : List V} (e : Ex H H') (h : SqL K H a xs) : SqL K H' a xs := by
  rcases h with h | h
  · exact Or.inl (ex_rd e h)
  · exact Or.inr h
mutual
theorem DV.mono {K : PySem.W.Frag} {H H' : Hp} (e : Ex H H') : ∀ {v : V} {d : Dt}, DV K H v d → DV K H' v d
  | _, _, .non => .non
  | _, _, .bl b => .bl b
  | _, _, .int b => .int b
  | _, _, .str b => .str b
  | _, _, .lst h t => .lst (e _ _ h) (DVs.mono e t)
  | _, _, .tup h t => .tup (h.mono e) (DVs.mono e t)
  | _, _, .par h t => .par (ex_t e h) (DVs.mono e t)
  | _, _, .dct h t => .dct (e _ _ h) (DVk.mono e t)
  | _, _, .dcu h t => .dcu (e _ _ h) (DVu.mono e t)
  | _, _, .fzl h t => .fzl (ex_l e h) (DVs.mono e t)
  | _, _, .exc h t => .exc (e _ _ h) (DVx.mono e t)
  | _, _, .raw v => .raw v
theorem DVs.mono {K : PySem.W.Frag} {H H' : Hp} (e : Ex H H') : ∀ {v : List V} {d : List Dt}, DVs K H v d → DVs K H' v d
  | _, _, .nil => .nil
  | _, _, .cons h t => .cons (DV.mono e h) (DVs.mono e t)
theorem DVk.mono {K : PySem.W.Frag} {H H' : Hp} (e : Ex H H') : ∀ {v : List (Key × V)} {d : List (Key × Dt)}, DVk K H v d → DVk K H' v d
  | _, _, .nil => .nil
  | _, _, .cons h t => .cons (DV.mono e h) (DVk.mono e t)
theorem DVu.mono {K : PySem.W.Frag} {H H' : Hp} (e : Ex H H') : ∀ {v : List (List Key × V)} {d : List (List Key × Dt)}, DVu K H v d → DVu K H' v d
  | _, _, .nil => .nil
  | _, _, .cons h t => .cons (DV.mono e h) (DVu.mono e t)
theorem DVx.mono {K : PySem.W.Frag} {H H' : Hp} (e : Ex H H') : ∀ {v : List (Str × V)} {d : List (Str × Dt)}, DVx K H v d → DVx K H' v d
  | _, _, .nil => .nil
  | _, _, .cons h t => .cons (DV.mono e h) (DVx.mono e t)
end
theorem DVx.get {K : PySem.W.Frag} {H : Hp} {x : Str} {d : Dt} : ∀ {v : List (Str × V)} {l : List (Str × Dt)}, DVx K H v l → l.lookup x = some d → ∃ u, v.lookup x = some u ∧ DV K H u d
  | _, _, .nil, h => by cases h
  | _, _, .cons (k := k) h t, e => by
    rw [List.lookup_cons] at e ⊢
    cases q : x == k with
    | true => rw [q] at e; cases e; exact ⟨_, rfl, h⟩
    | false => rw [q] at e; exact DVx.get t e
theorem DVs.length {K : PySem.W.Frag} {H : Hp} : ∀ {v : List V} {d : List Dt}, DVs K H v d → v.length = d.length
  | _, _, .nil => rfl
  | _, _, .cons _ t => congrArg (· + 1) (DVs.length t)
theorem DVs.append {K : PySem.W.Frag} {H : Hp} : ∀ {v w : List V} {d f : List Dt}, DVs K H v d → DVs K H w f → DVs K H (v ++ w) (d ++ f)
  | _, _, _, _, .nil, t => t
  | _, _, _, _, .cons h t, u => .cons h (DVs.append t u)
theorem DVs.get {K : PySem.W.Frag} {H : Hp} : ∀ {v : List V} {d : List Dt} {i : Nat} {x : Dt}, DVs K H v d → d[i]? = some x → ∃ u, v[i]? = some u ∧ DV K H u x
  | _, _, _, _, .nil, e => by simp at e
  | _, _, 0, _, .cons h t, e => by simp at e; subst e; exact ⟨_, rfl, h⟩
  | _, _, i + 1, x, .cons h t, e => by
    obtain ⟨u, h1, h2⟩ := DVs.get (i := i) (x := x) t (by simpa using e)
    exact ⟨u, by simpa using h1, h2⟩
theorem DVs.getV {K : PySem.W.Frag} {H : Hp} : ∀ {v : List V} {d : List Dt} {i : Nat} {u : V}, DVs K H v d → v[i]? = some u → ∃ x, d[i]? = some x ∧ DV K H u x
  | _, _, _, _, .nil, e => by simp at e
  | _, _, 0, _, .cons h t, e => by simp at e; subst e; exact ⟨_, rfl, h⟩
  | _, _, i + 1, x, .cons h t, e => by
    obtain ⟨u, h1, h2⟩ := DVs.getV (i := i) (u := x) t (by simpa using e)
    exact ⟨u, by simpa using h1, h2⟩
theorem DVs.take {K : PySem.W.Frag} {H : Hp} : ∀ {v : List V} {d : List Dt} (n : Nat), DVs K H v d → DVs K H (v.take n) (d.take n)
  | _, _, 0, _ => .nil
  | _, _, _ + 1, .nil => .nil
  | _, _, n + 1, .cons h t => .cons h (DVs.take n t)
theorem DVs.drop {K : PySem.W.Frag} {H : Hp} : ∀ {v : List V} {d : List Dt} (n : Nat), DVs K H v d → DVs K H (v.drop n) (d.drop n)
  | _, _, 0, h => h
  | _, _, _ + 1, .nil => .nil
  | _, _, n + 1, .cons h t => DVs.drop n t
theorem DVs.set {K : PySem.W.Frag} {H : Hp} {u : V} {x : Dt} (hx : DV K H u x) : ∀ {v : List V} {d : List Dt} (n : Nat), DVs K H v d → DVs K H (v.set n u) (d.set n x)
  | _, _, _, .nil => .nil
  | _, _, 0, .cons h t => .cons hx t
  | _, _, n + 1, .cons h t => .cons h (DVs.set hx n t)
theorem DVs.eraseIdx {K : PySem.W.Frag} {H : Hp} : ∀ {v : List V} {d : List Dt} (n : Nat), DVs K H v d → DVs K H (v.eraseIdx n) (d.eraseIdx n)
  | _, _, _, .nil => .nil
  | _, _, 0, .cons h t => t
  | _, _, n + 1, .cons h t => .cons h (DVs.eraseIdx n t)
theorem DVs.flat {K : PySem.W.Frag} {H : Hp} {v : List V} {d : List Dt} (h : DVs K H v d) : ∀ n : Nat, DVs K H (List.replicate n v).flatten (List.replicate n d).flatten
  | 0 => .nil
  | n + 1 => by rw [List.replicate_succ, List.replicate_succ, List.flatten_cons, List.flatten_cons]; exact h.append (DVs.flat h n)
theorem DVs.strs {K : PySem.W.Frag} {H : Hp} : ∀ l : List Str, DVs K H (l.map V.str) (l.map Dt.str)
  | [] => .nil
  | s :: l => .cons (.str s) (DVs.strs l)
theorem DVs.ints {K : PySem.W.Frag} {H : Hp} : ∀ l : List Int, DVs K H (l.map V.int) (l.map Dt.int)
  | [] => .nil
  | s :: l => .cons (.int s) (DVs.ints l)
theorem DVs.of_strs {K : PySem.W.Frag} {H : Hp} : ∀ {l : List Str} {xs : List V}, DVs K H xs (l.map Dt.str) → xs = l.map V.str
  | [], _, .nil => rfl
  | s :: l, _, .cons (.str _) t => by rw [DVs.of_strs t]; rfl
theorem DVs.of_bls {K : PySem.W.Frag} {H : Hp} : ∀ {l : List Bool} {xs : List V}, DVs K H xs (l.map Dt.bl) → xs = l.map V.bl
  | [], _, .nil => rfl
  | s :: l, _, .cons (.bl _) t => by rw [DVs.of_bls t]; rfl
theorem DVs.of_ints {K : PySem.W.Frag} {H : Hp} : ∀ {l : List Int} {xs : List V}, DVs K H xs (l.map Dt.int) → xs = l.map V.int
  | [], _, .nil => rfl
  | s :: l, _, .cons (.int _) t => by rw [DVs.of_ints t]; rfl
mutual
def py : Dt → PyData
  | .non => .none
  | .bl b => .bool b
  | .int i => .int i
  | .str s => .str s
  | .lst l => .list (pys l)
  | .tup l => .tuple (pys l)
  | .par _ => .none
  | .dct _ => .none
  | .dcu _ => .none
  | .fzl _ => .none
  | .exc _ _ _ => .none
  | .raw _ => .none
def pys : List Dt → List PyData
  | [] => []
  | d :: l => py d :: pys l
end
mutual
def plain : Dt → Bool
  | .lst l => plains l
  | .tup l => plains l
  | .par _ => false
  | .dct _ => false
  | .dcu _ => false
  | .fzl _ => false
  | .exc _ _ _ => false
  | .raw _ => false
  | _ => true
def plains : List Dt → Bool
  | [] => true
  | d :: l => plain d && plains l
end
mutual
theorem DV.dp {K : PySem.W.Frag} {H : Hp} : ∀ {v : V} {d : Dt}, DV K H v d → plain d = true → Dp K H v (py d)
  | _, _, .non, _ => .non
  | _, _, .bl b, _ => .bl b
  | _, _, .int b, _ => .int b
  | _, _, .str b, _ => .str b
  | _, _, .lst h t, p => .lst (.inl (.inl h)) (DVs.dp t p)
  | _, _, .tup h t, p => .tup h.t (DVs.dp t p)
  | _, _, .par h t, p => by cases p
  | _, _, .dct h t, p => by cases p
  | _, _, .dcu h t, p => by cases p
  | _, _, .fzl h t, p => by cases p
  | _, _, .exc h t, p => by cases p
  | _, _, .raw v, p => by cases p
theorem DVs.dp {K : PySem.W.Frag} {H : Hp} : ∀ {v : List V} {d : List Dt}, DVs K H v d → plains d = true → DpAll K H v (pys d)
  | _, _, .nil, _ => .nil
  | _, _, .cons h t, p => by
    have p' := Bool.and_eq_true_iff.mp p
    exact .cons (DV.dp h p'.1) (DVs.dp t p'.2)
end
theorem pys_map : ∀ l : List Dt, pys l = l.map py
  | [] => rfl
  | d :: l => by rw [pys, pys_map l]; rfl
inductive Sl where
  | un | dat (d : Dt)
/-- what this frame, and nobody else, holds at an address -/
inductive Cel where
  | lst (l : List Dt)
  | dk (l : List (Key × Dt))
  | dt (l : List (List Key × Dt))
  | lk (o : Obj) (l : List (Key × Dt))
  | lt (o : Obj) (l : List (List Key × Dt))
  | ins (cls dx : Addr) (fs : List (Str × Dt))
  | bag (n : Nat)
  | grp (as : List Addr) (φ : Hp → Hp → Prop)
abbrev Cells := List (Addr × Cel)
def Cel.fp : Cel → List Addr
  | .grp as _ => as
  | _ => []
def addrs : Cells → List Addr
  | [] => []
  | p :: l => (p.1 :: p.2.fp) ++ addrs l
structure Fm where
  H0 : Hp
  M : List Addr
  W : List Addr
def hid (F : Fm) (C : Cells) : List Addr := addrs C ++ F.M
def BagAt (H : Hp) (b : Addr) (c : Nat) : Prop := ∃ d s k : Int, H b = some (.lst [.int d, .int s, .int k]) ∧ 0 ≤ d ∧ 0 ≤ s ∧ s < 2147483647 ∧ 0 ≤ k ∧ k ≤ (c : Int)
theorem BagAt.mono {H : Hp} {b : Addr} {c c' : Nat} (h : BagAt H b c) (l : c ≤ c') : BagAt H b c' := by
  obtain ⟨d, s, k, h1, h2, h3, h4, h5, h6⟩ := h
  exact ⟨d, s, k, h1, h2, h3, h4, h5, by omega⟩
def CelAt (K : PySem.W.Frag) (V H : Hp) (a : Addr) : Cel → Prop
  | .lst l => ∃ xs, H a = some (.lst xs) ∧ DVs K V xs l
  | .dk l => ∃ xs, H a = some (.dK xs) ∧ DVk K V xs l
  | .dt l => ∃ xs, H a = some (.dT xs) ∧ DVu K V xs l
  | .lk o l => ∃ xs, H a = some (.frz o (.dK xs)) ∧ DVk K V xs l
  | .lt o l => ∃ xs, H a = some (.frz o (.dT xs)) ∧ DVu K V xs l
  | .ins cls dx fs => ∃ xs, H a = some (.ins cls dx xs) ∧ DVx K V xs fs
  | .bag n => BagAt H a n
  | .grp as φ => (∀ x ∈ a :: as, ∃ o, H x = some o) ∧ ∀ V' H', Ex V V' → (∀ x ∈ a :: as, H' x = H x) → φ V' H'
theorem CelAt.live {K : PySem.W.Frag} {V H : Hp} {a : Addr} {q : Cel} (h : CelAt K V H a q) : ∀ x ∈ a :: q.fp, ∃ o, H x = some o := fun x hx => by
  cases q with
  | lst l => obtain ⟨xs, e, _⟩ := h; cases List.mem_singleton.mp hx; exact ⟨_, e⟩
  | dk l => obtain ⟨xs, e, _⟩ := h; cases List.mem_singleton.mp hx; exact ⟨_, e⟩
  | dt l => obtain ⟨xs, e, _⟩ := h; cases List.mem_singleton.mp hx; exact ⟨_, e⟩
  | lk o l => obtain ⟨xs, e, _⟩ := h; cases List.mem_singleton.mp hx; exact ⟨_, e⟩
  | lt o l => obtain ⟨xs, e, _⟩ := h; cases List.mem_singleton.mp hx; exact ⟨_, e⟩
  | ins c dx l => obtain ⟨xs, e, _⟩ := h; cases List.mem_singleton.mp hx; exact ⟨_, e⟩
  | bag n => obtain ⟨_, _, _, e, _⟩ := h; cases List.mem_singleton.mp hx; exact ⟨_, e⟩
  | grp as φ => exact h.1 x hx
theorem CelAt.mono {K : PySem.W.Frag} {V V' H H' : Hp} {a : Addr} {q : Cel} (h : CelAt K V H a q) (e : Ex V V') (k : ∀ x ∈ a :: q.fp, H' x = H x) : CelAt K V' H' a q := by
  have ka := k a (List.mem_cons_self ..)
  cases q with
  | lst l => obtain ⟨xs, h1, h2⟩ := h; exact ⟨xs, ka.trans h1, h2.mono e⟩
  | dk l => obtain ⟨xs, h1, h2⟩ := h; exact ⟨xs, ka.trans h1, h2.mono e⟩
  | dt l => obtain ⟨xs, h1, h2⟩ := h; exact ⟨xs, ka.trans h1, h2.mono e⟩
  | lk o l => obtain ⟨xs, h1, h2⟩ := h; exact ⟨xs, ka.trans h1, h2.mono e⟩
  | lt o l => obtain ⟨xs, h1, h2⟩ := h; exact ⟨xs, ka.trans h1, h2.mono e⟩
  | ins c dx l => obtain ⟨xs, h1, h2⟩ := h; exact ⟨xs, ka.trans h1, h2.mono e⟩
  | bag n => obtain ⟨d, s, m, h1, r⟩ := h; exact ⟨d, s, m, ka.trans h1, r⟩
  | grp as φ => exact ⟨fun x hx => by rw [k x hx]; exact h.1 x hx, fun V2 H2 e2 k2 => h.2 V2 H2 (e.trans e2) fun x hx => (k2 x hx).trans (k x hx)⟩
theorem addrs_app : ∀ (C C' : Cells), addrs (C ++ C') = addrs C ++ addrs C'
  | [], _ => rfl
  | p :: C, C' => by
    show (p.1 :: p.2.fp) ++ addrs (C ++ C') = ((p.1 :: p.2.fp) ++ addrs C) ++ addrs C'
    rw [addrs_app C C', List.append_assoc]
theorem mem_addrs {p : Addr × Cel} {x : Addr} : ∀ {C : Cells}, p ∈ C → x ∈ p.1 :: p.2.fp → x ∈ addrs C
  | [], h, _ => nomatch h
  | q :: C, h, hx => by
    rcases List.mem_cons.mp h with h | h
    · subst h; exact List.mem_append_left _ hx
    · exact List.mem_append_right _ (mem_addrs h hx)
theorem of_addrs {x : Addr} : ∀ {C : Cells}, x ∈ addrs C → ∃ p ∈ C, x ∈ p.1 :: p.2.fp
  | [], h => nomatch h
  | q :: C, h => by
    rcases List.mem_append.mp h with h | h
    · exact ⟨q, List.mem_cons_self .., h⟩
    · obtain ⟨p, h1, h2⟩ := of_addrs h
      exact ⟨p, List.mem_cons_of_mem _ h1, h2⟩
structure SI (K : PySem.W.Frag) (F : Fm) (Γ : List Sl) (C : Cells) (σ : L2.St) (H : Hp) : Prop where
  len : σ.length = Γ.length
  nd : (addrs C).Nodup
  sl : ∀ (i : Nat) (d : Dt), Γ[i]? = some (.dat d) → ∃ v, σ[i]? = some (some v) ∧ DV K (mask (hid F C) H) v d
  ce : ∀ p ∈ C, CelAt K (mask (hid F C) H) H p.1 p.2
  keep : Ex (mask F.W F.H0) (mask F.W H)
  fr : ∀ a ∈ addrs C, (a ∈ F.W ∨ F.H0 a = none) ∧ a ∉ F.M
  live : ∀ a ∈ F.M, ∃ o, H a = some o
  wl : ∀ a ∈ F.W, ∃ o, H a = some o
abbrev Vw (F : Fm) (C : Cells) (H : Hp) : Hp := mask (hid F C) H
def Kp (F : Fm) (H H' : Hp) : Prop := Ex H H'
section
variable {K : PySem.W.Frag} {F : Fm} {Γ : List Sl} {C C' : Cells} {σ : L2.St} {H H' : Hp}
theorem Kp.hid (e : Kp F H H') : Ex (Vw F C H) (Vw F C H') := fun a o q => by
  obtain ⟨n, q⟩ := of_mask q
  show mask _ _ _ = _
  rw [mask_out n]
  exact e a o q
theorem SI.cat (S : SI K F Γ C σ H) {j : Nat} {a : Addr} {q : Cel} (hj : C[j]? = some (a, q)) : CelAt K (Vw F C H) H a q := S.ce _ (List.mem_of_getElem? hj)
theorem SI.hlive (S : SI K F Γ C σ H) : ∀ x ∈ hid F C, ∃ o, H x = some o := fun x hx => by
  rcases List.mem_append.mp hx with z | z
  · obtain ⟨p, h1, h2⟩ := of_addrs z
    exact (S.ce p h1).live x h2
  · exact S.live x z
theorem SI.fresh (S : SI K F Γ C σ H) {p : Addr} (h : H p = none) : p ∉ hid F C := fun z => by
  obtain ⟨o, e⟩ := S.hlive p z
  rw [h] at e; cases e
theorem SI.h0 (S : SI K F Γ C σ H) {p : Addr} (h : H p = none) : F.H0 p = none := by
  cases e : F.H0 p with
  | none => rfl
  | some o =>
    have nw : p ∉ F.W := fun z => by
      obtain ⟨o, e⟩ := S.wl p z
      rw [h] at e; cases e
    have q := (of_mask (S.keep p o (by rw [mask_out nw]; exact e))).2
    rw [h] at q; cases q
/-- THE STEP: nothing is lost -/
theorem SI.step (S : SI K F Γ C σ H) (e : Ex H H') : SI K F Γ C σ H' := by
  have ev : Ex (Vw F C H) (Vw F C H') := Kp.hid (F := F) e
  refine ⟨S.len, S.nd, fun i d hi => ?_, fun p hp => ?_, fun a o q => ?_, S.fr, fun a ha => ?_, fun a ha => ?_⟩
  · obtain ⟨v, h1, h2⟩ := S.sl i d hi
    exact ⟨v, h1, h2.mono ev⟩
  · refine (S.ce p hp).mono ev fun x hx => ?_
    obtain ⟨o, h⟩ := (S.ce p hp).live x hx
    rw [h, e x o h]
  · have h1 := S.keep a o q
    obtain ⟨n, h1⟩ := of_mask h1
    rw [mask_out n]
    exact e a o h1
  · obtain ⟨o, q⟩ := S.live a ha; exact ⟨o, e a o q⟩
  · obtain ⟨o, q⟩ := S.wl a ha; exact ⟨o, e a o q⟩
theorem Kp.new {p : Addr} {o : HO} (h : H p = none) : Kp F H (upd H p o) := fun a u q => by
  rw [upd_ne (ne_of_none q h)]
  exact q
theorem SI.new (S : SI K F Γ C σ H) {p : Addr} {o : HO} (h : H p = none) : SI K F Γ C σ (upd H p o) := S.step (Kp.new (F := F) h)
theorem SI.newL (S : SI K F Γ C σ H) {p : Addr} {xs : List V} {l : List Dt} (h : H p = none) (d : DVs K (mask (hid F C) H) xs l) : DV K (mask (hid F C) (upd H p (.lst xs))) (.ref p) (.lst l) :=
  .lst (by rw [mask_out (S.fresh h)]; exact upd_same) (d.mono (Kp.new (F := F) h).hid)
theorem SI.newT (S : SI K F Γ C σ H) {p : Addr} {xs : List V} {l : List Dt} {o : Obj} (h : H p = none) (ho : o.dict = none) (d : DVs K (mask (hid F C) H) xs l) : DV K (mask (hid F C) (upd H p (.frz o (.tup xs)))) (.ref p) (.tup l) :=
  .tup (.inl ⟨o, by rw [mask_out (S.fresh h)]; exact upd_same, ho⟩) (d.mono (Kp.new (F := F) h).hid)
theorem SI.newP (S : SI K F Γ C σ H) {p : Addr} {xs : List V} {l : List Dt} (h : H p = none) (d : DVs K (mask (hid F C) H) xs l) : DV K (mask (hid F C) (upd H p (.tup xs))) (.ref p) (.par l) :=
  .par (.inl (.inl (by rw [mask_out (S.fresh h)]; exact upd_same))) (d.mono (Kp.new (F := F) h).hid)
theorem SI.setS (S : SI K F Γ C σ H) {i : Nat} {s : Sl} {o : Option V} (hok : ∀ d, s = .dat d → ∃ v, o = some v ∧ DV K (Vw F C H) v d) : SI K F (Γ.set i s) C (σ.set i o) H := by
  refine ⟨by rw [List.length_set, List.length_set]; exact S.len, S.nd, fun j d hj => ?_, S.ce, S.keep, S.fr, S.live, S.wl⟩
  by_cases hij : i = j
  · subst hij
    have hl : i < Γ.length := by
      have := (List.getElem?_eq_some_iff.mp hj).1
      rwa [List.length_set] at this
    rw [List.getElem?_set_self hl] at hj
    rw [List.getElem?_set_self (by rw [S.len]; exact hl)]
    obtain ⟨v, h1, h2⟩ := hok d (Option.some.inj hj)
    exact ⟨v, by rw [h1], h2⟩
  · rw [List.getElem?_set_ne hij] at hj
    rw [List.getElem?_set_ne hij]
    exact S.sl j d hj
theorem SI.setD (S : SI K F Γ C σ H) {i : Nat} {v : V} {d : Dt} (dv : DV K (Vw F C H) v d) : SI K F (Γ.set i (.dat d)) C (σ.set i (some v)) H :=
  S.setS fun d' e => by cases e; exact ⟨v, rfl, dv⟩
theorem addrs_set {a : Addr} {q q' : Cel} (hf : q'.fp = q.fp) : ∀ {C : Cells} {j : Nat}, C[j]? = some (a, q) → addrs (C.set j (a, q')) = addrs C
  | [], j, h => by simp at h
  | p :: C, 0, h => by
    simp at h
    subst h
    show (a :: q'.fp) ++ addrs C = (a :: q.fp) ++ addrs C
    rw [hf]
  | p :: C, j + 1, h => by
    show (p.1 :: p.2.fp) ++ addrs (C.set j (a, q')) = (p.1 :: p.2.fp) ++ addrs C
    rw [addrs_set hf (j := j) (by simpa using h)]
theorem addrs_apart {p : Addr × Cel} {a : Addr} {q : Cel} {x : Addr} : ∀ {C : Cells} {i j : Nat}, (addrs C).Nodup → C[j]? = some (a, q) → C[i]? = some p → i ≠ j → x ∈ a :: q.fp → x ∉ p.1 :: p.2.fp
  | [], i, j, _, h, _, _, _ => by simp at h
  | u :: C, 0, 0, _, _, _, n, _ => absurd rfl n
  | u :: C, 0, j + 1, nd, h1, h2, _, hx => by
    simp at h2; subst h2
    intro z
    exact (List.nodup_append.mp nd).2.2 x z x (mem_addrs (List.mem_of_getElem? (show C[j]? = some (a, q) by simpa using h1)) hx) rfl
  | u :: C, i + 1, 0, nd, h1, h2, _, hx => by
    simp at h1; subst h1
    intro z
    exact (List.nodup_append.mp nd).2.2 x hx x (mem_addrs (List.mem_of_getElem? (show C[i]? = some p by simpa using h2)) z) rfl
  | u :: C, i + 1, j + 1, nd, h1, h2, n, hx => addrs_apart (C := C) (i := i) (j := j) (List.nodup_append.mp nd).2.1 (by simpa using h1) (by simpa using h2) (by omega) hx
/-- the cell j changed, its addresses kept; only they change -/
theorem SI.chg (S : SI K F Γ C σ H) {j : Nat} {a : Addr} {q q' : Cel} (hj : C[j]? = some (a, q)) (hf : q'.fp = q.fp) (hk : ∀ x, x ∉ a :: q.fp → H' x = H x) (hq : CelAt K (Vw F C H) H' a q') :
    SI K F Γ (C.set j (a, q')) σ H' ∧ Ex (Vw F C H) (Vw F (C.set j (a, q')) H') := by
  have ha : ∀ x ∈ a :: q.fp, x ∈ addrs C := fun x hx => mem_addrs (List.mem_of_getElem? hj) hx
  have he : hid F (C.set j (a, q')) = hid F C := by unfold hid; rw [addrs_set hf hj]
  have ev : Vw F (C.set j (a, q')) H' = Vw F C H := by
    funext x
    show mask _ _ _ = mask _ _ _
    rw [he]
    by_cases hx : x ∈ hid F C
    · rw [mask_in hx, mask_in hx]
    · rw [mask_out hx, mask_out hx, hk x fun z => hx (List.mem_append_left _ (ha x z))]
  refine ⟨⟨S.len, by rw [addrs_set hf hj]; exact S.nd, fun i d hi => ?_, fun p hp => ?_, fun x o z => ?_, by rw [addrs_set hf hj]; exact S.fr, fun x hx => ?_, fun x hx => ?_⟩, by rw [ev]; exact Ex.refl _⟩
  · obtain ⟨v, h1, h2⟩ := S.sl i d hi
    exact ⟨v, h1, by rw [show mask (hid F (C.set j (a, q'))) H' = Vw F C H from ev]; exact h2⟩
  · rw [show mask (hid F (C.set j (a, q'))) H' = Vw F C H from ev]
    obtain ⟨i, hi⟩ := List.getElem?_of_mem hp
    have hl : j < C.length := (List.getElem?_eq_some_iff.mp hj).1
    by_cases hij : j = i
    · subst hij
      rw [List.getElem?_set_self hl] at hi
      cases hi
      exact hq
    · rw [List.getElem?_set_ne hij] at hi
      exact (S.ce p (List.mem_of_getElem? hi)).mono (Ex.refl _) fun x hx => hk x fun z => addrs_apart S.nd hj hi (fun e => hij e.symm) z hx
  · obtain ⟨n, h0⟩ := of_mask z
    have h1 := (of_mask (S.keep x o z)).2
    rw [mask_out n, hk x fun w => ?_]
    · exact h1
    · rcases (S.fr x (ha x w)).1 with f | f
      · exact n f
      · rw [h0] at f; cases f
  · rw [hk x fun w => (S.fr x (ha x w)).2 hx]
    exact S.live x hx
  · by_cases w : x ∈ a :: q.fp
    · exact hq.live x (by rw [hf]; exact w)
    · rw [hk x w]
      exact S.wl x hx
theorem SI.updC (S : SI K F Γ C σ H) {j : Nat} {a : Addr} {q q' : Cel} {o : HO} (hj : C[j]? = some (a, q)) (h0 : q.fp = []) (hf : q'.fp = []) (hq : CelAt K (Vw F C H) (upd H a o) a q') :
    SI K F Γ (C.set j (a, q')) σ (upd H a o) ∧ Ex (Vw F C H) (Vw F (C.set j (a, q')) (upd H a o)) :=
  S.chg hj (by rw [h0, hf]) (fun x hx => upd_ne fun z => hx (by rw [z]; exact List.mem_cons_self ..)) hq
/-- a new cell -/
theorem SI.addC (S : SI K F Γ C σ H) {p : Addr} {q : Cel} {o : HO} (h : H p = none) (hf : q.fp = []) (hq : CelAt K (Vw F C H) (upd H p o) p q) : SI K F Γ (C ++ [(p, q)]) σ (upd H p o) ∧ Ex (Vw F C H) (Vw F (C ++ [(p, q)]) (upd H p o)) := by
  have nh : p ∉ hid F C := S.fresh h
  have ea : addrs (C ++ [(p, q)]) = addrs C ++ [p] := by
    rw [addrs_app]
    show addrs C ++ ((p :: q.fp) ++ []) = _
    rw [hf]; rfl
  have ev : Ex (Vw F C H) (Vw F (C ++ [(p, q)]) (upd H p o)) := fun x u z => by
    obtain ⟨n, e⟩ := of_mask z
    have hx : x ≠ p := ne_of_none e h
    show mask _ _ _ = _
    rw [mask_out, upd_ne hx]
    · exact e
    · intro w
      unfold hid at w
      rw [ea] at w
      rcases List.mem_append.mp w with w | w
      · rcases List.mem_append.mp w with w | w
        · exact n (List.mem_append_left _ w)
        · exact hx (List.mem_singleton.mp w)
      · exact n (List.mem_append_right _ w)
  have np : p ∉ addrs C := fun z => nh (List.mem_append_left _ z)
  refine ⟨⟨S.len, ?_, fun i d hi => ?_, fun u hu => ?_, fun x u z => ?_, fun x hx => ?_, fun x hx => ?_, fun x hx => ?_⟩, ev⟩
  · rw [ea]
    exact List.nodup_append.mpr ⟨S.nd, by simp, fun x hx y hy e => np (by rw [List.mem_singleton.mp hy] at e; rw [← e]; exact hx)⟩
  · obtain ⟨v, h1, h2⟩ := S.sl i d hi
    exact ⟨v, h1, h2.mono ev⟩
  · rcases List.mem_append.mp hu with hu | hu
    · refine (S.ce u hu).mono ev fun x hx => upd_ne fun z => np (by rw [← z]; exact mem_addrs hu hx)
    · cases List.mem_singleton.mp hu
      exact hq.mono ev fun x hx => rfl
  · obtain ⟨n, h0⟩ := of_mask z
    have h1 := (of_mask (S.keep x u z)).2
    rw [mask_out n, upd_ne (ne_of_none h1 h)]
    exact h1
  · rw [ea] at hx
    rcases List.mem_append.mp hx with hx | hx
    · exact S.fr x hx
    · cases List.mem_singleton.mp hx
      exact ⟨.inr (S.h0 h), fun z => nh (List.mem_append_right _ z)⟩
  · obtain ⟨u, z⟩ := S.live x hx
    exact ⟨u, by rw [upd_ne (ne_of_none z h)]; exact z⟩
  · obtain ⟨u, z⟩ := S.wl x hx
    exact ⟨u, by rw [upd_ne (ne_of_none z h)]; exact z⟩
theorem addrs_erase {p : Addr × Cel} : ∀ {C : Cells} {j : Nat}, C[j]? = some p → ∀ x, x ∈ addrs C ↔ x ∈ p.1 :: p.2.fp ∨ x ∈ addrs (C.eraseIdx j)
  | [], j, h, x => by simp at h
  | u :: C, 0, h, x => by
    simp at h
    subst h
    exact List.mem_append
  | u :: C, j + 1, h, x => by
    have q := addrs_erase (C := C) (j := j) (by simpa using h) x
    show x ∈ (u.1 :: u.2.fp) ++ addrs C ↔ _ ∨ x ∈ (u.1 :: u.2.fp) ++ addrs (C.eraseIdx j)
    rw [List.mem_append, List.mem_append, q]
    constructor
    · rintro (h | h | h)
      · exact .inr (.inl h)
      · exact .inl h
      · exact .inr (.inr h)
    · rintro (h | h | h)
      · exact .inr (.inl h)
      · exact .inl h
      · exact .inr (.inr h)
theorem nodup_erase {p : Addr × Cel} : ∀ {C : Cells} {j : Nat}, C[j]? = some p → (addrs C).Nodup → (addrs (C.eraseIdx j)).Nodup ∧ ∀ x ∈ p.1 :: p.2.fp, x ∉ addrs (C.eraseIdx j)
  | [], j, h, _ => by simp at h
  | u :: C, 0, h, nd => by
    simp at h
    subst h
    have q := List.nodup_append.mp nd
    exact ⟨q.2.1, fun x hx z => q.2.2 x hx x z rfl⟩
  | u :: C, j + 1, h, nd => by
    have h' : C[j]? = some p := by simpa using h
    have q := List.nodup_append.mp (show ((u.1 :: u.2.fp) ++ addrs C).Nodup from nd)
    obtain ⟨i1, i2⟩ := nodup_erase (C := C) (j := j) h' q.2.1
    refine ⟨List.nodup_append.mpr ⟨q.1, i1, fun x hx y hy e => q.2.2 x hx y ((addrs_erase h' y).mpr (.inr hy)) e⟩, fun x hx z => ?_⟩
    rcases List.mem_append.mp (show x ∈ (u.1 :: u.2.fp) ++ addrs (C.eraseIdx j) from z) with z | z
    · exact q.2.2 x z x ((addrs_erase h' x).mpr (.inl hx)) rfl
    · exact i2 x hx z
/-- the cell j is let go: what it holds may be seen from now on; a dict is frozen (H') -/
theorem SI.letGo (S : SI K F Γ C σ H) {j : Nat} {p : Addr × Cel} (hj : C[j]? = some p) (hk : ∀ x, x ∉ p.1 :: p.2.fp → H' x = H x) (hl : ∀ x ∈ p.1 :: p.2.fp, ∃ o, H' x = some o) :
    SI K F Γ (C.eraseIdx j) σ H' ∧ Ex (Vw F C H) (Vw F (C.eraseIdx j) H') ∧ ∀ x ∈ p.1 :: p.2.fp, Vw F (C.eraseIdx j) H' x = H' x := by
  obtain ⟨nd, np⟩ := nodup_erase hj S.nd
  have ha := addrs_erase hj
  have hp : ∀ x ∈ p.1 :: p.2.fp, x ∈ addrs C := fun x hx => (ha x).mpr (.inl hx)
  have ev : Ex (Vw F C H) (Vw F (C.eraseIdx j) H') := fun x u z => by
    obtain ⟨n, e⟩ := of_mask z
    show mask _ _ _ = _
    rw [mask_out, hk x fun w => n (List.mem_append_left _ (hp x w))]
    · exact e
    · intro w
      rcases List.mem_append.mp w with w | w
      · exact n (List.mem_append_left _ ((ha x).mpr (.inr w)))
      · exact n (List.mem_append_right _ w)
  refine ⟨⟨S.len, nd, fun i d hi => ?_, fun u hu => ?_, fun x u z => ?_, fun x hx => S.fr x ((ha x).mpr (.inr hx)), fun x hx => ?_, fun x hx => ?_⟩, ev, fun x hx => ?_⟩
  · obtain ⟨v, h1, h2⟩ := S.sl i d hi
    exact ⟨v, h1, h2.mono ev⟩
  · exact (S.ce u (List.mem_of_mem_eraseIdx hu)).mono ev fun x hx => hk x fun z => np x z (mem_addrs hu hx)
  · obtain ⟨n, h0⟩ := of_mask z
    have h1 := (of_mask (S.keep x u z)).2
    rw [mask_out n, hk x fun w => ?_]
    · exact h1
    · rcases (S.fr x (hp x w)).1 with f | f
      · exact n f
      · rw [h0] at f; cases f
  · rw [hk x fun w => (S.fr x (hp x w)).2 hx]
    exact S.live x hx
  · by_cases w : x ∈ p.1 :: p.2.fp
    · exact hl x w
    · rw [hk x w]; exact S.wl x hx
  · refine mask_out fun w => ?_
    rcases List.mem_append.mp w with w | w
    · exact np x hx w
    · exact (S.fr x (hp x hx)).2 w
/-- the same cells in another order -/
theorem addrs_perm {C C' : Cells} (h : C.Perm C') : (addrs C).Perm (addrs C') := by
  induction h with
  | nil => exact .nil
  | cons x _ ih => exact List.Perm.append_left _ ih
  | swap x y l =>
    show ((y.1 :: y.2.fp) ++ ((x.1 :: x.2.fp) ++ addrs l)).Perm ((x.1 :: x.2.fp) ++ ((y.1 :: y.2.fp) ++ addrs l))
    rw [← List.append_assoc, ← List.append_assoc]
    exact List.Perm.append_right _ List.perm_append_comm
  | trans _ _ h1 h2 => exact h1.trans h2
theorem vw_perm {C C' : Cells} (h : C.Perm C') : Vw F C' H = Vw F C H := by
  have ha := addrs_perm h
  funext x
  show mask _ _ _ = mask _ _ _
  have hx : x ∈ hid F C ↔ x ∈ hid F C' := by
    unfold hid
    rw [List.mem_append, List.mem_append, ha.mem_iff]
  by_cases z : x ∈ hid F C
  · rw [mask_in z, mask_in (hx.mp z)]
  · rw [mask_out z, mask_out fun w => z (hx.mpr w)]
theorem SI.perm (S : SI K F Γ C σ H) (h : C.Perm C') : SI K F Γ C' σ H := by
  have ha := addrs_perm h
  have ev : mask (hid F C') H = mask (hid F C) H := vw_perm h
  exact ⟨S.len, ha.nodup_iff.mp S.nd, fun i d hi => by rw [ev]; exact S.sl i d hi, fun p hp => by rw [ev]; exact S.ce p (h.mem_iff.mpr hp), S.keep, fun a h' => S.fr a (ha.mem_iff.mpr h'), S.live, S.wl⟩
end
end D
end
section
set_option Elab.async false
set_option linter.all false
set_option maxRecDepth 100000
namespace D
open PySem L2 PyProof.Rows
section
variable {X : Cx} {pins : List (Addr × Obj)} {σ : L2.St} {H : Hp} {s : Shared}
theorem laidF {h' : Heap} {t' : Nat} {xs : List V} {us : List Value} (I : Inv X pins σ H s) (k : ∀ b u, s.heap.get? b = some u → (h'.push { cls := .type "tuple", data := .seq us.toArray }).get? b = some u) (hp : s.heap.objs.size ≤ h'.objs.size) (z : xs.length ≤ sizeLine) (r : Vals xs us) :
    ∃ o : Obj, o.dict = none ∧ Inv X pins σ (upd H h'.objs.size (.frz o (.tup xs))) { s with heap := h'.push { cls := .type "tuple", data := .seq us.toArray }, toks := t' } :=
  ⟨{ cls := .type "tuple", data := .seq us.toArray }, rfl, I.laid (t' := t') k hp ⟨Heap.get?_push_size _ rfl, z, us, r, ⟨_, Heap.get?_push_size _ rfl, rfl, _, rfl⟩⟩⟩
end
section
variable {X : Cx} {pos : Pos}
def tTupF (t : TA) : TE := fun σ H Q => t σ H fun vs H1 => vs.length ≤ sizeLine ∧ ∀ p (o : Obj), H1 p = none → o.dict = none → Q (.ref p) (upd H1 p (.frz o (.tup vs)))
theorem pe_tupF {es : List Expr} {t : TA} {x1} (h : PA X es t) : PE X (.Tuple es x1 pos) (tTupF t) := ⟨fun pn sa sg HH QQ I hq => by
  refine wpAny_Tuple_spliced (thn (h.run pos pn sa sg HH _ I hq) fun us sb ⟨xs, Hb, Ib, r, z, q⟩ => ⟨by rw [← r.length]; exact z, ?_⟩)
  obtain ⟨o, ho, I2⟩ := laidF (t' := sb.toks) (h' := sb.heap) Ib (fun b u e => Heap.get?_push_of_some _ e) (Nat.le_refl _) z r
  exact ⟨.ref sb.heap.objs.size, _, I2, rfl, q _ o (Ib.hok.fresh (Nat.le_refl _)) ho⟩⟩
def rCatF (K : PySem.W.Frag) : R2 := fun x y H Q => ∃ a b xs ys, x = .ref a ∧ y = .ref b ∧ SqT K H a xs ∧ SqT K H b ys ∧ xs.length + ys.length ≤ sizeLine ∧
  (xs = [] → Q (.ref b) H) ∧ (xs ≠ [] → ys = [] → Q (.ref a) H) ∧ (xs ≠ [] → ys ≠ [] → ∀ p (o : Obj), H p = none → o.dict = none → Q (.ref p) (upd H p (.frz o (.tup (xs ++ ys)))))
theorem op_catF : OpR X (binaryOp .Add) (rCatF X.K) := fun pn sa sg HH x y v u QQ I rx ry ⟨a, b, xs, ys, ex, ey, ha, hb, hz, q0, q1, q2⟩ => by
  subst ex ey
  cases rx
  cases ry
  obtain ⟨its, r1, p1, _⟩ := I.tuple ha
  obtain ⟨its2, r2, p2, _⟩ := I.tuple hb
  by_cases hx : xs = []
  · subst hx
    cases r1
    exact cat_tup0 p1 p2 ⟨.ref b, HH, I, rfl, q0 rfl⟩
  · refine HT.cat_tup p1 p2 (fun z => hx (r1.nil_iff.mp z)) (fun z => ⟨.ref a, HH, I, rfl, q1 hx (r2.nil_iff.mp z)⟩) (fun z => ?_) (by rw [← r1.length, ← r2.length]; exact hz)
    obtain ⟨o, ho, I2⟩ := laidF (t' := sa.toks) (h' := sa.heap) (xs := xs ++ ys) (us := its ++ its2) I (fun b u e => Heap.get?_push_of_some _ e) (Nat.le_refl _) (by rw [List.length_append]; exact hz) (r1.append r2)
    exact ⟨.ref sa.heap.objs.size, _, I2, rfl, q2 hx (fun w => z (r2.nil_iff.mpr w)) _ o (I.hok.fresh (Nat.le_refl _)) ho⟩
def rSlF (K : PySem.W.Frag) : V → Option Int → Option Int → Hp → VK → Prop := fun x lo hi H Q => ∃ a xs, x = .ref a ∧ SqT K H a xs ∧
  (HT.sIx xs.length 0 lo = 0 ∧ HT.sIx xs.length xs.length hi = xs.length → Q (.ref a) H) ∧ (¬ (HT.sIx xs.length 0 lo = 0 ∧ HT.sIx xs.length xs.length hi = xs.length) → ∀ p (o : Obj), H p = none → o.dict = none → Q (.ref p) (upd H p (.frz o (.tup (cutV xs lo hi)))))
theorem sl_tupF : SlR X (rSlF X.K) := fun pn sa sg HH x v vl vu lo hi sl QQ I rx hs pl pu ⟨a, xs, ex, hx, q1, q2⟩ => by
  subst ex
  cases rx
  obtain ⟨its, r, ht, hz⟩ := I.tuple hx
  have hlen : its.toArray.size = xs.length := by rw [List.size_toArray]; exact r.length.symm
  refine ⟨"tuple", _, PyProof.Rows.slot_tuple_getitem.lookup, ht.typeIs, ?_⟩
  by_cases hw : HT.sIx xs.length 0 lo = 0 ∧ HT.sIx xs.length xs.length hi = xs.length
  · exact getItem_tuple_whole ht hs pl pu (by rw [hlen]; exact hw) ⟨.ref a, HH, I, rfl, q1 hw⟩
  · refine HT.getItem_tuple_cut ht hs pl pu (by rw [hlen]; exact hw) ?_ (by rw [hlen]; exact hz)
    rw [hlen]
    obtain ⟨o, ho, I2⟩ := laidF (t' := sa.toks) (h' := sa.heap) (xs := cutV xs lo hi) I (fun b u e => Heap.get?_push_of_some _ e) (Nat.le_refl _) (Nat.le_trans (cutV_length xs lo hi) hz) ((r.drop (HT.sIx xs.length 0 lo)).take (HT.sIx xs.length xs.length hi - HT.sIx xs.length 0 lo))
    exact ⟨.ref sa.heap.objs.size, _, I2, rfl, q2 hw _ o (I.hok.fresh (Nat.le_refl _)) ho⟩
def rTupF (K : PySem.W.Frag) : List V → Hp → VK → Prop := fun xs H Q => ∃ p ys, xs = [.ref p] ∧ ((SqL K H p ys ∧ ∀ l (o : Obj), H l = none → o.dict = none → Q (.ref l) (upd H l (.frz o (.tup ys)))) ∨ (SqT K H p ys ∧ Q (.ref p) H))
theorem call_tupleF : CallR X (.type "tuple") (rTupF X.K) := fun pn sa sg HH xs us QQ I r ⟨p, ys, ex, h⟩ => by
  subst ex
  obtain ⟨u, rfl, rx⟩ := vals1 r
  cases rx
  rcases h with ⟨hq, q⟩ | ⟨hq, q⟩
  · obtain ⟨its, r', pl, hz⟩ := I.list hq
    have hlen := r'.length
    refine call_tuple_list pl.isList (fun h' kp => ?_) (by simp only [List.size_toArray] <;> omega)
    have I1 : Inv X pn sg HH { sa with heap := h' } := I.kept (t' := sa.toks) kp
    obtain ⟨o, ho, I2⟩ := laidF (t' := sa.toks) (h' := h') (xs := ys) (us := its) I1 (fun b u e => Heap.get?_push_of_some _ e) (Nat.le_refl _) hz r'
    exact ⟨.ref h'.objs.size, _, I2, rfl, q _ o (I1.hok.fresh (Nat.le_refl _)) ho⟩
  · obtain ⟨its, r', pl, hz⟩ := I.tuple hq
    exact call_tuple_same pl ⟨.ref p, HH, I, rfl, q⟩
/-- a method of a tuple -/
theorem pe_tm {name : Str} {id : String} {o e : Expr} {es : List Expr} {apos cpos : Pos} {r : V → List V → Hp → VK → Prop} {to : TE} {t : TA} (slot : Slot "tuple" name id) (hty : typeOf (.builtin id) = pure (.type "method_descriptor")) (hm : MtR X id r) (ho : PE X o to) (ha : PA X (e :: es) t)
    (hbase : attributeBase o name X.env (eval o X.env) = eval o X.env := by rfl)
    (hfew : ((backTo cpos (starEach (e :: es) X.env)).all (fun x => !x.1) && (backToKw cpos (keywordEach [] X.env)).all (fun x => x.1.isSome)
      && decide ((e :: es).length + ([] : List Keyword).length + (if ([] : List Keyword).isEmpty then 0 else 1) < 30)) = true := by rfl)
    (hline : (apos.endLine == cpos.line) = true := by rfl) (hs : starEach (e :: es) X.env = (false, eval e X.env) :: starEach es X.env := by rfl) (hplain : (backTo cpos (starEach es X.env)).any (·.1) = false := by rfl) :
    PE X (.Call (.Attribute o name apos) (e :: es) [] cpos) (fun σ H Q => to σ H fun x H1 => ∃ a xs, x = .ref a ∧ SqF X.K H1 a xs ∧ t σ H1 fun vs H2 => r x vs H2 Q) := ⟨fun pn sa sg HH QQ I h => by
  refine wpAny_Call_method_late hbase hfew hline rfl (thn (ho.run pn sa sg HH _ I h) fun v sb ⟨x, Hb, Ib, rb, a, xs, ex, ty, qb⟩ => ?_)
  subst ex
  obtain rfl : v = Value.ref a := rb
  obtain ⟨its, _, ht, _⟩ := Ib.tuple ty.t
  have h2 : ∀ b, Value.ref a = .ref b → ∃ ob, sb.heap.get? b = some ob ∧ ob.dict = none := fun b e => by
    cases e
    rcases ty with ⟨ob, e1, e2⟩ | ⟨_, ob, e1, _, e2⟩
    · exact ⟨ob, (Ib.hok a _ e1).1, e2⟩
    · exact ⟨ob, Ib.kIn a ob e1, e2⟩
  refine ⟨"tuple", id, PySem.F.plainAttrs_tuple, slot, hty, ht.typeIs, h2, ?_⟩
  have hA := ha.run cpos pn sb sg Hb _ Ib qb
  rw [hs] at hA ⊢
  refine Calls.callWith_builtin (by show (false || (backTo cpos (starEach es X.env)).any (·.1)) = false; rw [hplain] <;> rfl) (Calls.evalArgs_plain ?_)
  exact thn hA fun us sc ⟨vs, Hc, Ic, rc, qc⟩ => hm pn sc sg Hc (.ref a) vs (.ref a) us QQ Ic rfl rc qc⟩
end
end D
end
section
set_option Elab.async false
set_option linter.all false
set_option maxRecDepth 100000
namespace D
open PySem L2
structure SE (F : Fm) (X : Cx) (Γ : List Sl) (c : Cells) (e : Expr) (P : Cells → Dt → Prop) : Prop where
  run : ∀ (σ : L2.St) (H : Hp) (Q : VK), SI X.K F Γ c σ H → (∀ v H' c' d, P c' d → SI X.K F Γ c' σ H' → Ex (Vw F c H) (Vw F c' H') → DV X.K (Vw F c' H') v d → Q v H') → tE X e σ H Q
instance {F : Fm} {X : Cx} {Γ : List Sl} {c : Cells} {e : Expr} {P : Cells → Dt → Prop} : CoeFun (SE F X Γ c e P) fun _ => ∀ (σ : L2.St) (H : Hp) (Q : VK), SI X.K F Γ c σ H → (∀ v H' c' d, P c' d → SI X.K F Γ c' σ H' → Ex (Vw F c H) (Vw F c' H') → DV X.K (Vw F c' H') v d → Q v H') → tE X e σ H Q := ⟨SE.run⟩
structure ST (F : Fm) (X : Cx) (Γ : List Sl) (c : Cells) (e : Expr) (P : Cells → Bool → Prop) : Prop where
  run : ∀ (σ : L2.St) (H : Hp) (Q : Bool → Hp → Prop), SI X.K F Γ c σ H → (∀ b H' c', P c' b → SI X.K F Γ c' σ H' → Ex (Vw F c H) (Vw F c' H') → Q b H') → tT X e σ H Q
instance {F : Fm} {X : Cx} {Γ : List Sl} {c : Cells} {e : Expr} {P : Cells → Bool → Prop} : CoeFun (ST F X Γ c e P) fun _ => ∀ (σ : L2.St) (H : Hp) (Q : Bool → Hp → Prop), SI X.K F Γ c σ H → (∀ b H' c', P c' b → SI X.K F Γ c' σ H' → Ex (Vw F c H) (Vw F c' H') → Q b H') → tT X e σ H Q := ⟨ST.run⟩
structure SA (F : Fm) (X : Cx) (Γ : List Sl) (c : Cells) (es : List Expr) (P : Cells → List Dt → Prop) : Prop where
  run : ∀ (σ : L2.St) (H : Hp) (Q : List V → Hp → Prop), SI X.K F Γ c σ H → (∀ vs H' c' ds, P c' ds → SI X.K F Γ c' σ H' → Ex (Vw F c H) (Vw F c' H') → DVs X.K (Vw F c' H') vs ds → Q vs H') → tAs X es σ H Q
instance {F : Fm} {X : Cx} {Γ : List Sl} {c : Cells} {es : List Expr} {P : Cells → List Dt → Prop} : CoeFun (SA F X Γ c es P) fun _ => ∀ (σ : L2.St) (H : Hp) (Q : List V → Hp → Prop), SI X.K F Γ c σ H → (∀ vs H' c' ds, P c' ds → SI X.K F Γ c' σ H' → Ex (Vw F c H) (Vw F c' H') → DVs X.K (Vw F c' H') vs ds → Q vs H') → tAs X es σ H Q := ⟨SA.run⟩
/-- an operation on values -/
def VR (K : PySem.W.Frag) (F : Fm) (Γ : List Sl) (c : Cells) (r : List V → Hp → VK → Prop) (ds : List Dt) (P : Cells → Dt → Prop) : Prop :=
  ∀ (σ : L2.St) (H : Hp) (vs : List V) (Q : VK), SI K F Γ c σ H → DVs K (Vw F c H) vs ds → (∀ v H' c' d, P c' d → SI K F Γ c' σ H' → Ex (Vw F c H) (Vw F c' H') → DV K (Vw F c' H') v d → Q v H') → r vs H Q
def rOp (X : Cx) (f : Value → Value → Sem Value) : R2 := fun x y H Q => ∃ r, OpR X f r ∧ r x y H Q
theorem opR {X : Cx} {f : Value → Value → Sem Value} : OpR X f (rOp X f) := fun pins s σ H x y v u Q I rx ry ⟨_, ho, q⟩ => ho pins s σ H x y v u Q I rx ry q
def rIxc (X : Cx) : R2 := fun x y H Q => ∃ r, IxR X r ∧ r x y H Q
theorem ixR {X : Cx} : IxR X (rIxc X) := fun value slice pins s σ H x y v u Q I rx ry ⟨_, ho, q⟩ hs => ho value slice pins s σ H x y v u Q I rx ry q hs
def rSlc (X : Cx) : V → Option Int → Option Int → Hp → VK → Prop := fun x l u H Q => ∃ r, SlR X r ∧ r x l u H Q
theorem slR {X : Cx} : SlR X (rSlc X) := fun pins s σ H x v vl vu lo hi sl Q I rx hs pl pu ⟨_, ho, q⟩ => ho pins s σ H x v vl vu lo hi sl Q I rx hs pl pu q
def rCl (X : Cx) (f : Value) : List V → Hp → VK → Prop := fun xs H Q => ∃ r, CallR X f r ∧ r xs H Q
theorem clR {X : Cx} {f : Value} : CallR X f (rCl X f) := fun pins s σ H xs us Q I rx ⟨_, ho, q⟩ => ho pins s σ H xs us Q I rx q
structure OpV (F : Fm) (X : Cx) (Γ : List Sl) (c : Cells) (f : Value → Value → Sem Value) (d1 d2 : Dt) (P : Cells → Dt → Prop) : Prop where
  run : VR X.K F Γ c (fun vs H Q => ∃ x y, vs = [x, y] ∧ rOp X f x y H Q) [d1, d2] P
instance {F : Fm} {X : Cx} {Γ : List Sl} {c : Cells} {f : Value → Value → Sem Value} {d1 d2 : Dt} {P : Cells → Dt → Prop} : CoeFun (OpV F X Γ c f d1 d2 P) fun _ => VR X.K F Γ c (fun vs H Q => ∃ x y, vs = [x, y] ∧ rOp X f x y H Q) [d1, d2] P := ⟨OpV.run⟩
structure IxV (F : Fm) (X : Cx) (Γ : List Sl) (c : Cells) (d1 d2 : Dt) (P : Cells → Dt → Prop) : Prop where
  run : VR X.K F Γ c (fun vs H Q => ∃ x y, vs = [x, y] ∧ rIxc X x y H Q) [d1, d2] P
instance {F : Fm} {X : Cx} {Γ : List Sl} {c : Cells} {d1 d2 : Dt} {P : Cells → Dt → Prop} : CoeFun (IxV F X Γ c d1 d2 P) fun _ => VR X.K F Γ c (fun vs H Q => ∃ x y, vs = [x, y] ∧ rIxc X x y H Q) [d1, d2] P := ⟨IxV.run⟩
structure ClV (F : Fm) (X : Cx) (Γ : List Sl) (c : Cells) (f : Value) (ds : List Dt) (P : Cells → Dt → Prop) : Prop where
  run : VR X.K F Γ c (rCl X f) ds P
instance {F : Fm} {X : Cx} {Γ : List Sl} {c : Cells} {f : Value} {ds : List Dt} {P : Cells → Dt → Prop} : CoeFun (ClV F X Γ c f ds P) fun _ => VR X.K F Γ c (rCl X f) ds P := ⟨ClV.run⟩
structure SlV (F : Fm) (X : Cx) (Γ : List Sl) (c : Cells) (lo hi : Option Int) (d : Dt) (P : Cells → Dt → Prop) : Prop where
  run : VR X.K F Γ c (fun vs H Q => ∃ x, vs = [x] ∧ rSlc X x lo hi H Q) [d] P
instance {F : Fm} {X : Cx} {Γ : List Sl} {c : Cells} {lo hi : Option Int} {d : Dt} {P : Cells → Dt → Prop} : CoeFun (SlV F X Γ c lo hi d P) fun _ => VR X.K F Γ c (fun vs H Q => ∃ x, vs = [x] ∧ rSlc X x lo hi H Q) [d] P := ⟨SlV.run⟩
section
variable {F : Fm} {X : Cx} {Γ : List Sl} {c : Cells} {P : Cells → Dt → Prop} {pos : Pos}
theorem SE.mono {e : Expr} {P' : Cells → Dt → Prop} (h : SE F X Γ c e P) (hp : ∀ c d, P c d → P' c d) : SE F X Γ c e P' := .mk fun σ H Q S k => h σ H Q S fun v H' c' d p => k v H' c' d (hp c' d p)
theorem SE.of {e : Expr} {t : TE} (hp : PE X e t) (h : ∀ (σ : L2.St) (H : Hp) (Q : VK), SI X.K F Γ c σ H → (∀ v H' c' d, P c' d → SI X.K F Γ c' σ H' → Ex (Vw F c H) (Vw F c' H') → DV X.K (Vw F c' H') v d → Q v H') → t σ H Q) : SE F X Γ c e P :=
  .mk fun σ H Q S k => tE_of hp (h σ H Q S k)
/-- a value that is there already -/
theorem SE.here {e : Expr} {v : V} {d : Dt} (hp : PE X e (tC v)) (hd : ∀ H, DV X.K H v d) (p : P c d) : SE F X Γ c e P := SE.of hp fun σ H Q S k => k v H c d p S (Ex.refl _) (hd _)
theorem se_int {i : Int} {j} (p : P c (.int i)) : SE F X Γ c (.Constant (.int i) j pos) P := SE.here pe_int (fun _ => .int i) p
theorem se_str {x : Str} {j} (p : P c (.str x)) : SE F X Γ c (.Constant (.str x) j pos) P := SE.here pe_str (fun _ => .str x) p
theorem se_bl {b : Bool} {j} (p : P c (.bl b)) : SE F X Γ c (.Constant (.bool b) j pos) P := SE.here pe_bl (fun _ => .bl b) p
theorem se_non {j} (p : P c .non) : SE F X Γ c (.Constant .none j pos) P := SE.here pe_non (fun _ => .non) p
/-- a slot's datum -/
theorem se_var (i : Nat) {x : Str} {d : Dt} (hs : Γ[i]? = some (.dat d)) (p : P c d) (hN : X.N[i]? = some x := by rfl) (hv : Vis X.env.scope x := by first | exact Or.inl rfl | exact Or.inr (Or.inl rfl) | exact Or.inr (Or.inr rfl))
    (hd : (x == ("__debug__" : Str)) = false := by decide) (hcd : (x == ("__classdict__" : Str)) = false := by decide) : SE F X Γ c (.Name x pos) P :=
  SE.of (pe_var hN hv hd hcd) fun σ H Q S k => by
    obtain ⟨v, h1, h2⟩ := S.sl i _ hs
    exact ⟨v, h1, k v H c d p S (Ex.refl _) h2⟩
theorem se_op2 {e a b : Expr} {r : R2} (hp : PE X e (tOp r (tE X a) (tE X b))) (h : SE F X Γ c a fun c1 d1 => SE F X Γ c1 b fun c2 d2 => VR X.K F Γ c2 (fun vs H Q => ∃ x y, vs = [x, y] ∧ r x y H Q) [d1, d2] P) : SE F X Γ c e P :=
  SE.of hp fun σ H Q S k => by
    refine h σ H _ S fun v H1 c1 d1 hb S1 k1 dv1 => ?_
    refine hb σ H1 _ S1 fun w H2 c2 d2 hr S2 k2 dv2 => ?_
    obtain ⟨x, y, e1, q⟩ := hr σ H2 [v, w] Q S2 (.cons (dv1.mono k2) (.cons dv2 .nil)) fun u H3 c3 d3 p S3 k3 dv3 => k u H3 c3 d3 p S3 ((k1.trans k2).trans k3) dv3
    cases e1
    exact q
theorem se_bin {a b : Expr} {op : Operator} (h : SE F X Γ c a fun c1 d1 => SE F X Γ c1 b fun c2 d2 => OpV F X Γ c2 (binaryOp op) d1 d2 P) : SE F X Γ c (.BinOp a op b pos) P := se_op2 (pe_op opR pE pE) (h.mono fun c1 d1 q => q.mono fun c2 d2 r => r.run)
theorem se_cmp {a b : Expr} {op : CmpOp} (h : SE F X Γ c a fun c1 d1 => SE F X Γ c1 b fun c2 d2 => OpV F X Γ c2 (compareOp op) d1 d2 P) (hm : behindInMarks op b = false := by first | exact nomark _ | rfl) : SE F X Γ c (.Compare a [op] [b] pos) P := se_op2 (pe_cmpR opR pE pE hm) (h.mono fun c1 d1 q => q.mono fun c2 d2 r => r.run)
theorem se_ix {a b : Expr} (h : SE F X Γ c a fun c1 d1 => SE F X Γ c1 b fun c2 d2 => IxV F X Γ c2 d1 d2 P) (hs : PlainIx b := by exact fun _ _ => rfl) : SE F X Γ c (.Subscript a b pos) P := se_op2 (pe_ix ixR pE pE hs) (h.mono fun c1 d1 q => q.mono fun c2 d2 r => r.run)
theorem st_cmp {a b : Expr} {op : CmpOp} {P : Cells → Bool → Prop} (h : SE F X Γ c a fun c1 d1 => SE F X Γ c1 b fun c2 d2 => OpV F X Γ c2 (compareOp op) d1 d2 fun c3 d => ∃ k, d = .bl k ∧ P c3 k) (hm : behindInMarks op b = false := by first | exact nomark _ | rfl) : ST F X Γ c (.Compare a [op] [b] pos) P := by
  refine .mk fun σ H Q S k => ?_
  refine tT_of (pt_cmpR opR pE pE hm) ?_
  refine h σ H _ S fun v H1 c1 d1 hb S1 k1 dv1 => ?_
  refine hb σ H1 _ S1 fun w H2 c2 d2 hr S2 k2 dv2 => ?_
  obtain ⟨x, y, e1, q⟩ := hr σ H2 [v, w] (fun z H' => ∃ k, z = .bl k ∧ Q k H') S2 (.cons (dv1.mono k2) (.cons dv2 .nil)) fun u H3 c3 d3 p S3 k3 dv3 => by
    obtain ⟨b, rfl, p⟩ := p
    cases dv3
    exact ⟨b, rfl, k b H3 c3 p S3 ((k1.trans k2).trans k3)⟩
  cases e1
  exact q
/-- a value that is a bool, as a test (a call, a name) -/
theorem st_val {e : Expr} {P : Cells → Bool → Prop} (h : SE F X Γ c e fun c1 d => ∃ k, d = .bl k ∧ P c1 k)
    (hw : ∀ whole : Sem Value, PySem.isTrue e X.env whole = (do let v ← whole; standAt e.pos; holding [v] (truthy v)) := by intro _; rfl) : ST F X Γ c e P := by
  refine .mk fun σ H Q S k => ?_
  refine tT_of (pt_val pE hw) ?_
  refine h σ H _ S fun v H1 c1 d1 p S1 k1 dv1 => ?_
  obtain ⟨b, rfl, p⟩ := p
  cases dv1
  exact ⟨b, rfl, k b H1 c1 p S1 k1⟩
theorem st_not {e : Expr} {P : Cells → Bool → Prop} (h : ST F X Γ c e fun c1 b => P c1 (!b)) : ST F X Γ c (.UnaryOp .Not e pos) P := by
  refine .mk fun σ H Q S k => ?_
  refine tT_of (pt_not pT) ?_
  exact h σ H _ S fun b H1 c1 p S1 k1 => k _ H1 c1 p S1 k1
/-- and, or as tests: a list of them -/
structure TWc (X : Cx) (e : Expr) (σ : L2.St) (H : Hp) (Q : Bool → Hp → Prop) : Prop where
  run : ∀ (whole : Sem Value) pins s, Inv X pins σ H s → wpAny (model X.prog X.w) X.A (PySem.isTrue e X.env whole) (TP X pins σ Q) X.xe s
def tW (X : Cx) (e : Expr) : TT := fun σ H Q => TWc X e σ H Q
structure SWt (F : Fm) (X : Cx) (Γ : List Sl) (c : Cells) (e : Expr) (P : Cells → Bool → Prop) : Prop where
  run : ∀ (σ : L2.St) (H : Hp) (Q : Bool → Hp → Prop), SI X.K F Γ c σ H → (∀ b H' c', P c' b → SI X.K F Γ c' σ H' → Ex (Vw F c H) (Vw F c' H') → Q b H') → tW X e σ H Q
instance {F : Fm} {X : Cx} {Γ : List Sl} {c : Cells} {e : Expr} {P : Cells → Bool → Prop} : CoeFun (SWt F X Γ c e P) fun _ => ∀ (σ : L2.St) (H : Hp) (Q : Bool → Hp → Prop), SI X.K F Γ c σ H → (∀ b H' c', P c' b → SI X.K F Γ c' σ H' → Ex (Vw F c H) (Vw F c' H') → Q b H') → tW X e σ H Q := ⟨SWt.run⟩
theorem pW {e : Expr} : PW X e (tW X e) := ⟨fun wh pins s _ _ _ I h => TWc.run h wh pins s I⟩
theorem st_w {e : Expr} {P : Cells → Bool → Prop} (h : SWt F X Γ c e P) : ST F X Γ c e P := .mk fun σ H Q S k => tT_of pW.pt (h σ H Q S k)
theorem sw_and1 {a : Expr} {P : Cells → Bool → Prop} (h : ST F X Γ c a P) : SWt F X Γ c (.BoolOp .And [a] pos) P := .mk fun σ H Q S k => ⟨fun wh pins s I => (pw_and1 pT).run wh pins s σ H Q I (h σ H Q S k)⟩
theorem sw_or1 {a : Expr} {P : Cells → Bool → Prop} (h : ST F X Γ c a P) : SWt F X Γ c (.BoolOp .Or [a] pos) P := .mk fun σ H Q S k => ⟨fun wh pins s I => (pw_or1 pT).run wh pins s σ H Q I (h σ H Q S k)⟩
theorem sw_and {a b : Expr} {rest : List Expr} {P : Cells → Bool → Prop} (h : ST F X Γ c a fun c1 k => if k = true then SWt F X Γ c1 (.BoolOp .And (b :: rest) pos) P else P c1 false) : SWt F X Γ c (.BoolOp .And (a :: b :: rest) pos) P := by
  refine .mk fun σ H Q S k => ?_
  refine ⟨fun wh pins s I => ?_⟩
  refine (pw_and pT pW).run wh pins s σ H Q I (h σ H _ S fun b1 H1 c1 p S1 k1 => ?_)
  cases b1 with
  | true => exact (show SWt F X Γ c1 _ P from p) σ H1 Q S1 fun b2 H2 c2 p2 S2 k2 => k b2 H2 c2 p2 S2 (k1.trans k2)
  | false => exact k false H1 c1 p S1 k1
theorem sw_or {a b : Expr} {rest : List Expr} {P : Cells → Bool → Prop} (h : ST F X Γ c a fun c1 k => if k = true then P c1 true else SWt F X Γ c1 (.BoolOp .Or (b :: rest) pos) P) : SWt F X Γ c (.BoolOp .Or (a :: b :: rest) pos) P := by
  refine .mk fun σ H Q S k => ?_
  refine ⟨fun wh pins s I => ?_⟩
  refine (pw_or pT pW).run wh pins s σ H Q I (h σ H _ S fun b1 H1 c1 p S1 k1 => ?_)
  cases b1 with
  | false => exact (show SWt F X Γ c1 _ P from p) σ H1 Q S1 fun b2 H2 c2 p2 S2 k2 => k b2 H2 c2 p2 S2 (k1.trans k2)
  | true => exact k true H1 c1 p S1 k1
/-- and, or as values of bools -/
theorem se_one {a : Expr} {op} (h : SE F X Γ c a P) : SE F X Γ c (.BoolOp op [a] pos) P := SE.of (pe_one pE) fun σ H Q S k => h σ H Q S k
theorem se_and {a b : Expr} {rest : List Expr} (h : SE F X Γ c a fun c1 d => ∃ k, d = .bl k ∧ if k = true then SE F X Γ c1 (.BoolOp .And (b :: rest) pos) P else P c1 (.bl false)) : SE F X Γ c (.BoolOp .And (a :: b :: rest) pos) P :=
  SE.of (pe_and pE pE) fun σ H Q S k => by
    refine h σ H _ S fun v H1 c1 d1 p S1 k1 dv1 => ?_
    obtain ⟨b1, rfl, p⟩ := p
    cases dv1
    refine ⟨b1, rfl, ?_⟩
    cases b1 with
    | true => exact (show SE F X Γ c1 _ P from p) σ H1 Q S1 fun b2 H2 c2 d2 p2 S2 k2 => k b2 H2 c2 d2 p2 S2 (k1.trans k2)
    | false => exact k _ H1 c1 _ p S1 k1 (.bl false)
theorem se_or {a b : Expr} {rest : List Expr} (h : SE F X Γ c a fun c1 d => ∃ k, d = .bl k ∧ if k = true then P c1 (.bl true) else SE F X Γ c1 (.BoolOp .Or (b :: rest) pos) P) : SE F X Γ c (.BoolOp .Or (a :: b :: rest) pos) P :=
  SE.of (pe_or pE pE) fun σ H Q S k => by
    refine h σ H _ S fun v H1 c1 d1 p S1 k1 dv1 => ?_
    obtain ⟨b1, rfl, p⟩ := p
    cases dv1
    refine ⟨b1, rfl, ?_⟩
    cases b1 with
    | false => exact (show SE F X Γ c1 _ P from p) σ H1 Q S1 fun b2 H2 c2 d2 p2 S2 k2 => k b2 H2 c2 d2 p2 S2 (k1.trans k2)
    | true => exact k _ H1 c1 _ p S1 k1 (.bl true)
theorem se_not {a : Expr} (h : SE F X Γ c a fun c1 d => ∃ k, d = .bl k ∧ P c1 (.bl (!k))) : SE F X Γ c (.UnaryOp .Not a pos) P :=
  SE.of (pe_not pE) fun σ H Q S k => by
    refine h σ H _ S fun v H1 c1 d1 p S1 k1 dv1 => ?_
    obtain ⟨b1, rfl, p⟩ := p
    cases dv1
    exact ⟨b1, rfl, k _ H1 c1 _ p S1 k1 (.bl _)⟩
theorem se_if {t a b : Expr} (h : ST F X Γ c t fun c1 k => if k = true then SE F X Γ c1 a P else SE F X Γ c1 b P) : SE F X Γ c (.IfExp t a b pos) P :=
  SE.of (pe_ifExp pT pE pE) fun σ H Q S k => by
    refine h σ H _ S fun b1 H1 c1 p S1 k1 => ?_
    cases b1 with
    | true => exact (show SE F X Γ c1 _ P from p) σ H1 Q S1 fun b2 H2 c2 d2 p2 S2 k2 => k b2 H2 c2 d2 p2 S2 (k1.trans k2)
    | false => exact (show SE F X Γ c1 _ P from p) σ H1 Q S1 fun b2 H2 c2 d2 p2 S2 k2 => k b2 H2 c2 d2 p2 S2 (k1.trans k2)
theorem se_chain {a b e : Expr} {op op' : CmpOp} (h : SE F X Γ c a fun c1 d1 => SE F X Γ c1 b fun c2 d2 => OpV F X Γ c2 (compareOp op) d1 d2 fun c3 d => ∃ k, d = .bl k ∧ if k = true then SE F X Γ c3 e (fun c4 d4 => OpV F X Γ c4 (compareOp op') d2 d4 P) else P c3 (.bl false))
    (hm : lastMarks [op, op'] [b, e] = false := by with_unfolding_all rfl) : SE F X Γ c (.Compare a [op, op'] [b, e] pos) P :=
  SE.of (pe_chain opR opR pE pE pE hm) fun σ H Q S k => by
    refine h σ H _ S fun v H1 c1 d1 hb S1 k1 dv1 => ?_
    refine hb σ H1 _ S1 fun w H2 c2 d2 hr S2 k2 dv2 => ?_
    obtain ⟨x, y, e1, q⟩ := hr σ H2 [v, w] (fun z H3 => ∃ k, z = .bl k ∧ (if k = true then tE X e σ H3 fun w' H4 => rOp X (compareOp op') w w' H4 Q else Q (.bl false) H3)) S2 (.cons (dv1.mono k2) (.cons dv2 .nil)) fun u H3 c3 d3 p S3 k3 dv3 => by
      obtain ⟨b1, rfl, p⟩ := p
      cases dv3
      refine ⟨b1, rfl, ?_⟩
      cases b1 with
      | false => exact k _ H3 c3 _ p S3 ((k1.trans k2).trans k3) (.bl false)
      | true =>
        refine (show SE F X Γ c3 e _ from p) σ H3 _ S3 fun w' H4 c4 d4 hr' S4 k4 dv4 => ?_
        obtain ⟨x', y', e2, q⟩ := hr' σ H4 [w, w'] Q S4 (.cons (dv2.mono (k3.trans k4)) (.cons dv4 .nil)) fun u H5 c5 d5 p5 S5 k5 dv5 => k u H5 c5 d5 p5 S5 ((((k1.trans k2).trans k3).trans k4).trans k5) dv5
        cases e2
        exact q
    cases e1
    exact q
theorem chain_core {a b e : Expr} {op op' : CmpOp} (h : SE F X Γ c a fun c1 d1 => SE F X Γ c1 b fun c2 d2 => OpV F X Γ c2 (compareOp op) d1 d2 fun c3 d => ∃ k, d = .bl k ∧ if k = true then SE F X Γ c3 e (fun c4 d4 => OpV F X Γ c4 (compareOp op') d2 d4 P) else P c3 (.bl false)) (σ : L2.St) (H : Hp) (Q : VK) (S : SI X.K F Γ c σ H) (k : ∀ v H' c' d, P c' d → SI X.K F Γ c' σ H' → Ex (Vw F c H) (Vw F c' H') → DV X.K (Vw F c' H') v d → Q v H') :
    tChain (rOp X (compareOp op)) (rOp X (compareOp op')) (tE X a) (tE X b) (tE X e) σ H Q := by
    refine h σ H _ S fun v H1 c1 d1 hb S1 k1 dv1 => ?_
    refine hb σ H1 _ S1 fun w H2 c2 d2 hr S2 k2 dv2 => ?_
    obtain ⟨x, y, e1, q⟩ := hr σ H2 [v, w] (fun z H3 => ∃ k, z = .bl k ∧ (if k = true then tE X e σ H3 fun w' H4 => rOp X (compareOp op') w w' H4 Q else Q (.bl false) H3)) S2 (.cons (dv1.mono k2) (.cons dv2 .nil)) fun u H3 c3 d3 p S3 k3 dv3 => by
      obtain ⟨b1, rfl, p⟩ := p
      cases dv3
      refine ⟨b1, rfl, ?_⟩
      cases b1 with
      | false => exact k _ H3 c3 _ p S3 ((k1.trans k2).trans k3) (.bl false)
      | true =>
        refine (show SE F X Γ c3 e _ from p) σ H3 _ S3 fun w' H4 c4 d4 hr' S4 k4 dv4 => ?_
        obtain ⟨x', y', e2, q⟩ := hr' σ H4 [w, w'] Q S4 (.cons (dv2.mono (k3.trans k4)) (.cons dv4 .nil)) fun u H5 c5 d5 p5 S5 k5 dv5 => k u H5 c5 d5 p5 S5 ((((k1.trans k2).trans k3).trans k4).trans k5) dv5
        cases e2
        exact q
    cases e1
    exact q
theorem st_chain {a b e : Expr} {op op' : CmpOp} {P : Cells → Bool → Prop} (h : SE F X Γ c a fun c1 d1 => SE F X Γ c1 b fun c2 d2 => OpV F X Γ c2 (compareOp op) d1 d2 fun c3 d => ∃ k, d = .bl k ∧ if k = true then SE F X Γ c3 e (fun c4 d4 => OpV F X Γ c4 (compareOp op') d2 d4 fun c5 d => ∃ k, d = .bl k ∧ P c5 k) else ∃ k, Dt.bl false = .bl k ∧ P c3 k)
    (hm : lastMarks [op, op'] [b, e] = false := by with_unfolding_all rfl) : ST F X Γ c (.Compare a [op, op'] [b, e] pos) P := .mk fun σ H Q S k =>
  tT_of (pt_chain opR opR pE pE pE hm) (chain_core (P := fun c1 d => ∃ k, d = .bl k ∧ P c1 k) h σ H _ S fun v H' c' d p S' e' dv => by
    obtain ⟨b1, rfl, p⟩ := p
    cases dv
    exact ⟨b1, rfl, k b1 H' c' p S' e'⟩)
theorem sa_nil {P : Cells → List Dt → Prop} (p : P c []) : SA F X Γ c [] P := .mk fun σ H Q S k => tAs_of pa_nil (k [] H c [] p S (Ex.refl _) .nil)
theorem sa_cons {e : Expr} {es : List Expr} {P : Cells → List Dt → Prop} (h : SE F X Γ c e fun c1 d => SA F X Γ c1 es fun c2 ds => P c2 (d :: ds)) (hs : starEach (e :: es) X.env = (false, eval e X.env) :: starEach es X.env := by rfl) : SA F X Γ c (e :: es) P :=
  .mk fun σ H Q S k => tAs_of (pa_cons pE pAs hs) (h σ H _ S fun v H1 c1 d hr S1 k1 dv => hr σ H1 _ S1 fun vs H2 c2 ds p S2 k2 dvs => k (v :: vs) H2 c2 (d :: ds) p S2 (k1.trans k2) (.cons (dv.mono k2) dvs))
theorem se_tup {es : List Expr} {x1} (h : SA F X Γ c es fun c1 ds => ds.length ≤ sizeLine ∧ P c1 (.tup ds)) : SE F X Γ c (.Tuple es x1 pos) P :=
  SE.of (pe_tupF pAs) fun σ H Q S k => h σ H _ S fun vs H1 c1 ds p S1 k1 dv => ⟨by rw [dv.length]; exact p.1, fun q o hq ho => k _ _ c1 _ p.2 (S1.new hq) (k1.trans (Kp.new (F := F) hq).hid) (S1.newT hq ho dv)⟩
theorem se_lst {es : List Expr} (h : SA F X Γ c es fun c1 ds => ds.length ≤ sizeLine ∧ P c1 (.lst ds)) : SE F X Γ c (.List es pos) P :=
  SE.of (pe_lst pAs) fun σ H Q S k => h σ H _ S fun vs H1 c1 ds p S1 k1 dv => ⟨by rw [dv.length]; exact p.1, fun q hq => k _ _ c1 _ p.2 (S1.new hq) (k1.trans (Kp.new (F := F) hq).hid) (S1.newL hq dv)⟩
theorem se_callB {x : Str} {p : Pos} {e : Expr} {es : List Expr} {id : String} (hm : X.mg x = none) (h : SA F X Γ c (e :: es) fun c1 ds => ClV F X Γ c1 (.builtin id) ds P) (hv : bootBuiltins x = some (.builtin id) := by decide +kernel) (hg : Gl X x := by rfl) (hn : x ≠ "__name__" := by decide) (hdb : (x == ("__debug__" : Str)) = false := by decide)
    (he : starEach (e :: es) X.env = (false, eval e X.env) :: starEach es X.env := by rfl) (hpl : (backTo pos (starEach es X.env)).any (·.1) = false := by rfl) : SE F X Γ c (.Call (.Name x p) (e :: es) [] pos) P :=
  SE.of (pe_callB clR hg hm hv pAs hn hdb he hpl) fun σ H Q S k => h σ H _ S fun vs H1 c1 ds q S1 k1 dv => q σ H1 vs Q S1 dv fun v H2 c2 d p S2 k2 dv2 => k v H2 c2 d p S2 (k1.trans k2) dv2
theorem se_callT {x : Str} {p : Pos} {e : Expr} {es : List Expr} {id : String} (hm : X.mg x = none) (h : SA F X Γ c (e :: es) fun c1 ds => ClV F X Γ c1 (.type id) ds P) (hv : bootBuiltins x = some (.type id) := by decide +kernel) (hg : Gl X x := by rfl) (hn : x ≠ "__name__" := by decide) (hdb : (x == ("__debug__" : Str)) = false := by decide)
    (he : starEach (e :: es) X.env = (false, eval e X.env) :: starEach es X.env := by rfl) (hpl : (backTo pos (starEach es X.env)).any (·.1) = false := by rfl) : SE F X Γ c (.Call (.Name x p) (e :: es) [] pos) P :=
  SE.of (pe_callTy clR hg hm hv pAs hn hdb he hpl) fun σ H Q S k => h σ H _ S fun vs H1 c1 ds q S1 k1 dv => q σ H1 vs Q S1 dv fun v H2 c2 d p S2 k2 dv2 => k v H2 c2 d p S2 (k1.trans k2) dv2
def SO (F : Fm) (X : Cx) (Γ : List Sl) (c : Cells) (e : Option Expr) (P : Cells → Option Int → Prop) : Prop :=
  match e with
  | none => P c none
  | some e => SE F X Γ c e fun c1 d => ∃ i, d = .int i ∧ P c1 (some i)
theorem SO.po {e : Option Expr} {P : Cells → Option Int → Prop} (h : SO F X Γ c e P) : ∃ t, PO X e t ∧ ∀ (σ : L2.St) (H : Hp) (Q : Option Int → Hp → Prop), SI X.K F Γ c σ H → (∀ b H' c', P c' b → SI X.K F Γ c' σ H' → Ex (Vw F c H) (Vw F c' H') → Q b H') → t σ H Q := by
  cases e with
  | none => exact ⟨_, po_none, fun σ H Q S k => k none H c h S (Ex.refl _)⟩
  | some e =>
    refine ⟨_, po_some pE, fun σ H Q S k => ?_⟩
    refine (show SE F X Γ c e _ from h) σ H _ S fun v H1 c1 d p S1 k1 dv => ?_
    obtain ⟨i, rfl, p⟩ := p
    cases dv
    exact ⟨i, rfl, k (some i) H1 c1 p S1 k1⟩
def tOc (X : Cx) (e : Option Expr) : TO := fun σ H Q => ∃ t, PO X e t ∧ t σ H Q
theorem pOc {e : Option Expr} : PO X e (tOc X e) := ⟨fun pins s σ H Q I ⟨_, h, q⟩ => h.run pins s σ H Q I q⟩
theorem se_slice {e : Expr} {lo hi : Option Expr} {p2 : Pos} (h : SE F X Γ c e fun c1 d => SO F X Γ c1 lo fun c2 l => SO F X Γ c2 hi fun c3 u => SlV F X Γ c3 l u d P) : SE F X Γ c (.Subscript e (.Slice lo hi none p2) pos) P :=
  SE.of (pe_slice slR pE pOc pOc) fun σ H Q S k => by
    refine h σ H _ S fun v H1 c1 d hl S1 k1 dv1 => ?_
    obtain ⟨tl, pl, ql⟩ := hl.po
    refine ⟨tl, pl, ql σ H1 _ S1 fun l H2 c2 hu S2 k2 => ?_⟩
    obtain ⟨tu, pu, qu⟩ := hu.po
    refine ⟨tu, pu, qu σ H2 _ S2 fun u H3 c3 hr S3 k3 => ?_⟩
    obtain ⟨x, e1, q⟩ := hr σ H3 [v] Q S3 (.cons (dv1.mono (k2.trans k3)) .nil) fun w H4 c4 d4 p S4 k4 dv4 => k w H4 c4 d4 p S4 (((k1.trans k2).trans k3).trans k4) dv4
    cases e1
    exact q
end
end D
end
section
set_option Elab.async false
set_option linter.all false
set_option maxRecDepth 100000
namespace D
open PySem L2
section
variable {F : Fm} {X : Cx} {Γ : List Sl} {c : Cells} {P : Cells → Dt → Prop} {pos : Pos}
theorem OpV.of {f : Value → Value → Sem Value} {r : R2} {d1 d2 : Dt} (ho : OpR X f r) (h : ∀ (σ : L2.St) (H : Hp) (x y : V) (Q : VK), SI X.K F Γ c σ H → DV X.K (Vw F c H) x d1 → DV X.K (Vw F c H) y d2 →
    (∀ v H' c' d, P c' d → SI X.K F Γ c' σ H' → Ex (Vw F c H) (Vw F c' H') → DV X.K (Vw F c' H') v d → Q v H') → r x y H Q) : OpV F X Γ c f d1 d2 P := by
  refine .mk fun σ H vs Q S dv k => ?_
  cases dv with
  | cons h1 t => cases t with
    | cons h2 t =>
      cases t
      exact ⟨_, _, rfl, r, ho, h σ H _ _ Q S h1 h2 k⟩
theorem IxV.of {r : R2} {d1 d2 : Dt} (ho : IxR X r) (h : ∀ (σ : L2.St) (H : Hp) (x y : V) (Q : VK), SI X.K F Γ c σ H → DV X.K (Vw F c H) x d1 → DV X.K (Vw F c H) y d2 →
    (∀ v H' c' d, P c' d → SI X.K F Γ c' σ H' → Ex (Vw F c H) (Vw F c' H') → DV X.K (Vw F c' H') v d → Q v H') → r x y H Q) : IxV F X Γ c d1 d2 P := by
  refine .mk fun σ H vs Q S dv k => ?_
  cases dv with
  | cons h1 t => cases t with
    | cons h2 t =>
      cases t
      exact ⟨_, _, rfl, r, ho, h σ H _ _ Q S h1 h2 k⟩
theorem SlV.of {r : V → Option Int → Option Int → Hp → VK → Prop} {lo hi : Option Int} {d : Dt} (ho : SlR X r) (h : ∀ (σ : L2.St) (H : Hp) (x : V) (Q : VK), SI X.K F Γ c σ H → DV X.K (Vw F c H) x d →
    (∀ v H' c' d, P c' d → SI X.K F Γ c' σ H' → Ex (Vw F c H) (Vw F c' H') → DV X.K (Vw F c' H') v d → Q v H') → r x lo hi H Q) : SlV F X Γ c lo hi d P := by
  refine .mk fun σ H vs Q S dv k => ?_
  cases dv with
  | cons h1 t =>
    cases t
    exact ⟨_, rfl, r, ho, h σ H _ Q S h1 k⟩
theorem ClV.of {f : Value} {r : List V → Hp → VK → Prop} {ds : List Dt} (ho : CallR X f r) (h : ∀ (σ : L2.St) (H : Hp) (vs : List V) (Q : VK), SI X.K F Γ c σ H → DVs X.K (Vw F c H) vs ds →
    (∀ v H' c' d, P c' d → SI X.K F Γ c' σ H' → Ex (Vw F c H) (Vw F c' H') → DV X.K (Vw F c' H') v d → Q v H') → r vs H Q) : ClV F X Γ c f ds P :=
  .mk fun σ H vs Q S dv k => ⟨r, ho, h σ H vs Q S dv k⟩
/-- two ints to a flat value -/
theorem OpV.ints {f : Value → Value → Sem Value} {C : Int → Int → Prop} {g : Int → Int → V} {i j : Int} {d : Dt} (ho : OpR X f (rI C g)) (hc : C i j) (hd : ∀ H, DV X.K H (g i j) d) (p : P c d) : OpV F X Γ c f (.int i) (.int j) P :=
  OpV.of ho fun σ H x y Q S h1 h2 k => by cases h1; cases h2; exact ⟨i, j, rfl, rfl, hc, k _ H c d p S (Ex.refl _) (hd _)⟩
theorem OpV.ints0 {f : Value → Value → Sem Value} {g : Int → Int → V} {i j : Int} {d : Dt} (ho : OpR X f (rI0 g)) (hd : ∀ H, DV X.K H (g i j) d) (p : P c d) : OpV F X Γ c f (.int i) (.int j) P :=
  OpV.of ho fun σ H x y Q S h1 h2 k => by cases h1; cases h2; exact ⟨i, j, rfl, rfl, k _ H c d p S (Ex.refl _) (hd _)⟩
theorem ov_add {i j : Int} (p : P c (.int (i + j))) : OpV F X Γ c (binaryOp .Add) (.int i) (.int j) P := OpV.ints0 op_add (fun _ => .int _) p
theorem ov_sub {i j : Int} (p : P c (.int (i - j))) : OpV F X Γ c (binaryOp .Sub) (.int i) (.int j) P := OpV.ints0 op_sub (fun _ => .int _) p
theorem ov_mul {i j : Int} (hc : CMul i j) (p : P c (.int (i * j))) : OpV F X Γ c (binaryOp .Mult) (.int i) (.int j) P := OpV.ints op_mul hc (fun _ => .int _) p
theorem ov_mod {i j : Int} (hc : 0 < j) (p : P c (.int (i % j))) : OpV F X Γ c (binaryOp .Mod) (.int i) (.int j) P := OpV.ints op_mod hc (fun _ => .int _) p
theorem ov_div {i j : Int} (hc : CDiv i j) (p : P c (.int (i / j))) : OpV F X Γ c (binaryOp .FloorDiv) (.int i) (.int j) P := OpV.ints op_fdiv hc (fun _ => .int _) p
theorem ov_pow {i j : Int} (hc : CPow i j) (p : P c (.int (i ^ j.toNat))) : OpV F X Γ c (binaryOp .Pow) (.int i) (.int j) P := OpV.ints op_pow hc (fun _ => .int _) p
theorem ov_lt {i j : Int} (p : P c (.bl (decide (i < j)))) : OpV F X Γ c (compareOp .Lt) (.int i) (.int j) P := OpV.ints0 op_lt (fun _ => .bl _) p
theorem ov_le {i j : Int} (p : P c (.bl (decide (i ≤ j)))) : OpV F X Γ c (compareOp .LtE) (.int i) (.int j) P := OpV.ints0 op_le (fun _ => .bl _) p
theorem ov_gt {i j : Int} (p : P c (.bl (decide (j < i)))) : OpV F X Γ c (compareOp .Gt) (.int i) (.int j) P := OpV.ints0 op_gt (fun _ => .bl _) p
theorem ov_ge {i j : Int} (p : P c (.bl (decide (j ≤ i)))) : OpV F X Γ c (compareOp .GtE) (.int i) (.int j) P := OpV.ints0 op_ge (fun _ => .bl _) p
theorem ov_addS {i j : Str} (hz : i.length + j.length ≤ sizeLine) (p : P c (.str (i ++ j))) : OpV F X Γ c (binaryOp .Add) (.str i) (.str j) P :=
  OpV.of op_add_str fun σ H x y Q S h1 h2 k => by cases h1; cases h2; exact ⟨i, j, rfl, rfl, hz, k _ H c _ p S (Ex.refl _) (.str _)⟩
/-- equality of flat values -/
theorem ov_eqF {d1 d2 : Dt} {v1 v2 : V} (h1 : ∀ H v, DV X.K H v d1 → v = v1) (h2 : ∀ H v, DV X.K H v d2 → v = v2) (hs : scal v1 v2 = true) (p : P c (.bl (decide (v1 = v2)))) : OpV F X Γ c (compareOp .Eq) d1 d2 P :=
  OpV.of op_eq fun σ H x y Q S q1 q2 k => by rw [h1 _ _ q1, h2 _ _ q2]; exact ⟨hs, k _ H c _ p S (Ex.refl _) (.bl _)⟩
theorem ov_neF {d1 d2 : Dt} {v1 v2 : V} (h1 : ∀ H v, DV X.K H v d1 → v = v1) (h2 : ∀ H v, DV X.K H v d2 → v = v2) (hs : scal v1 v2 = true) (p : P c (.bl (!decide (v1 = v2)))) : OpV F X Γ c (compareOp .NotEq) d1 d2 P :=
  OpV.of op_ne fun σ H x y Q S q1 q2 k => by rw [h1 _ _ q1, h2 _ _ q2]; exact ⟨hs, k _ H c _ p S (Ex.refl _) (.bl _)⟩
theorem dv_int {K : PySem.W.Frag} {H : Hp} {v : V} {i : Int} (h : DV K H v (.int i)) : v = .int i := by cases h; rfl
theorem dv_str {K : PySem.W.Frag} {H : Hp} {v : V} {i : Str} (h : DV K H v (.str i)) : v = .str i := by cases h; rfl
theorem dv_bl {K : PySem.W.Frag} {H : Hp} {v : V} {i : Bool} (h : DV K H v (.bl i)) : v = .bl i := by cases h; rfl
theorem ov_eqI {i j : Int} (p : P c (.bl (decide (i = j)))) : OpV F X Γ c (compareOp .Eq) (.int i) (.int j) P :=
  ov_eqF (fun _ _ h => dv_int h) (fun _ _ h => dv_int h) rfl (by rw [show decide (V.int i = V.int j) = decide (i = j) by rw [Bool.eq_iff_iff]; simp]; exact p)
theorem ov_neI {i j : Int} (p : P c (.bl (!decide (i = j)))) : OpV F X Γ c (compareOp .NotEq) (.int i) (.int j) P :=
  ov_neF (fun _ _ h => dv_int h) (fun _ _ h => dv_int h) rfl (by rw [show decide (V.int i = V.int j) = decide (i = j) by rw [Bool.eq_iff_iff]; simp]; exact p)
theorem ov_eqS {i j : Str} (p : P c (.bl (decide (i = j)))) : OpV F X Γ c (compareOp .Eq) (.str i) (.str j) P :=
  ov_eqF (fun _ _ h => dv_str h) (fun _ _ h => dv_str h) rfl (by rw [show decide (V.str i = V.str j) = decide (i = j) by rw [Bool.eq_iff_iff]; simp]; exact p)
theorem ov_neS {i j : Str} (p : P c (.bl (!decide (i = j)))) : OpV F X Γ c (compareOp .NotEq) (.str i) (.str j) P :=
  ov_neF (fun _ _ h => dv_str h) (fun _ _ h => dv_str h) rfl (by rw [show decide (V.str i = V.str j) = decide (i = j) by rw [Bool.eq_iff_iff]; simp]; exact p)
structure Fit (n : Nat) (d : Dt) : Prop where
  pl : plain d = true
  lay : (py d).canLay0 = true
  dp : (py d).depth ≤ n
theorem Fit.mono {n m : Nat} {d : Dt} (h : Fit n d) (l : n ≤ m) : Fit m d := ⟨h.pl, h.lay, Nat.le_trans h.dp l⟩
theorem fit_non {n : Nat} : Fit n .non := ⟨rfl, rfl, Nat.zero_le _⟩
theorem fit_int {n : Nat} {b : Int} : Fit n (.int b) := ⟨rfl, rfl, Nat.zero_le _⟩
theorem fit_str {n : Nat} {b : Str} (h : PyData.strOk b = true) : Fit n (.str b) := ⟨rfl, h, Nat.zero_le _⟩
theorem fits_all {n : Nat} : ∀ {l : List Dt}, (∀ x ∈ l, Fit n x) → plains l = true ∧ PyData.canLayAll0 (pys l) = true ∧ PyData.depthAll (pys l) ≤ n
  | [], _ => ⟨rfl, rfl, Nat.zero_le _⟩
  | d :: l, h => by
    obtain ⟨h1, h2, h3⟩ := fits_all (l := l) fun x hx => h x (List.mem_cons_of_mem _ hx)
    have q := h d (List.mem_cons_self ..)
    exact ⟨by rw [plains, q.pl, h1]; rfl, by rw [pys, PyData.canLayAll0, q.lay, h2]; rfl, by rw [pys, PyData.depthAll]; exact Nat.max_le.mpr ⟨q.dp, h3⟩⟩
theorem fit_tup {n : Nat} {l : List Dt} (h : ∀ x ∈ l, Fit n x) : Fit (n + 1) (.tup l) := by
  obtain ⟨h1, h2, h3⟩ := fits_all h
  exact ⟨h1, h2, Nat.succ_le_succ h3⟩
theorem fit_lst {n : Nat} {l : List Dt} (h : ∀ x ∈ l, Fit n x) : Fit (n + 1) (.lst l) := by
  obtain ⟨h1, h2, h3⟩ := fits_all h
  exact ⟨h1, h2, Nat.succ_le_succ h3⟩
theorem Fit.shaped {d : Dt} (h : Fit 64 d) : SeqAt.shaped (py d) = true := by
  unfold SeqAt.shaped
  rw [h.lay, decide_eq_true h.dp]
  rfl
def eqd (a b : Dt) : Bool := PyData.eqv (py a) (py b)
theorem ov_eqD {d1 d2 : Dt} (hu : X.A.units + 64 < cLine) (f1 : Fit 64 d1) (f2 : Fit 64 d2) (p : P c (.bl (eqd d1 d2))) : OpV F X Γ c (compareOp .Eq) d1 d2 P :=
  OpV.of (op_eqD hu) fun σ H x y Q S h1 h2 k => ⟨py d1, py d2, (h1.mono (mask_ex _ _)).dp f1.pl, (h2.mono (mask_ex _ _)).dp f2.pl, f1.shaped, f2.shaped, k _ H c _ p S (Ex.refl _) (.bl _)⟩
theorem ov_neD {d1 d2 : Dt} (hu : X.A.units + 64 < cLine) (f1 : Fit 64 d1) (f2 : Fit 64 d2) (p : P c (.bl (!eqd d1 d2))) : OpV F X Γ c (compareOp .NotEq) d1 d2 P :=
  OpV.of (op_neD hu) fun σ H x y Q S h1 h2 k => ⟨py d1, py d2, (h1.mono (mask_ex _ _)).dp f1.pl, (h2.mono (mask_ex _ _)).dp f2.pl, f1.shaped, f2.shaped, k _ H c _ p S (Ex.refl _) (.bl _)⟩
def flatD : Dt → Bool
  | .non => true | .bl _ => true | .int _ => true | .str _ => true | _ => false
def flatOf : Dt → V
  | .bl b => .bl b | .int i => .int i | .str s => .str s | _ => .non
theorem dv_flat {K : PySem.W.Frag} {H : Hp} {v : V} {d : Dt} (h : DV K H v d) (f : flatD d = true) : v = flatOf d := by cases h <;> first | rfl | cases f
theorem dvs_flat {K : PySem.W.Frag} {H : Hp} : ∀ {vs : List V} {ds : List Dt}, DVs K H vs ds → ds.all flatD = true → vs = ds.map flatOf
  | _, _, .nil, _ => rfl
  | _, _, .cons h t, f => by
    simp only [List.all_cons, Bool.and_eq_true] at f
    rw [dv_flat h f.1, dvs_flat t f.2]; rfl
theorem flat_flatOf {d : Dt} : flatV (flatOf d) = true := by cases d <;> rfl
theorem flats_flatOf {ds : List Dt} : (ds.map flatOf).all flatV = true := by rw [List.all_eq_true]; intro x hx; obtain ⟨d, _, rfl⟩ := List.mem_map.mp hx; exact flat_flatOf
def seqD : Dt → Option (List Dt)
  | .lst l => some l
  | .tup l => some l
  | _ => none
theorem dv_seq {K : PySem.W.Frag} {H : Hp} {v : V} {d : Dt} {l : List Dt} (h : DV K H v d) (e : seqD d = some l) : ∃ a xs, v = .ref a ∧ (SqL K H a xs ∨ SqT K H a xs) ∧ DVs K H xs l := by
  cases h with
  | lst h t => cases e; exact ⟨_, _, rfl, .inl (.inl (.inl h)), t⟩
  | tup h t => cases e; exact ⟨_, _, rfl, .inr h.t, t⟩
  | _ => cases e
def inD (d : Dt) (l : List Dt) : Bool := inV (flatOf d) (l.map flatOf)
theorem ov_in {d s : Dt} {l : List Dt} (hs : seqD s = some l) (f1 : flatD d = true) (f2 : l.all flatD = true) (p : P c (.bl (inD d l))) : OpV F X Γ c (compareOp .In) d s P :=
  OpV.of op_in_seq fun σ H x y Q S h1 h2 k => by
    obtain ⟨a, xs, rfl, hq, dv⟩ := dv_seq (h2.mono (mask_ex _ _)) hs
    rw [dv_flat h1 f1]
    have e := dvs_flat dv f2
    subst e
    exact ⟨a, _, rfl, hq, flat_flatOf, flats_flatOf, k _ H c _ p S (Ex.refl _) (.bl _)⟩
theorem ov_notIn {d s : Dt} {l : List Dt} (hs : seqD s = some l) (f1 : flatD d = true) (f2 : l.all flatD = true) (p : P c (.bl (!inD d l))) : OpV F X Γ c (compareOp .NotIn) d s P :=
  OpV.of op_notIn_seq fun σ H x y Q S h1 h2 k => by
    obtain ⟨a, xs, rfl, hq, dv⟩ := dv_seq (h2.mono (mask_ex _ _)) hs
    rw [dv_flat h1 f1]
    have e := dvs_flat dv f2
    subst e
    exact ⟨a, _, rfl, hq, flat_flatOf, flats_flatOf, k _ H c _ p S (Ex.refl _) (.bl _)⟩
def isNon : Dt → Bool
  | .non => true
  | _ => false
theorem dv_isNon {K : PySem.W.Frag} {H : Hp} {v : V} {d : Dt} (h : DV K H v d) (nr : ∀ v, d ≠ .raw v) : decide (v = V.non) = isNon d := by
  cases h <;> first | rfl | exact absurd rfl (nr _)
theorem ov_isN {d : Dt} (nr : ∀ v, d ≠ .raw v) (p : P c (.bl (isNon d))) : OpV F X Γ c (compareOp .Is) d .non P :=
  OpV.of op_isN fun σ H x y Q S h1 h2 k => by cases h2; exact ⟨rfl, k _ H c _ (by rw [← dv_isNon h1 nr] at p; exact p) S (Ex.refl _) (.bl _)⟩
theorem ov_notN {d : Dt} (nr : ∀ v, d ≠ .raw v) (p : P c (.bl (!isNon d))) : OpV F X Γ c (compareOp .IsNot) d .non P :=
  OpV.of op_notN fun σ H x y Q S h1 h2 k => by cases h2; exact ⟨rfl, k _ H c _ (by rw [← dv_isNon h1 nr] at p; exact p) S (Ex.refl _) (.bl _)⟩
theorem ov_cat {l m : List Dt} (hz : l.length + m.length ≤ sizeLine) (p : P c (.lst (l ++ m))) : OpV F X Γ c (binaryOp .Add) (.lst l) (.lst m) P :=
  OpV.of op_cat fun σ H x y Q S h1 h2 k => by
    cases h1 with
    | lst a1 t1 => cases h2 with
      | lst a2 t2 => exact ⟨_, _, _, _, rfl, rfl, (of_mask a1).2, (of_mask a2).2, by rw [t1.length, t2.length]; exact hz, fun q hq => k _ _ c _ p (S.new hq) (Kp.new (F := F) hq).hid (S.newL hq (t1.append t2))⟩
theorem ov_catT {l m : List Dt} (hz : l.length + m.length ≤ sizeLine) (p : P c (.tup (l ++ m))) : OpV F X Γ c (binaryOp .Add) (.tup l) (.tup m) P :=
  OpV.of op_catF fun σ H x y Q S h1 h2 k => by
    cases h1 with
    | tup a1 t1 => cases h2 with
      | tup a2 t2 =>
        refine ⟨_, _, _, _, rfl, rfl, (a1.mono (mask_ex _ _)).t, (a2.mono (mask_ex _ _)).t, by rw [t1.length, t2.length]; exact hz, fun e => ?_, fun e1 e2 => ?_, fun e1 e2 q o hq ho => k _ _ c _ p (S.new hq) (Kp.new (F := F) hq).hid (S.newT hq ho (t1.append t2))⟩
        · subst e
          cases t1
          exact k _ H c _ p S (Ex.refl _) (.tup a2 t2)
        · subst e2
          cases t2
          rw [List.append_nil] at p
          exact k _ H c _ p S (Ex.refl _) (.tup a1 t1)
theorem ov_rep {l : List Dt} {n : Int} (h1 : -(2 ^ 63) ≤ n) (h2 : n < 2 ^ 63) (hz : l.length * n.toNat ≤ sizeLine) (p : P c (.lst (List.replicate n.toNat l).flatten)) : OpV F X Γ c (binaryOp .Mult) (.lst l) (.int n) P :=
  OpV.of op_rep fun σ H x y Q S q1 q2 k => by
    cases q1 with
    | lst a1 t1 =>
      cases q2
      exact ⟨_, _, _, rfl, rfl, (of_mask a1).2, h1, h2, by rw [t1.length]; exact hz, fun q hq => k _ _ c _ p (S.new hq) (Kp.new (F := F) hq).hid (S.newL hq (t1.flat _))⟩
theorem atI_dvs {K : PySem.W.Frag} {H : Hp} {xs : List V} {l : List Dt} {i : Int} {d : Dt} (t : DVs K H xs l) (h : atI l i = some d) : ∃ v, atI xs i = some v ∧ DV K H v d := by
  unfold atI at h ⊢
  rw [t.length]
  cases e : ixN l.length i with
  | none => rw [e] at h; cases h
  | some j =>
    rw [e] at h
    exact t.get h
theorem iv_lst {l : List Dt} {i : Int} {d : Dt} (h : atI l i = some d) (p : P c d) : IxV F X Γ c (.lst l) (.int i) P :=
  IxV.of ix_list fun σ H x y Q S h1 h2 k => by
    cases h1 with
    | lst a t =>
      cases h2
      obtain ⟨v, e, dv⟩ := atI_dvs t h
      exact ⟨_, _, i, v, rfl, rfl, .inl (.inl (of_mask a).2), e, k v H c d p S (Ex.refl _) dv⟩
theorem iv_tup {l : List Dt} {i : Int} {d : Dt} (h : atI l i = some d) (p : P c d) : IxV F X Γ c (.tup l) (.int i) P :=
  IxV.of ix_tup fun σ H x y Q S h1 h2 k => by
    cases h1 with
    | tup a t =>
      cases h2
      obtain ⟨v, e, dv⟩ := atI_dvs t h
      exact ⟨_, _, i, v, rfl, rfl, (a.mono (mask_ex _ _)).t, e, k v H c d p S (Ex.refl _) dv⟩
theorem iv_str {z : Str} {i : Int} {a : Nat} (hz : z.length ≤ sizeLine) (h : atI z.cps.toList i = some a) (p : P c (.str ⟨#[a]⟩)) : IxV F X Γ c (.str z) (.int i) P :=
  IxV.of ix_str fun σ H x y Q S h1 h2 k => by cases h1; cases h2; exact ⟨z, i, a, rfl, rfl, hz, h, k _ H c _ p S (Ex.refl _) (.str _)⟩
def cutD {α : Type} (xs : List α) (lo hi : Option Int) : List α := (xs.drop (HT.sIx xs.length 0 lo)).take (HT.sIx xs.length xs.length hi - HT.sIx xs.length 0 lo)
theorem cut_dvs {K : PySem.W.Frag} {H : Hp} {xs : List V} {l : List Dt} (t : DVs K H xs l) (lo hi : Option Int) : DVs K H (cutV xs lo hi) (cutD l lo hi) := by
  unfold cutV cutD
  rw [t.length]
  exact (t.drop _).take _
theorem sv_lst {l : List Dt} {lo hi : Option Int} (p : P c (.lst (cutD l lo hi))) : SlV F X Γ c lo hi (.lst l) P :=
  SlV.of sl_list fun σ H x Q S h1 k => by
    cases h1 with
    | lst a t => exact ⟨_, _, rfl, .inl (.inl (of_mask a).2), fun q hq => k _ _ c _ p (S.new hq) (Kp.new (F := F) hq).hid (S.newL hq (cut_dvs t lo hi))⟩
theorem cutD_whole {α : Type} {xs : List α} {lo hi : Option Int} (h : HT.sIx xs.length 0 lo = 0 ∧ HT.sIx xs.length xs.length hi = xs.length) : cutD xs lo hi = xs := by
  unfold cutD
  rw [h.1, h.2, List.drop_zero, Nat.sub_zero, List.take_length]
theorem sv_tup {l : List Dt} {lo hi : Option Int} (p : P c (.tup (cutD l lo hi))) : SlV F X Γ c lo hi (.tup l) P :=
  SlV.of sl_tupF fun σ H x Q S h1 k => by
    cases h1 with
    | tup a t =>
      refine ⟨_, _, rfl, (a.mono (mask_ex _ _)).t, fun hw => ?_, fun hw q o hq ho => k _ _ c _ p (S.new hq) (Kp.new (F := F) hq).hid (S.newT hq ho (cut_dvs t lo hi))⟩
      rw [t.length] at hw
      rw [cutD_whole hw] at p
      exact k _ H c _ p S (Ex.refl _) (.tup a t)
theorem cv_len {d : Dt} {l : List Dt} (hs : seqD d = some l) (p : P c (.int l.length)) : ClV F X Γ c (.builtin "len") [d] P :=
  ClV.of call_len_seq fun σ H vs Q S dv k => by
    cases dv with
    | cons h1 t =>
      cases t
      obtain ⟨a, xs, rfl, hq, dv⟩ := dv_seq (h1.mono (mask_ex _ _)) hs
      exact ⟨a, xs, rfl, hq, by rw [dv.length]; exact k _ H c _ p S (Ex.refl _) (.int _)⟩
theorem cv_lenF {l : List Dt} (p : P c (.int l.length)) : ClV F X Γ c (.builtin "len") [.fzl l] P :=
  ClV.of call_len_seq fun σ H vs Q S dv k => by
    cases dv with
    | cons h1 t =>
      cases t
      cases h1 with
      | fzl a t => exact ⟨_, _, rfl, .inl (ex_l (mask_ex _ _) a), by rw [t.length]; exact k _ H c _ p S (Ex.refl _) (.int _)⟩
theorem iv_fzl {l : List Dt} {i : Int} {d : Dt} (h : atI l i = some d) (p : P c d) : IxV F X Γ c (.fzl l) (.int i) P :=
  IxV.of ix_list fun σ H x y Q S h1 h2 k => by
    cases h1 with
    | fzl a t =>
      cases h2
      obtain ⟨v, e, dv⟩ := atI_dvs t h
      exact ⟨_, _, i, v, rfl, rfl, ex_l (mask_ex _ _) a, e, k v H c d p S (Ex.refl _) dv⟩
theorem cv_all {bs : List Bool} (hc : X.calm = true) (p : P c (.bl (bs.all id))) : ClV F X Γ c (.builtin "all") [.lst (bs.map Dt.bl)] P :=
  ClV.of (cr_all hc) fun σ H vs Q S dv k => by
    cases dv with
    | cons h1 t =>
      cases t
      cases h1 with
      | lst a t =>
        have e := t.of_bls
        subst e
        exact ⟨_, bs, rfl, .inl (.inl (of_mask a).2), k _ H c _ p S (Ex.refl _) (.bl _)⟩
theorem cv_any {bs : List Bool} (hc : X.calm = true) (p : P c (.bl (bs.any id))) : ClV F X Γ c (.builtin "any") [.lst (bs.map Dt.bl)] P :=
  ClV.of (cr_any hc) fun σ H vs Q S dv k => by
    cases dv with
    | cons h1 t =>
      cases t
      cases h1 with
      | lst a t =>
        have e := t.of_bls
        subst e
        exact ⟨_, bs, rfl, .inl (.inl (of_mask a).2), k _ H c _ p S (Ex.refl _) (.bl _)⟩
theorem cv_max2 {i j : Int} (hc : X.calm = true) (p : P c (.int (if j > i then j else i))) : ClV F X Γ c (.builtin "max") [.int i, .int j] P :=
  ClV.of (call_max2 hc) fun σ H vs Q S dv k => by
    cases dv with
    | cons h1 t => cases t with | cons h2 t => cases t; cases h1; cases h2; exact ⟨i, j, rfl, k _ H c _ p S (Ex.refl _) (.int _)⟩
theorem cv_min2 {i j : Int} (hc : X.calm = true) (p : P c (.int (if j < i then j else i))) : ClV F X Γ c (.builtin "min") [.int i, .int j] P :=
  ClV.of (call_min2 hc) fun σ H vs Q S dv k => by
    cases dv with
    | cons h1 t => cases t with | cons h2 t => cases t; cases h1; cases h2; exact ⟨i, j, rfl, k _ H c _ p S (Ex.refl _) (.int _)⟩
theorem cv_abs {i : Int} (p : P c (.int (if i < 0 then -i else i))) : ClV F X Γ c (.builtin "abs") [.int i] P :=
  ClV.of call_abs fun σ H vs Q S dv k => by
    cases dv with
    | cons h1 t => cases t; cases h1; exact ⟨i, rfl, k _ H c _ p S (Ex.refl _) (.int _)⟩
theorem cv_tuple {d : Dt} {l : List Dt} (hs : seqD d = some l) (p : P c (.tup l)) : ClV F X Γ c (.type "tuple") [d] P :=
  ClV.of call_tupleF fun σ H vs Q S dv k => by
    cases dv with
    | cons h1 t =>
      cases t
      cases h1 with
      | lst a t => cases hs; exact ⟨_, _, rfl, .inl ⟨.inl (.inl (of_mask a).2), fun q o hq ho => k _ _ c _ p (S.new hq) (Kp.new (F := F) hq).hid (S.newT hq ho t)⟩⟩
      | tup a t => cases hs; exact ⟨_, _, rfl, .inr ⟨(a.mono (mask_ex _ _)).t, k _ H c _ p S (Ex.refl _) (.tup a t)⟩⟩
      | _ => cases hs
theorem cv_list {d : Dt} {l : List Dt} (hs : seqD d = some l) (p : P c (.lst l)) : ClV F X Γ c (.type "list") [d] P :=
  ClV.of call_list_of fun σ H vs Q S dv k => by
    cases dv with
    | cons h1 t =>
      cases t
      cases h1 with
      | lst a t => cases hs; exact ⟨_, _, rfl, .inl (.inl (.inl (of_mask a).2)), fun q hq => k _ _ c _ p (S.new hq) (Kp.new (F := F) hq).hid (S.newL hq t)⟩
      | tup a t => cases hs; exact ⟨_, _, rfl, .inr (a.mono (mask_ex _ _)).t, fun q hq => k _ _ c _ p (S.new hq) (Kp.new (F := F) hq).hid (S.newL hq t)⟩
      | _ => cases hs
def tyD : Dt → String
  | .non => "NoneType" | .bl _ => "bool" | .int _ => "int" | .str _ => "str" | .lst _ => "list" | .tup _ => "tuple" | .par _ => "tuple" | .dct _ => "dict" | .dcu _ => "" | .fzl _ => "list" | .exc _ _ _ => "" | .raw _ => ""
def noRaw : Dt → Bool
  | .dcu _ => false
  | .exc _ _ _ => false
  | .raw _ => false
  | _ => true
theorem dv_ty {K : PySem.W.Frag} {H : Hp} {v : V} {d : Dt} (h : DV K H v d) (nr : noRaw d = true) : TyX K H v (.type (tyD d)) := by
  cases h with
  | non => exact .base .non
  | bl b => exact .base (.bl b)
  | int b => exact .base (.int b)
  | str b => exact .base (.str b)
  | lst h t => exact .base (.lst h)
  | tup h t =>
    rcases h.t with (h | ⟨o, h⟩) | ⟨o, its, n, h1, h2, _⟩
    · exact .base (.tup h)
    · exact .fTuple h
    · exact .kTuple h1 h2
  | par h t =>
    rcases h with (h | ⟨o, h⟩) | ⟨o, its, n, h1, h2, _⟩
    · exact .base (.tup h)
    · exact .fTuple h
    · exact .kTuple h1 h2
  | dct h t => exact .fDict h
  | dcu h t => cases nr
  | fzl h t =>
    rcases h with (h | ⟨o, h⟩) | ⟨o, its, n, h1, h2, _⟩
    · exact .base (.lst h)
    · exact .base (.frz h)
    · exact .kList h1 h2
  | exc h t => cases nr
  | raw v => cases nr
theorem cv_isi {d : Dt} {T : String} {b : Bool} (nr : noRaw d = true) (hk : kitB (tyD d) T = some b) (p : P c (.bl b)) : ClV F X Γ c (.builtin "isinstance") [d, .raw (.ty T)] P :=
  ClV.of call_isi fun σ H vs Q S dv k => by
    cases dv with
    | cons h1 t => cases t with
      | cons h2 t =>
        cases t
        cases h2
        exact ⟨_, _, _, _, b, rfl, .ty T, dv_ty (h1.mono (mask_ex _ _)) nr, kit_ty hk, k _ H c _ p S (Ex.refl _) (.bl _)⟩
/-- a built-in class by its name -/
theorem se_ty {x : Str} {T : String} (hm : X.mg x = none) (p : P c (.raw (.ty T))) (hv : bootBuiltins x = some (.type T) := by decide +kernel) (hg : Gl X x := by rfl) (hn : x ≠ "__name__" := by decide) (hdb : (x == ("__debug__" : Str)) = false := by decide) : SE F X Γ c (.Name x pos) P :=
  SE.here (pe_bltn (v := .ty T) hg hm hv rfl hn hdb) (fun _ => .raw _) p
def isStrD : Dt → Bool
  | .str _ => true
  | _ => false
def isTupD : Dt → Bool
  | .tup _ => true
  | .par _ => true
  | _ => false
theorem cv_isStr {d : Dt} (nr : noRaw d = true) (p : P c (.bl (isStrD d))) : ClV F X Γ c (.builtin "isinstance") [d, .raw (.ty "str")] P :=
  cv_isi nr (b := isStrD d) (by
    cases d with
    | non => exact (by decide +kernel : kitB "NoneType" "str" = some false)
    | bl _ => exact (by decide +kernel : kitB "bool" "str" = some false)
    | int _ => exact (by decide +kernel : kitB "int" "str" = some false)
    | str _ => exact (by decide +kernel : kitB "str" "str" = some true)
    | lst _ => exact (by decide +kernel : kitB "list" "str" = some false)
    | tup _ => exact (by decide +kernel : kitB "tuple" "str" = some false)
    | par _ => exact (by decide +kernel : kitB "tuple" "str" = some false)
    | dct _ => exact (by decide +kernel : kitB "dict" "str" = some false)
    | dcu _ => cases nr
    | fzl _ => exact (by decide +kernel : kitB "list" "str" = some false)
    | exc _ _ _ => cases nr
    | raw _ => cases nr) p
theorem cv_isTup {d : Dt} (nr : noRaw d = true) (p : P c (.bl (isTupD d))) : ClV F X Γ c (.builtin "isinstance") [d, .raw (.ty "tuple")] P :=
  cv_isi nr (b := isTupD d) (by
    cases d with
    | non => exact (by decide +kernel : kitB "NoneType" "tuple" = some false)
    | bl _ => exact (by decide +kernel : kitB "bool" "tuple" = some false)
    | int _ => exact (by decide +kernel : kitB "int" "tuple" = some false)
    | str _ => exact (by decide +kernel : kitB "str" "tuple" = some false)
    | lst _ => exact (by decide +kernel : kitB "list" "tuple" = some false)
    | tup _ => exact (by decide +kernel : kitB "tuple" "tuple" = some true)
    | par _ => exact (by decide +kernel : kitB "tuple" "tuple" = some true)
    | dct _ => exact (by decide +kernel : kitB "dict" "tuple" = some false)
    | dcu _ => cases nr
    | fzl _ => exact (by decide +kernel : kitB "list" "tuple" = some false)
    | exc _ _ _ => cases nr
    | raw _ => cases nr) p
def isIntD : Dt → Bool
  | .int _ => true
  | .bl _ => true
  | _ => false
def isBoolD : Dt → Bool
  | .bl _ => true
  | _ => false
theorem cv_isInt {d : Dt} (nr : noRaw d = true) (p : P c (.bl (isIntD d))) : ClV F X Γ c (.builtin "isinstance") [d, .raw (.ty "int")] P :=
  cv_isi nr (b := isIntD d) (by
    cases d with
    | non => exact (by decide +kernel : kitB "NoneType" "int" = some false)
    | bl _ => exact (by decide +kernel : kitB "bool" "int" = some true)
    | int _ => exact (by decide +kernel : kitB "int" "int" = some true)
    | str _ => exact (by decide +kernel : kitB "str" "int" = some false)
    | lst _ => exact (by decide +kernel : kitB "list" "int" = some false)
    | tup _ => exact (by decide +kernel : kitB "tuple" "int" = some false)
    | par _ => exact (by decide +kernel : kitB "tuple" "int" = some false)
    | dct _ => exact (by decide +kernel : kitB "dict" "int" = some false)
    | dcu _ => cases nr
    | fzl _ => exact (by decide +kernel : kitB "list" "int" = some false)
    | exc _ _ _ => cases nr
    | raw _ => cases nr) p
theorem cv_isBool {d : Dt} (nr : noRaw d = true) (p : P c (.bl (isBoolD d))) : ClV F X Γ c (.builtin "isinstance") [d, .raw (.ty "bool")] P :=
  cv_isi nr (b := isBoolD d) (by
    cases d with
    | non => exact (by decide +kernel : kitB "NoneType" "bool" = some false)
    | bl _ => exact (by decide +kernel : kitB "bool" "bool" = some true)
    | int _ => exact (by decide +kernel : kitB "int" "bool" = some false)
    | str _ => exact (by decide +kernel : kitB "str" "bool" = some false)
    | lst _ => exact (by decide +kernel : kitB "list" "bool" = some false)
    | tup _ => exact (by decide +kernel : kitB "tuple" "bool" = some false)
    | par _ => exact (by decide +kernel : kitB "tuple" "bool" = some false)
    | dct _ => exact (by decide +kernel : kitB "dict" "bool" = some false)
    | dcu _ => cases nr
    | fzl _ => exact (by decide +kernel : kitB "list" "bool" = some false)
    | exc _ _ _ => cases nr
    | raw _ => cases nr) p
theorem se_join {o e : Expr} {apos : Pos} (h : SE F X Γ c o fun c1 d => ∃ a, d = .str a ∧ SE F X Γ c1 e fun c2 d2 => ∃ ys : List Str, seqD d2 = some (ys.map Dt.str) ∧ (ys.map (·.length)).sum + ys.length * a.length ≤ 16777216 ∧ P c2 (.str (Txt.join a ys)))
    (hs : starEach [e] X.env = [(false, eval e X.env)] := by rfl) (hb : attributeBase o "join" X.env (eval o X.env) = eval o X.env := by rfl) (hl : (apos.endLine == pos.line) = true := by rfl) : SE F X Γ c (.Call (.Attribute o "join" apos) [e] [] pos) P :=
  SE.of (pe_join pE pE hs hb hl) fun σ H Q S k => by
    refine h σ H _ S fun v H1 c1 d1 p S1 k1 dv1 => ?_
    obtain ⟨a, rfl, p⟩ := p
    cases dv1
    refine ⟨⟨a, rfl⟩, p σ H1 _ S1 fun w H2 c2 d2 p2 S2 k2 dv2 => ?_⟩
    obtain ⟨ys, e, hz, p2⟩ := p2
    obtain ⟨q, xs, rfl, hq, dv⟩ := dv_seq (dv2.mono (mask_ex _ _)) e
    have e2 := dv.of_strs
    subst e2
    exact ⟨a, q, ys, rfl, rfl, hq, hz, k _ H2 c2 _ p2 S2 (k1.trans k2) (.str _)⟩
end
end D
end
section
set_option Elab.async false
set_option linter.all false
set_option maxRecDepth 100000
namespace D
open PySem L2
structure PEnds where
  nx : List Sl → Cells → Prop
  rt : List Sl → Cells → Dt → Prop
  bk : List Sl → Cells → Prop := fun _ _ => False
  ct : List Sl → Cells → Prop := fun _ _ => False
structure EO (K : PySem.W.Frag) (F : Fm) (c : Cells) (H : Hp) (Φ : PEnds) (D : Ends) : Prop where
  nx : ∀ Γ' c' σ' H', Φ.nx Γ' c' → SI K F Γ' c' σ' H' → Ex (Vw F c H) (Vw F c' H') → D.nx σ' H'
  rt : ∀ Γ' c' σ' H' v d, Φ.rt Γ' c' d → SI K F Γ' c' σ' H' → Ex (Vw F c H) (Vw F c' H') → DV K (Vw F c' H') v d → D.rt v H'
  bk : ∀ Γ' c' σ' H', Φ.bk Γ' c' → SI K F Γ' c' σ' H' → Ex (Vw F c H) (Vw F c' H') → D.bk σ' H'
  ct : ∀ Γ' c' σ' H', Φ.ct Γ' c' → SI K F Γ' c' σ' H' → Ex (Vw F c H) (Vw F c' H') → D.ct σ' H'
theorem EO.ext {K : PySem.W.Frag} {F : Fm} {c c1 : Cells} {H H1 : Hp} {Φ : PEnds} {D : Ends} (E : EO K F c H Φ D) (e : Ex (Vw F c H) (Vw F c1 H1)) : EO K F c1 H1 Φ D :=
  ⟨fun Γ' c' σ' H' p S k => E.nx Γ' c' σ' H' p S (e.trans k), fun Γ' c' σ' H' v d p S k => E.rt Γ' c' σ' H' v d p S (e.trans k), fun Γ' c' σ' H' p S k => E.bk Γ' c' σ' H' p S (e.trans k), fun Γ' c' σ' H' p S k => E.ct Γ' c' σ' H' p S (e.trans k)⟩
structure SS (F : Fm) (X : Cx) (Γ : List Sl) (c : Cells) (ss : List Stmt) (Φ : PEnds) : Prop where
  run : ∀ (σ : L2.St) (H : Hp) (D : Ends), SI X.K F Γ c σ H → EO X.K F c H Φ D → tSts X ss D σ H
instance {F : Fm} {X : Cx} {Γ : List Sl} {c : Cells} {ss : List Stmt} {Φ : PEnds} : CoeFun (SS F X Γ c ss Φ) fun _ => ∀ (σ : L2.St) (H : Hp) (D : Ends), SI X.K F Γ c σ H → EO X.K F c H Φ D → tSts X ss D σ H := ⟨SS.run⟩
structure S1 (F : Fm) (X : Cx) (Γ : List Sl) (c : Cells) (st : Stmt) (Φ : PEnds) : Prop where
  run : ∀ (σ : L2.St) (H : Hp) (D : Ends), SI X.K F Γ c σ H → EO X.K F c H Φ D → tSt X st D σ H
instance {F : Fm} {X : Cx} {Γ : List Sl} {c : Cells} {st : Stmt} {Φ : PEnds} : CoeFun (S1 F X Γ c st Φ) fun _ => ∀ (σ : L2.St) (H : Hp) (D : Ends), SI X.K F Γ c σ H → EO X.K F c H Φ D → tSt X st D σ H := ⟨S1.run⟩
end D
end
section
set_option Elab.async false
set_option linter.all false
set_option maxRecDepth 100000
namespace D
open PySem L2
section
variable {F : Fm} {X : Cx} {Γ : List Sl} {c : Cells} {Φ : PEnds} {pos : Pos}
theorem ss_nil (p : Φ.nx Γ c) : SS F X Γ c [] Φ := .mk fun σ H D S E => tSts_of pss_nil (E.nx Γ c σ H p S (Ex.refl _))
theorem ss_cons {s : Stmt} {rest : List Stmt} (h : S1 F X Γ c s { Φ with nx := fun Γ1 c1 => SS F X Γ1 c1 rest Φ }) : SS F X Γ c (s :: rest) Φ := .mk fun σ H D S E =>
  tSts_of (pss_cons pSt pSts) (h σ H { D with nx := tSts X rest D } S ⟨fun Γ1 c1 σ1 H1 q S1 e => q σ1 H1 D S1 (E.ext e), E.rt, E.bk, E.ct⟩)
theorem ss_one {s : Stmt} (h : S1 F X Γ c s Φ) : SS F X Γ c [s] Φ := .mk fun σ H D S E => tSts_of (pss_one pSt) (h σ H D S E)
theorem S1.of {s : Stmt} {t : TS} (hp : PS X s t) (h : ∀ (σ : L2.St) (H : Hp) (D : Ends), SI X.K F Γ c σ H → EO X.K F c H Φ D → t D σ H) : S1 F X Γ c s Φ := .mk fun σ H D S E => tSt_of hp (h σ H D S E)
theorem s_ret {e : Expr} (h : SE F X Γ c e (Φ.rt Γ)) : S1 F X Γ c (.Return (some e) pos) Φ :=
  S1.of (ps_ret pE) fun σ H D S E => h σ H _ S fun v H' c' d p S' e' dv => E.rt Γ c' σ H' v d p S' e' dv
theorem s_if {t : Expr} {a b : List Stmt} (h : ST F X Γ c t fun c1 k => if k = true then SS F X Γ c1 a Φ else SS F X Γ c1 b Φ) : S1 F X Γ c (.If t a b pos) Φ :=
  S1.of (ps_if pT pSts pSts) fun σ H D S E => h σ H _ S fun k H1 c1 p S1 e => by
    cases k with
    | true => exact (show SS F X Γ c1 a Φ from p) σ H1 D S1 (E.ext e)
    | false => exact (show SS F X Γ c1 b Φ from p) σ H1 D S1 (E.ext e)
theorem s_expr {e : Expr} (h : SE F X Γ c e fun c1 _ => Φ.nx Γ c1) (hs : swapsWith e none pos.line X.env = pure false := by rfl) : S1 F X Γ c (.Expr e pos) Φ :=
  S1.of (ps_expr pE hs) fun σ H D S E => h σ H _ S fun v H' c' d p S' e' dv => E.nx Γ c' σ H' p S' e'
def tGt (X : Cx) (tg : Expr) : TG := fun v σ H Q => ∃ g, PG X tg g ∧ g v σ H Q
theorem pGt {tg : Expr} : PG X tg (tGt X tg) := ⟨fun pins s σ H v u Q I r ⟨g, h, q⟩ => h.run pins s σ H v u Q I r q⟩
def tGts (X : Cx) (tgs : List Expr) : TGs := fun vs σ H Q => ∃ g, PGs X tgs g ∧ g vs σ H Q
theorem pGts {tgs : List Expr} : PGs X tgs (tGts X tgs) := ⟨fun pins s σ H v u Q I r ⟨g, h, q⟩ => h.run pins s σ H v u Q I r q⟩
structure SG (F : Fm) (X : Cx) (Γ : List Sl) (c : Cells) (tg : Expr) (d : Dt) (N : List Sl → Prop) : Prop where
  run : ∀ (σ : L2.St) (H : Hp) (v : V) (Q : L2.St → Hp → Prop), SI X.K F Γ c σ H → DV X.K (Vw F c H) v d → (∀ Γ' σ', N Γ' → SI X.K F Γ' c σ' H → Q σ' H) → tGt X tg v σ H Q
instance {F : Fm} {X : Cx} {Γ : List Sl} {c : Cells} {tg : Expr} {d : Dt} {N : List Sl → Prop} : CoeFun (SG F X Γ c tg d N) fun _ => ∀ (σ : L2.St) (H : Hp) (v : V) (Q : L2.St → Hp → Prop), SI X.K F Γ c σ H → DV X.K (Vw F c H) v d → (∀ Γ' σ', N Γ' → SI X.K F Γ' c σ' H → Q σ' H) → tGt X tg v σ H Q := ⟨SG.run⟩
structure SGs (F : Fm) (X : Cx) (Γ : List Sl) (c : Cells) (tgs : List Expr) (ds : List Dt) (N : List Sl → Prop) : Prop where
  run : ∀ (σ : L2.St) (H : Hp) (vs : List V) (Q : L2.St → Hp → Prop), SI X.K F Γ c σ H → DVs X.K (Vw F c H) vs ds → (∀ Γ' σ', N Γ' → SI X.K F Γ' c σ' H → Q σ' H) → tGts X tgs vs σ H Q
instance {F : Fm} {X : Cx} {Γ : List Sl} {c : Cells} {tgs : List Expr} {ds : List Dt} {N : List Sl → Prop} : CoeFun (SGs F X Γ c tgs ds N) fun _ => ∀ (σ : L2.St) (H : Hp) (vs : List V) (Q : L2.St → Hp → Prop), SI X.K F Γ c σ H → DVs X.K (Vw F c H) vs ds → (∀ Γ' σ', N Γ' → SI X.K F Γ' c σ' H → Q σ' H) → tGts X tgs vs σ H Q := ⟨SGs.run⟩
theorem sg_name (i : Nat) {x : Str} {d : Dt} {N : List Sl → Prop} (hN : X.N.Nodup) (p : N (Γ.set i (.dat d))) (hi : X.N[i]? = some x := by rfl) (hx : Loc X.env.scope x := by first | exact Or.inl rfl | exact Or.inr rfl)
    (hf : X.fn x = true ∨ X.env.scope.names.lookup x = some .local := by first | exact .inl rfl | exact .inr rfl) : SG F X Γ c (.Name x pos) d N :=
  .mk fun σ H v Q S dv k => ⟨gName i, pg_name hN hi hx hf, k _ _ p (S.setD dv)⟩
theorem sgs_nil {N : List Sl → Prop} (p : N Γ) : SGs F X Γ c [] [] N := .mk fun σ H vs Q S dv k => by cases dv; exact ⟨gNil, pgs_nil, rfl, k Γ σ p S⟩
theorem sgs_cons {t : Expr} {ts : List Expr} {d : Dt} {ds : List Dt} {N : List Sl → Prop} (h : SG F X Γ c t d fun Γ1 => SGs F X Γ1 c ts ds N)
    (hs : (assignEach (t :: ts) X.env).map (·.2) = assign t X.env :: (assignEach ts X.env).map (·.2) := by rfl) : SGs F X Γ c (t :: ts) (d :: ds) N := .mk fun σ H vs Q S dv k => by
  cases dv with
  | cons h1 t1 =>
    refine ⟨gCons (tGt X t) (tGts X ts), pgs_cons pGt pGts hs, _, _, rfl, ?_⟩
    exact h σ H _ _ S h1 fun Γ1 σ1 p S1 => p σ1 H _ Q S1 t1 fun Γ2 σ2 p2 S2 => k Γ2 σ2 p2 S2
theorem sg_tup {es : List Expr} {kk : Nat} {ds : List Dt} {N : List Sl → Prop} (hc : X.calm = true) (h : SGs F X Γ c es ds N) (hn : (assignEach es X.env).length = ds.length := by rfl) (hst : (assignEach es X.env).findIdx? (·.1) = none := by rfl) : SG F X Γ c (.Tuple es kk pos) (.tup ds) N := .mk fun σ H v Q S dv k => by
  cases dv with
  | tup a t => exact ⟨_, pg_tup (n := ds.length) hc pGts hn hst, _, _, rfl, (a.mono (mask_ex _ _)).t, t.length, h σ H _ Q S t k⟩
theorem sg_par {es : List Expr} {kk : Nat} {ds : List Dt} {N : List Sl → Prop} (hc : X.calm = true) (h : SGs F X Γ c es ds N) (hn : (assignEach es X.env).length = ds.length := by rfl) (hst : (assignEach es X.env).findIdx? (·.1) = none := by rfl) : SG F X Γ c (.Tuple es kk pos) (.par ds) N := .mk fun σ H v Q S dv k => by
  cases dv with
  | par a t => exact ⟨_, pg_tup (n := ds.length) hc pGts hn hst, _, _, rfl, ex_t (mask_ex _ _) a, t.length, h σ H _ Q S t k⟩
theorem s_asg {tg e : Expr} (h : SE F X Γ c e fun c1 d => SG F X Γ c1 tg d fun Γ' => Φ.nx Γ' c1) (hs : swapsWithSole [tg] e pos.line X.env = pure false := by rfl) (hw : swappedStores [tg] e X.env = pure none := by rfl)
    (h1 : (assignEach [tg] X.env).map (·.2) = [assign tg X.env] := by rfl) : S1 F X Γ c (.Assign [tg] e pos) Φ :=
  S1.of (ps_asg pE pGt hs hw h1) fun σ H D S E => h σ H _ S fun v H' c' d p S' e' dv => p σ H' v _ S' dv fun Γ2 σ2 p2 S2 => E.nx Γ2 c' σ2 H' p2 S2 e'
/-- a, b = e1, e2, both names plain locals -/
theorem s_par (i j : Nat) {x y : Str} {a b : Expr} {px py pt : Pos} {kt k2 pt2} (hc : X.calm = true) (hN : X.N.Nodup) (hij : i ≠ j) (h : SA F X Γ c [a, b] fun c1 ds => ∃ d1 d2, ds = [d1, d2] ∧ Φ.nx ((Γ.set i (.dat d1)).set j (.dat d2)) c1)
    (hi : X.N[i]? = some x := by rfl) (hj : X.N[j]? = some y := by rfl) (hx : X.env.scope.names.lookup x = some .local := by rfl) (hy : X.env.scope.names.lookup y = some .local := by rfl)
    (hw : swappedStores [.Tuple [.Name x px, .Name y py] kt pt] (.Tuple [a, b] k2 pt2) X.env = pure (some [x, y]) := by rfl) (hs : swapsWithSole [.Tuple [.Name x px, .Name y py] kt pt] (.Tuple [a, b] k2 pt2) pos.line X.env = pure false := by rfl) :
    S1 F X Γ c (.Assign [.Tuple [.Name x px, .Name y py] kt pt] (.Tuple [a, b] k2 pt2) pos) Φ :=
  S1.of (ps_par hc hN hi hj hij hx hy pAs hw hs) fun σ H D S E => h σ H _ S fun vs H' c' ds p S' e' dv => by
    obtain ⟨d1, d2, rfl, p⟩ := p
    cases dv with
    | cons h1 t => cases t with
      | cons h2 t =>
        cases t
        exact ⟨_, _, rfl, E.nx _ c' _ H' p ((S'.setD h1).setD h2) e'⟩
structure SEL (F : Fm) (X : Cx) (Γ : List Sl) (c : Cells) (e : Expr) (P : Cells → List Dt → Prop) : Prop where
  run : ∀ (σ : L2.St) (H : Hp) (Q : VK), SI X.K F Γ c σ H → (∀ p xs H1 c' l, P c' l → SI X.K F Γ c' σ H1 → Ex (Vw F c H) (Vw F c' H1) → H1 p = none → DVs X.K (Vw F c' H1) xs l → Q (.ref p) (upd H1 p (.lst xs))) → tE X e σ H Q
instance {F : Fm} {X : Cx} {Γ : List Sl} {c : Cells} {e : Expr} {P : Cells → List Dt → Prop} : CoeFun (SEL F X Γ c e P) fun _ => ∀ (σ : L2.St) (H : Hp) (Q : VK), SI X.K F Γ c σ H → (∀ p xs H1 c' l, P c' l → SI X.K F Γ c' σ H1 → Ex (Vw F c H) (Vw F c' H1) → H1 p = none → DVs X.K (Vw F c' H1) xs l → Q (.ref p) (upd H1 p (.lst xs))) → tE X e σ H Q := ⟨SEL.run⟩
theorem SEL.se {e : Expr} {P : Cells → Dt → Prop} (h : SEL F X Γ c e fun c1 l => P c1 (.lst l)) : SE F X Γ c e P := .mk fun σ H Q S k =>
  h σ H Q S fun p xs H1 c' l q S1 e1 hp dv => k _ _ c' _ q (S1.new hp) (e1.trans (Kp.new (F := F) hp).hid) (S1.newL hp dv)
theorem sel_lst {es : List Expr} {P : Cells → List Dt → Prop} (h : SA F X Γ c es fun c1 ds => ds.length ≤ sizeLine ∧ P c1 ds) : SEL F X Γ c (.List es pos) P := .mk fun σ H Q S k =>
  tE_of (pe_lst pAs) (h σ H _ S fun vs H1 c1 ds p S1 k1 dv => ⟨by rw [dv.length]; exact p.1, fun q hq => k q vs H1 c1 ds p.2 S1 k1 hq dv⟩)
theorem sel_list {x : Str} {p : Pos} {e : Expr} {P : Cells → List Dt → Prop} (hm : X.mg x = none) (h : SE F X Γ c e fun c1 d => ∃ l, seqD d = some l ∧ P c1 l) (hv : bootBuiltins x = some (.type "list") := by decide +kernel) (hg : Gl X x := by rfl) (hn : x ≠ "__name__" := by decide) (hdb : (x == ("__debug__" : Str)) = false := by decide)
    (he : starEach [e] X.env = (false, eval e X.env) :: starEach [] X.env := by rfl) (hpl : (backTo pos (starEach [] X.env)).any (·.1) = false := by rfl) : SEL F X Γ c (.Call (.Name x p) [e] [] pos) P := .mk fun σ H Q S k => by
  refine tE_of (pe_callTy call_list_of hg hm hv (pa_cons pE pa_nil he) hn hdb he hpl) ?_
  refine h σ H _ S fun v H1 c1 d1 p S1 k1 dv1 => ?_
  obtain ⟨l, hs, p⟩ := p
  cases dv1 with
  | lst a t => cases hs; exact ⟨_, _, rfl, .inl (.inl (.inl (of_mask a).2)), fun q hq => k q _ H1 c1 _ p S1 k1 hq t⟩
  | tup a t => cases hs; exact ⟨_, _, rfl, .inr (a.mono (mask_ex _ _)).t, fun q hq => k q _ H1 c1 _ p S1 k1 hq t⟩
  | _ => cases hs
/-- a new list as a cell of one's own -/
theorem SEL.sc {e : Expr} {P : Cells → Dt → Prop} (h : SEL F X Γ c e fun c1 l => ∀ a, P (c1 ++ [(a, .lst l)]) (.raw (.ref a))) : SE F X Γ c e P := .mk fun σ H Q S k =>
  h σ H Q S fun p xs H1 c' l q S1 e1 hp dv => by
    obtain ⟨S2, e2⟩ := S1.addC (q := .lst l) (o := .lst xs) hp rfl ⟨xs, upd_same, dv⟩
    exact k _ _ _ _ (q p) S2 (e1.trans e2) (.raw _)
/-- the cell j, a list, is a datum from now on, which the slot i holds -/
theorem SI.frL {K : PySem.W.Frag} {σ : L2.St} {H : Hp} (S : SI K F Γ c σ H) (i j : Nat) {a : Addr} {l : List Dt} (hi : Γ[i]? = some (.dat (.raw (.ref a)))) (hj : c[j]? = some (a, .lst l)) : SI K F (Γ.set i (.dat (.lst l))) (c.eraseIdx j) σ H ∧ Ex (Vw F c H) (Vw F (c.eraseIdx j) H) := by
  obtain ⟨xs, h1, h2⟩ := S.cat hj
  obtain ⟨S2, e2, ha⟩ := S.letGo (H' := H) hj (fun _ _ => rfl) fun x hx => by cases List.mem_singleton.mp hx; exact ⟨_, h1⟩
  have hv := ha a (List.mem_cons_self ..)
  obtain ⟨v, s1, s2⟩ := S.sl i _ hi
  have ev : v = .ref a := by cases s2; rfl
  subst ev
  have es : σ.set i (some (.ref a)) = σ := by
    refine List.ext_getElem? fun k => ?_
    by_cases hik : i = k
    · subst hik
      rw [List.getElem?_set_self (List.getElem?_eq_some_iff.mp s1).1, s1]
    · rw [List.getElem?_set_ne hik]
  have q := S2.setD (i := i) (v := .ref a) (d := .lst l) (.lst (hv.trans h1) (h2.mono e2))
  rw [es] at q
  exact ⟨q, e2⟩
theorem ss_freeze (i j : Nat) {a : Addr} {l : List Dt} {ss : List Stmt} (hi : Γ[i]? = some (.dat (.raw (.ref a)))) (hj : c[j]? = some (a, .lst l)) (h : SS F X (Γ.set i (.dat (.lst l))) (c.eraseIdx j) ss Φ) : SS F X Γ c ss Φ := .mk fun σ H D S E => by
  obtain ⟨S2, e2⟩ := S.frL i j hi hj
  exact h σ H D S2 (E.ext e2)
/-- other cells, of which the present ones are an order -/
theorem ss_perm {c' : Cells} {ss : List Stmt} (hp : c.Perm c') (h : SS F X Γ c' ss Φ) : SS F X Γ c ss Φ := .mk fun σ H D S E => h σ H D (S.perm hp) (E.ext (by rw [vw_perm hp]; exact Ex.refl _))
/-- methods of a list of one's own: o.append(e) -/
theorem se_append (j : Nat) {a : Addr} {l : List Dt} {o e : Expr} {apos : Pos} {P : Cells → Dt → Prop} (h : SE F X Γ c o fun c0 d0 => d0 = .raw (.ref a) ∧ (∃ l0, c0[j]? = some (a, .lst l0)) ∧ SE F X Γ c0 e fun c1 d => c1[j]? = some (a, .lst l) ∧ l.length < sizeLine ∧ P (c1.set j (a, .lst (l ++ [d]))) .non)
    (hb : attributeBase o "append" X.env (eval o X.env) = eval o X.env := by rfl)
    (hall : (((backTo pos (starEach [e] X.env)).all (fun x => !x.1)) && ((backToKw pos (keywordEach [] X.env)).all (fun x => x.1.isSome)) && decide ([e].length + ([] : List Keyword).length + (if ([] : List Keyword).isEmpty = true then 0 else 1) < 30)) = true := by rfl)
    (hline : (apos.endLine == pos.line) = true := by rfl) (hst : starEach [e] X.env = (false, eval e X.env) :: starEach [] X.env := by rfl) (hpl : (backTo pos (starEach [] X.env)).any (·.1) = false := by rfl) : SE F X Γ c (.Call (.Attribute o "append" apos) [e] [] pos) P :=
  SE.of (pe_bm PySem.F.plainAttrs_list PySem.F.slot_list_append PySem.F.type_list_append mt_append pE (pa_cons pE pa_nil hst) hb hall hline hst hpl) fun σ H Q S k => by
    refine h σ H _ S fun v0 H0 c0 d0 p0 S0 e0 dv0 => ?_
    obtain ⟨rfl, ⟨l0, hj0⟩, p0⟩ := p0
    cases dv0
    obtain ⟨xs, h1, _⟩ := S0.cat hj0
    refine ⟨Or.inl ⟨rfl, xs, .inl (.inl h1)⟩, p0 σ H0 _ S0 fun v H' c' d p S' e' dv => ?_⟩
    obtain ⟨hj, hz, p⟩ := p
    obtain ⟨ys, h2, h3⟩ := S'.cat hj
    obtain ⟨S2, e2⟩ := S'.updC (q' := .lst (l ++ [d])) (o := .lst (ys ++ [v])) hj rfl rfl ⟨_, upd_same, h3.append (.cons dv .nil)⟩
    exact ⟨a, ys, v, rfl, rfl, h2, by rw [h3.length]; exact hz, k _ _ _ _ p S2 ((e0.trans e').trans e2) .non⟩
end
end D
end
section
set_option Elab.async false
set_option linter.all false
set_option maxRecDepth 100000
namespace D
open PySem L2
def wI (X : Cx) (tg iter : Expr) : TI := fun σ H R => ∃ w, PI X tg iter w ∧ w σ H R
theorem pI {X : Cx} {tg iter : Expr} : PI X tg iter (wI X tg iter) := ⟨fun pins s σ H R I ⟨w, h, q⟩ => h.run pins s σ H R I q⟩
/-- the i-th item: there already, or a pair that is new -/
def Item (K : PySem.W.Frag) (V0 : Hp) (H1 : Hp) (x : V) (H2 : Hp) (d : Dt) : Prop :=
  (H2 = H1 ∧ DV K V0 x d) ∨ ∃ T x1 x2 d1 d2, x = .ref T ∧ H1 T = none ∧ H2 = upd H1 T (.tup [x1, x2]) ∧ d = .par [d1, d2] ∧ DV K V0 x1 d1 ∧ DV K V0 x2 d2
def Src (K : PySem.W.Frag) (V0 : Hp) (J : It) (ds : List Dt) : Prop :=
  ∃ (G : Hp → Prop) (Y : Nat → Hp → V → Hp → Prop), Walk J ds.length G Y ∧ (∀ H, Ex V0 H → G H) ∧ ∀ i H1 x H2, i < ds.length → Y i H1 x H2 → Ex V0 H1 → ∃ d, ds[i]? = some d ∧ Item K V0 H1 x H2 d
structure SW (F : Fm) (X : Cx) (Γ : List Sl) (c : Cells) (tg iter : Expr) (P : Cells → List Dt → Prop) : Prop where
  run : ∀ (σ : L2.St) (H : Hp) (R : It → Hp → Prop), SI X.K F Γ c σ H → (∀ J H' c' ds, P c' ds → SI X.K F Γ c' σ H' → Ex (Vw F c H) (Vw F c' H') → Src X.K (Vw F c' H') J ds → R J H') → wI X tg iter σ H R
instance {F : Fm} {X : Cx} {Γ : List Sl} {c : Cells} {tg iter : Expr} {P : Cells → List Dt → Prop} : CoeFun (SW F X Γ c tg iter P) fun _ => ∀ (σ : L2.St) (H : Hp) (R : It → Hp → Prop), SI X.K F Γ c σ H → (∀ J H' c' ds, P c' ds → SI X.K F Γ c' σ H' → Ex (Vw F c H) (Vw F c' H') → Src X.K (Vw F c' H') J ds → R J H') → wI X tg iter σ H R := ⟨SW.run⟩
/-- the signs of a text -/
def signs (z : Str) : List Dt := z.cps.toList.map fun a => Dt.str ⟨#[a]⟩
def idxs (n : Nat) : List Dt := (List.range n).map fun (i : Nat) => Dt.int (i : Int)
def enumD (l : List Dt) : List Dt := (List.range l.length).map fun (i : Nat) => Dt.par [.int (i : Int), l.getD i .non]
def zipD (l m : List Dt) : List Dt := (l.zip m).map fun p => Dt.par [p.1, p.2]
section
variable {F : Fm} {X : Cx} {Γ : List Sl} {c : Cells} {Φ : PEnds} {pos : Pos} {tg : Expr} {P : Cells → List Dt → Prop} {K : PySem.W.Frag}
theorem src_at {V0 : Hp} {J : It} {xs : List V} {l : List Dt} {G : Hp → Prop} (w : Walk J xs.length G (YAt xs)) (hG : ∀ H, Ex V0 H → G H) (t : DVs K V0 xs l) : Src K V0 J l :=
  ⟨G, YAt xs, t.length ▸ w, hG, fun i H1 x H2 hi y _ => by
    obtain ⟨d, h1, h2⟩ := t.getV y.2
    exact ⟨d, h1, .inl ⟨y.1, h2⟩⟩⟩
theorem sw_lst {e : Expr} (h : SE F X Γ c e fun c1 d => ∃ l, d = .lst l ∧ P c1 l) : SW F X Γ c tg e P := .mk fun σ H R S k =>
  ⟨_, pi_list pE, h σ H _ S fun v H1 c1 d p S1 k1 dv => by
    obtain ⟨l, rfl, p⟩ := p
    cases dv with
    | lst a t => exact ⟨_, rfl, ⟨_, .inl (.inl (of_mask a).2)⟩, k _ H1 c1 l p S1 k1 (src_at walk_list (fun H e => .inl (.inl (e _ _ a))) t)⟩⟩
theorem src_str {V0 : Hp} {z : Str} : Src K V0 (Its z) (signs z) := by
  have hl : (signs z).length = z.cps.size := by unfold signs; rw [List.length_map, Array.length_toList]
  refine ⟨_, _, hl.symm ▸ walk_str, fun _ _ => True.intro, fun i H1 x H2 hi y _ => ?_⟩
  obtain ⟨h1, a, h2, rfl⟩ := y
  refine ⟨.str ⟨#[a]⟩, ?_, .inl ⟨h1, .str _⟩⟩
  unfold signs
  rw [List.getElem?_map, Array.getElem?_toList, h2]
  rfl
theorem src_range {V0 : Hp} {n : Nat} : Src K V0 (Itr 0 n) (idxs n) := by
  have hl : (idxs n).length = n := by unfold idxs; rw [List.length_map, List.length_range]
  refine ⟨fun _ => True, YFn fun i => .int (0 + (i : Nat)), by rw [hl]; exact walk_range, fun _ _ => True.intro, fun i H1 x H2 hi y _ => ?_⟩
  obtain ⟨h1, h2⟩ := y
  rw [hl] at hi
  refine ⟨.int (i : Int), ?_, .inl ⟨h1, ?_⟩⟩
  · unfold idxs
    rw [List.getElem?_map, List.getElem?_range hi]
    rfl
  · rw [h2]
    show DV K V0 (V.int (0 + (i : Int))) _
    rw [Int.zero_add]
    exact .int _
theorem sw_range {e : Expr} {p : Pos} (hm : X.mg "range" = none) (h : SE F X Γ c e fun c1 d => ∃ j : Int, d = .int j ∧ -(2 ^ 62) ≤ j ∧ j < 2 ^ 62 ∧ P c1 (idxs j.toNat)) (hg : Gl X "range" := by rfl) (hs : starEach [e] X.env = [(false, eval e X.env)] := by rfl) : SW F X Γ c tg (.Call (.Name "range" p) [e] [] pos) P := .mk fun σ H R S k =>
  ⟨_, pi_range1 hg hm (pa_cons pE pa_nil hs) hs, h σ H _ S fun v H1 c1 d p S1 k1 dv => by
    obtain ⟨j, rfl, a, b, p⟩ := p
    cases dv
    exact ⟨j, rfl, a, b, k _ H1 c1 _ p S1 k1 src_range⟩⟩
theorem Item.dv {F : Fm} {Γ1 : List Sl} {c c1 : Cells} {σ : L2.St} {H H1 H2 : Hp} {x : V} {d : Dt} (it : Item K (Vw F c H) H1 x H2 d) (S : SI K F Γ1 c1 σ H1) (e : Ex (Vw F c H) (Vw F c1 H1)) : SI K F Γ1 c1 σ H2 ∧ Ex (Vw F c1 H1) (Vw F c1 H2) ∧ DV K (Vw F c1 H2) x d := by
  rcases it with ⟨rfl, dv⟩ | ⟨T, x1, x2, d1, d2, rfl, hT, rfl, rfl, h1, h2⟩
  · exact ⟨S, Ex.refl _, dv.mono e⟩
  · exact ⟨S.new hT, (Kp.new (F := F) hT).hid, S.newP hT (.cons (h1.mono e) (.cons (h2.mono e) .nil))⟩
theorem s_for {iter : Expr} {body : List Stmt} (hp : PassesOwn (model X.prog X.w) X.A X.env X.xe) (hc : X.calm = true)
    (h : SW F X Γ c tg iter fun c1 ds => ∃ J : Nat → List Sl → Cells → Prop, J 0 Γ c1 ∧ (∀ i d Γ' c', ds[i]? = some d → J i Γ' c' → SG F X Γ' c' tg d fun Γ2 => SS F X Γ2 c' body { Φ with nx := J (i + 1), ct := J (i + 1), bk := Φ.nx }) ∧ ∀ Γ' c', J ds.length Γ' c' → Φ.nx Γ' c')
    (hs : ∀ x, foldedSetIterable iter X.env x = pure x := by intro _; rfl) : S1 F X Γ c (.For tg iter body [] pos) Φ :=
  S1.of (ps_for hp hc pI pGt pSts hs) fun σ H D S E => h σ H _ S fun It H1 c1 ds p S1 e1 src => by
    obtain ⟨J, j0, turn, done⟩ := p
    obtain ⟨G, Y, w, hG, hY⟩ := src
    refine for_it w (fun i σ' H' => ∃ Γ' c', J i Γ' c' ∧ SI X.K F Γ' c' σ' H' ∧ Ex (Vw F c1 H1) (Vw F c' H')) ⟨Γ, c1, j0, S1, Ex.refl _⟩ (fun i σ' H' _ ⟨Γ', c', _, _, e'⟩ => hG H' (e'.trans (mask_ex _ _))) ?_ ?_
    · rintro i x σ' H' H2 hi ⟨Γ', c', j, S', e'⟩ y
      obtain ⟨d, hd, it⟩ := hY i H' x H2 hi y (e'.trans (mask_ex _ _))
      obtain ⟨S2, e2, dv⟩ := it.dv S' e'
      refine turn i d Γ' c' hd j σ' H2 x _ S2 dv fun Γ3 σ3 q S3 => ?_
      have e4 := (e1.trans e').trans e2
      exact q σ3 H2 _ S3 ⟨fun Γ4 c4 σ4 H4 j4 S4 k4 => ⟨Γ4, c4, j4, S4, (e'.trans e2).trans k4⟩, fun Γ4 c4 σ4 H4 v4 d4 j4 S4 k4 => E.rt Γ4 c4 σ4 H4 v4 d4 j4 S4 (e4.trans k4), fun Γ4 c4 σ4 H4 j4 S4 k4 => E.nx Γ4 c4 σ4 H4 j4 S4 (e4.trans k4), fun Γ4 c4 σ4 H4 j4 S4 k4 => ⟨Γ4, c4, j4, S4, (e'.trans e2).trans k4⟩⟩
    · rintro σ' H' ⟨Γ', c', j, S', e'⟩
      exact E.nx Γ' c' σ' H' (done Γ' c' j) S' (e1.trans e')
end
end D
end
section
set_option Elab.async false
set_option linter.all false
set_option maxRecDepth 100000
namespace D
open PySem L2
def FD (F : Fm) (D : Addr) (o : HO) : Fm := { F with H0 := upd F.H0 D o, M := D :: F.M }
def rm (H : Hp) (D : Addr) : Hp := fun a => if a = D then none else H a
theorem rm_ne {H : Hp} {D a : Addr} (h : a ≠ D) : rm H D a = H a := if_neg h
theorem rm_same {H : Hp} {D : Addr} : rm H D D = none := if_pos rfl
theorem upd_rm {H : Hp} {D : Addr} {o : HO} (h : H D = some o) : upd (rm H D) D o = H := by
  funext a
  by_cases e : a = D
  · rw [e, upd_same, h]
  · rw [upd_ne e, rm_ne e]
def wipeG (Γ : List Sl) : List Nat → List Sl
  | [] => Γ
  | v :: vs => (wipeG Γ vs).set v .un
section
variable {K : PySem.W.Frag} {F : Fm} {Γ : List Sl} {c : Cells} {σ : L2.St} {H : Hp} {D : Addr} {o o' : HO}
theorem hid_FD : ∀ a, a ∈ hid (FD F D o) c ↔ a = D ∨ a ∈ hid F c := fun a => by
  unfold hid FD
  simp only [List.mem_append, List.mem_cons]
  constructor
  · rintro (h | h | h)
    · exact .inr (.inl h)
    · exact .inl h
    · exact .inr (.inr h)
  · rintro (h | h | h)
    · exact .inr (.inl h)
    · exact .inl h
    · exact .inr (.inr h)
theorem vw_FD (a : Addr) : Vw (FD F D o) c H a = if a = D then none else Vw F c H a := by
  by_cases e : a = D
  · rw [if_pos e]
    exact mask_in ((hid_FD a).mpr (.inl e))
  · rw [if_neg e]
    by_cases h : a ∈ hid F c
    · show mask _ _ _ = mask _ _ _
      rw [mask_in h, mask_in ((hid_FD a).mpr (.inr h))]
    · show mask _ _ _ = mask _ _ _
      rw [mask_out h, mask_out fun z => by rcases (hid_FD a).mp z with z | z; exact e z; exact h z]
theorem vw_FD_upd {u : HO} : Vw (FD F D o') c (upd H D u) = Vw (FD F D o) c H := by
  funext a
  rw [vw_FD, vw_FD]
  by_cases e : a = D
  · rw [if_pos e, if_pos e]
  · rw [if_neg e, if_neg e]
    show mask _ _ _ = mask _ _ _
    unfold mask
    rw [upd_ne e]
theorem SI.hide (S : SI K F Γ c σ H) (h : H D = none) : SI K (FD F D o) Γ c σ (upd H D o) ∧ Ex (Vw F c H) (Vw (FD F D o) c (upd H D o)) := by
  have nh : D ∉ hid F c := S.fresh h
  have sub : Ex (Vw F c H) (Vw (FD F D o) c (upd H D o)) := fun a u q => by
    obtain ⟨n, e⟩ := of_mask q
    have hb : a ≠ D := ne_of_none e h
    rw [vw_FD, if_neg hb]
    show mask _ _ _ = _
    rw [mask_out n, upd_ne hb]
    exact e
  have na : ∀ a ∈ addrs c, a ≠ D := fun a ha z => nh (List.mem_append_left _ (by rw [← z]; exact ha))
  refine ⟨⟨S.len, S.nd, fun j d hj => ?_, fun p hp => ?_, fun b u q => ?_, fun b hb => ?_, fun b hb => ?_, fun b hb => ?_⟩, sub⟩
  · obtain ⟨v, h1, h2⟩ := S.sl j d hj
    exact ⟨v, h1, h2.mono sub⟩
  · exact (S.ce p hp).mono sub fun x hx => upd_ne (na x (mem_addrs hp hx))
  · obtain ⟨n, e⟩ := of_mask q
    rw [show (FD F D o).W = F.W from rfl] at n ⊢
    rw [mask_out n]
    by_cases hb : b = D
    · subst hb
      rw [show (FD F b o).H0 = upd F.H0 b o from rfl, upd_same] at e
      rw [upd_same]
      exact e
    · rw [show (FD F D o).H0 = upd F.H0 D o from rfl, upd_ne hb] at e
      rw [upd_ne hb]
      exact (of_mask (S.keep b u (by rw [mask_out n]; exact e))).2
  · have q := S.fr b hb
    refine ⟨?_, fun z => by rcases List.mem_cons.mp z with z | z; exact na b hb z; exact q.2 z⟩
    rcases q.1 with f | f
    · exact .inl f
    · exact .inr (by rw [show (FD F D o).H0 = upd F.H0 D o from rfl, upd_ne (na b hb)]; exact f)
  · rcases List.mem_cons.mp hb with z | z
    · rw [z]; exact ⟨_, upd_same⟩
    · obtain ⟨u, q⟩ := S.live b z
      exact ⟨u, by rw [upd_ne (ne_of_none q h)]; exact q⟩
  · obtain ⟨u, q⟩ := S.wl b hb
    exact ⟨u, by rw [upd_ne (ne_of_none q h)]; exact q⟩
theorem SI.grow (S : SI K (FD F D o) Γ c σ H) : SI K (FD F D o') Γ c σ (upd H D o') := by
  have e1 : Vw (FD F D o') c (upd H D o') = Vw (FD F D o) c H := vw_FD_upd
  have na : ∀ a ∈ addrs c, a ≠ D := fun a ha z => (S.fr a ha).2 (by rw [z]; exact List.mem_cons_self ..)
  refine ⟨S.len, S.nd, fun j d hj => ?_, fun p hp => ?_, fun b u q => ?_, fun b hb => ?_, fun b hb => ?_, fun b hb => ?_⟩
  · obtain ⟨v, h1, h2⟩ := S.sl j d hj
    exact ⟨v, h1, h2.mono (fun a o q => (congrFun e1 a).trans q)⟩
  · exact (S.ce p hp).mono (fun a o q => (congrFun e1 a).trans q) fun x hx => upd_ne (na x (mem_addrs hp hx))
  · obtain ⟨n, e⟩ := of_mask q
    rw [mask_out n]
    by_cases hb : b = D
    · subst hb
      rw [show (FD F b o').H0 = upd F.H0 b o' from rfl, upd_same] at e
      rw [upd_same]
      exact e
    · rw [show (FD F D o').H0 = upd F.H0 D o' from rfl, upd_ne hb] at e
      rw [upd_ne hb]
      exact (of_mask (S.keep b u (by rw [mask_out (show b ∉ (FD F D o).W from n), show (FD F D o).H0 = upd F.H0 D o from rfl, upd_ne hb]; exact e))).2
  · have q := S.fr b hb
    refine ⟨?_, q.2⟩
    rcases q.1 with f | f
    · exact .inl f
    · exact .inr (by rw [show (FD F D o').H0 = upd F.H0 D o' from rfl, upd_ne (na b hb)]; rwa [show (FD F D o).H0 = upd F.H0 D o from rfl, upd_ne (na b hb)] at f)
  · by_cases z : b = D
    · rw [z]; exact ⟨_, upd_same⟩
    · obtain ⟨u, q⟩ := S.live b hb
      exact ⟨u, by rw [upd_ne z]; exact q⟩
  · by_cases z : b = D
    · rw [z]; exact ⟨_, upd_same⟩
    · obtain ⟨u, q⟩ := S.wl b hb
      exact ⟨u, by rw [upd_ne z]; exact q⟩
theorem vw_rm : Ex (Vw (FD F D o) c H) (Vw F c (rm H D)) := fun a u q => by
  rw [vw_FD] at q
  by_cases e : a = D
  · rw [if_pos e] at q; cases q
  · rw [if_neg e] at q
    obtain ⟨n, q⟩ := of_mask q
    show mask _ _ _ = _
    rw [mask_out n, rm_ne e]
    exact q
theorem SI.unhide (S : SI K (FD F D o) Γ c σ H) (h0 : F.H0 D = none) (nM : D ∉ F.M) (nW : D ∉ F.W) : SI K F Γ c σ (rm H D) := by
  have na : ∀ a ∈ addrs c, a ≠ D := fun a ha z => (S.fr a ha).2 (by rw [z]; exact List.mem_cons_self ..)
  refine ⟨S.len, S.nd, fun j d hj => ?_, fun p hp => ?_, fun b u q => ?_, fun b hb => ?_, fun b hb => ?_, fun b hb => ?_⟩
  · obtain ⟨v, h1, h2⟩ := S.sl j d hj
    exact ⟨v, h1, h2.mono vw_rm⟩
  · exact (S.ce p hp).mono vw_rm fun x hx => rm_ne (na x (mem_addrs hp hx))
  · obtain ⟨n, e⟩ := of_mask q
    have hb : b ≠ D := fun z => by rw [z, h0] at e; cases e
    rw [mask_out n, rm_ne hb]
    exact (of_mask (S.keep b u (by rw [mask_out (show b ∉ (FD F D o).W from n), show (FD F D o).H0 = upd F.H0 D o from rfl, upd_ne hb]; exact e))).2
  · have q := S.fr b hb
    refine ⟨?_, fun z => q.2 (List.mem_cons_of_mem _ z)⟩
    rcases q.1 with f | f
    · exact .inl f
    · exact .inr (by rwa [show (FD F D o).H0 = upd F.H0 D o from rfl, upd_ne (na b hb)] at f)
  · obtain ⟨u, q⟩ := S.live b (List.mem_cons_of_mem _ hb)
    exact ⟨u, by rw [rm_ne fun z => nM (by rw [← z]; exact hb)]; exact q⟩
  · obtain ⟨u, q⟩ := S.wl b hb
    exact ⟨u, by rw [rm_ne fun z => nW (by rw [← z]; exact hb)]; exact q⟩
theorem SI.hD (S : SI K (FD F D o) Γ c σ H) (nW : D ∉ F.W) : H D = some o :=
  (of_mask (S.keep D o (by rw [mask_out (show D ∉ (FD F D o).W from nW)]; exact upd_same))).2
theorem SI.nW (S : SI K F Γ c σ H) (h : H D = none) : D ∉ F.W := fun z => by
  obtain ⟨u, q⟩ := S.wl D z
  rw [h] at q; cases q
/-- the slots of before, what was done since -/
theorem SI.back {Γ' : List Sl} {c' : Cells} {σ' : L2.St} {H' : Hp} (S : SI K F Γ c σ H) (S' : SI K F Γ' c' σ' H') (e : Ex (Vw F c H) (Vw F c' H')) : SI K F Γ c' σ H' :=
  ⟨S.len, S'.nd, fun i d hi => by obtain ⟨v, h1, h2⟩ := S.sl i d hi; exact ⟨v, h1, h2.mono e⟩, S'.ce, S'.keep, S'.fr, S'.live, S'.wl⟩
theorem SI.wipe (S : SI K F Γ c σ H) : ∀ vs : List Nat, SI K F (wipeG Γ vs) c (L2.wipe σ vs) H
  | [] => S
  | v :: vs => (SI.wipe S vs).setS fun d e => nomatch e
theorem Item.dv' {V0 H2 : Hp} {x : V} {d : Dt} (it : Item K V0 H x H2 d) (S : SI K F Γ c σ H) (e : Ex V0 (Vw F c H)) : SI K F Γ c σ H2 ∧ Ex (Vw F c H) (Vw F c H2) ∧ DV K (Vw F c H2) x d := by
  rcases it with ⟨rfl, dv⟩ | ⟨T, x1, x2, d1, d2, rfl, hT, rfl, rfl, h1, h2⟩
  · exact ⟨S, Ex.refl _, dv.mono e⟩
  · exact ⟨S.new hT, (Kp.new (F := F) hT).hid, S.newP hT (.cons (h1.mono e) (.cons (h2.mono e) .nil))⟩
end
abbrev blk (X : Cx) (scope : Scope) (s0 : Shared) (H0 : Hp) (C : Addr) (cl : List (Str × Addr)) (fp : List Addr) : Cx := X.blk s0 H0 scope (compEnvC scope cl C X.env) fp
def tEb (X : Cx) (scope : Scope) (e : Expr) : TE := fun σ H Q => ∀ (s0 : Shared) (H0 : Hp) (C : Addr) (cl : List (Str × Addr)) (fp : List Addr), tE (blk X scope s0 H0 C cl fp) e σ H Q
theorem pEb {X : Cx} {scope : Scope} {e : Expr} (s0 : Shared) (H0 : Hp) (C : Addr) (cl : List (Str × Addr)) (fp : List Addr) : PE (X.blk s0 H0 scope (compEnvC scope cl C X.env) fp) e (tEb X scope e) := ⟨fun pins s σ H Q I h => (h s0 H0 C cl fp).run pins s I⟩
def tTb (X : Cx) (scope : Scope) (e : Expr) : TT := fun σ H Q => ∀ (s0 : Shared) (H0 : Hp) (C : Addr) (cl : List (Str × Addr)) (fp : List Addr), tT (blk X scope s0 H0 C cl fp) e σ H Q
theorem pTb {X : Cx} {scope : Scope} {e : Expr} (s0 : Shared) (H0 : Hp) (C : Addr) (cl : List (Str × Addr)) (fp : List Addr) : PT (X.blk s0 H0 scope (compEnvC scope cl C X.env) fp) e (tTb X scope e) := ⟨fun pins s σ H Q I h => (h s0 H0 C cl fp).run pins s I⟩
def tGb (X : Cx) (scope : Scope) (tg : Expr) : TG := fun v σ H Q => ∀ (s0 : Shared) (H0 : Hp) (C : Addr) (cl : List (Str × Addr)) (fp : List Addr), tGt (blk X scope s0 H0 C cl fp) tg v σ H Q
theorem pGb {X : Cx} {scope : Scope} {tg : Expr} (s0 : Shared) (H0 : Hp) (C : Addr) (cl : List (Str × Addr)) (fp : List Addr) : PG (X.blk s0 H0 scope (compEnvC scope cl C X.env) fp) tg (tGb X scope tg) := ⟨fun pins s σ H v u Q I r h => pGt.run pins s σ H v u Q I r (h s0 H0 C cl fp)⟩
/-- a block's target: only its own slots change -/
structure SGb (F : Fm) (X : Cx) (Γ : List Sl) (c : Cells) (vs : List Nat) (tg : Expr) (d : Dt) (N : List Sl → Prop) : Prop where
  run : ∀ (σ : L2.St) (H : Hp) (v : V) (Q : L2.St → Hp → Prop), SI X.K F Γ c σ H → DV X.K (Vw F c H) v d → (∀ Γ' σ', N Γ' → SI X.K F Γ' c σ' H → wipe σ' vs = wipe σ vs → Q σ' H) → tGt X tg v σ H Q
instance {F : Fm} {X : Cx} {Γ : List Sl} {c : Cells} {vs : List Nat} {tg : Expr} {d : Dt} {N : List Sl → Prop} : CoeFun (SGb F X Γ c vs tg d N) fun _ => ∀ (σ : L2.St) (H : Hp) (v : V) (Q : L2.St → Hp → Prop), SI X.K F Γ c σ H → DV X.K (Vw F c H) v d → (∀ Γ' σ', N Γ' → SI X.K F Γ' c σ' H → wipe σ' vs = wipe σ vs → Q σ' H) → tGt X tg v σ H Q := ⟨SGb.run⟩
structure SGbs (F : Fm) (X : Cx) (Γ : List Sl) (c : Cells) (vs : List Nat) (tgs : List Expr) (ds : List Dt) (N : List Sl → Prop) : Prop where
  run : ∀ (σ : L2.St) (H : Hp) (ws : List V) (Q : L2.St → Hp → Prop), SI X.K F Γ c σ H → DVs X.K (Vw F c H) ws ds → (∀ Γ' σ', N Γ' → SI X.K F Γ' c σ' H → wipe σ' vs = wipe σ vs → Q σ' H) → tGts X tgs ws σ H Q
instance {F : Fm} {X : Cx} {Γ : List Sl} {c : Cells} {vs : List Nat} {tgs : List Expr} {ds : List Dt} {N : List Sl → Prop} : CoeFun (SGbs F X Γ c vs tgs ds N) fun _ => ∀ (σ : L2.St) (H : Hp) (ws : List V) (Q : L2.St → Hp → Prop), SI X.K F Γ c σ H → DVs X.K (Vw F c H) ws ds → (∀ Γ' σ', N Γ' → SI X.K F Γ' c σ' H → wipe σ' vs = wipe σ vs → Q σ' H) → tGts X tgs ws σ H Q := ⟨SGbs.run⟩
theorem wipe_set {σ : L2.St} {i : Nat} {o : Option V} : ∀ {vs : List Nat}, i ∈ vs → wipe (σ.set i o) vs = wipe σ vs
  | [], h => nomatch h
  | v :: vs, h => by
    refine List.ext_getElem? fun j => ?_
    unfold wipe
    by_cases hv : v = j
    · subst hv
      by_cases hl : v < σ.length
      · rw [List.getElem?_set_self (by rw [wipe_length, List.length_set]; exact hl), List.getElem?_set_self (by rw [wipe_length]; exact hl)]
      · rw [List.getElem?_eq_none (by rw [List.length_set, wipe_length, List.length_set]; omega), List.getElem?_eq_none (by rw [List.length_set, wipe_length]; omega)]
    · rw [List.getElem?_set_ne hv, List.getElem?_set_ne hv]
      by_cases hi : i ∈ vs
      · rw [wipe_set hi]
      · have e : i = v := by
          rcases List.mem_cons.mp h with h | h
          · exact h
          · exact absurd h hi
        by_cases hj : j ∈ vs
        · have w : ∀ {τ : L2.St} {vs : List Nat}, j ∈ vs → j < τ.length → (wipe τ vs)[j]? = some none := by
            intro τ vs
            induction vs with
            | nil => intro h; exact nomatch h
            | cons u us ih =>
              intro h hl
              unfold wipe
              by_cases hu : u = j
              · subst hu; rw [List.getElem?_set_self (by rw [wipe_length]; exact hl)]
              · rw [List.getElem?_set_ne hu]
                rcases List.mem_cons.mp h with h | h
                · exact absurd h.symm hu
                · exact ih h hl
          by_cases hl : j < σ.length
          · rw [w hj (by rw [List.length_set]; exact hl), w hj hl]
          · rw [List.getElem?_eq_none (by rw [wipe_length, List.length_set]; omega), List.getElem?_eq_none (by rw [wipe_length]; omega)]
        · rw [wipe_out hj, wipe_out hj, List.getElem?_set_ne (by rw [e]; exact hv)]
section
variable {F : Fm} {X : Cx} {Γ : List Sl} {c : Cells} {Φ : PEnds} {pos : Pos} {P : Cells → List Dt → Prop} {vs : List Nat}
theorem sgb_name (i : Nat) {x : Str} {d : Dt} {N : List Sl → Prop} (hN : X.N.Nodup) (p : N (Γ.set i (.dat d))) (hv : i ∈ vs := by decide) (hi : X.N[i]? = some x := by rfl) (hx : Loc X.env.scope x := by first | exact Or.inl rfl | exact Or.inr rfl)
    (hf : X.fn x = true ∨ X.env.scope.names.lookup x = some .local := by first | exact .inl rfl | exact .inr rfl) : SGb F X Γ c vs (.Name x pos) d N :=
  .mk fun σ H v Q S dv k => ⟨gName i, pg_name hN hi hx hf, k _ _ p (S.setD dv) (wipe_set hv)⟩
theorem sgbs_nil {N : List Sl → Prop} (p : N Γ) : SGbs F X Γ c vs [] [] N := .mk fun σ H ws Q S dv k => by cases dv; exact ⟨gNil, pgs_nil, rfl, k Γ σ p S rfl⟩
theorem sgbs_cons {t : Expr} {ts : List Expr} {d : Dt} {ds : List Dt} {N : List Sl → Prop} (h : SGb F X Γ c vs t d fun Γ1 => SGbs F X Γ1 c vs ts ds N)
    (hs : (assignEach (t :: ts) X.env).map (·.2) = assign t X.env :: (assignEach ts X.env).map (·.2) := by rfl) : SGbs F X Γ c vs (t :: ts) (d :: ds) N := .mk fun σ H ws Q S dv k => by
  cases dv with
  | cons h1 t1 =>
    refine ⟨gCons (tGt X t) (tGts X ts), pgs_cons pGt pGts hs, _, _, rfl, ?_⟩
    exact h σ H _ _ S h1 fun Γ1 σ1 p S1 w1 => p σ1 H _ Q S1 t1 fun Γ2 σ2 p2 S2 w2 => k Γ2 σ2 p2 S2 (w2.trans w1)
theorem sgb_tup {es : List Expr} {kk : Nat} {ds : List Dt} {N : List Sl → Prop} (hc : X.calm = true) (h : SGbs F X Γ c vs es ds N) (hn : (assignEach es X.env).length = ds.length := by rfl) (hst : (assignEach es X.env).findIdx? (·.1) = none := by rfl) : SGb F X Γ c vs (.Tuple es kk pos) (.tup ds) N := .mk fun σ H v Q S dv k => by
  cases dv with
  | tup a t => exact ⟨_, pg_tup (n := ds.length) hc pGts hn hst, _, _, rfl, (a.mono (mask_ex _ _)).t, t.length, h σ H _ Q S t k⟩
theorem sgb_par {es : List Expr} {kk : Nat} {ds : List Dt} {N : List Sl → Prop} (hc : X.calm = true) (h : SGbs F X Γ c vs es ds N) (hn : (assignEach es X.env).length = ds.length := by rfl) (hst : (assignEach es X.env).findIdx? (·.1) = none := by rfl) : SGb F X Γ c vs (.Tuple es kk pos) (.par ds) N := .mk fun σ H v Q S dv k => by
  cases dv with
  | par a t => exact ⟨_, pg_tup (n := ds.length) hc pGts hn hst, _, _, rfl, ex_t (mask_ex _ _) a, t.length, h σ H _ Q S t k⟩
/-- the turns of a list's comprehension -/
theorem lc_turns {σ : L2.St} {H1 : Hp} {c1 : Cells} {J : It} {ds : List Dt} {D : Addr} {Q : VK} {g : TG} {tt : TT} {te : TE} (S1 : SI X.K F Γ c1 σ H1) (src : Src X.K (Vw F c1 H1) J ds) (hD : H1 D = none) (hz : ds.length ≤ sizeLine)
    (Jv : Nat → Cells → List Dt → Prop) (j0 : Jv 0 c1 [])
    (turn : ∀ i d c' acc, ds[i]? = some d → Jv i c' acc → ∀ (F' : Fm) σ' H' x, SI X.K F' (wipeG Γ vs) c' σ' H' → DV X.K (Vw F' c' H') x d → ∀ (R : V → L2.St → Hp → Prop) (R' : L2.St → Hp → Prop),
      (∀ y H4 c3 dy Γ2 σ2, Jv (i + 1) c3 (acc ++ [dy]) → SI X.K F' Γ2 c3 σ2 H4 → Ex (Vw F' c' H') (Vw F' c3 H4) → DV X.K (Vw F' c3 H4) y dy → R y σ2 H4) →
      (∀ H3 c3 Γ2 σ2, Jv (i + 1) c3 acc → SI X.K F' Γ2 c3 σ2 H3 → Ex (Vw F' c' H') (Vw F' c3 H3) → R' σ2 H3) →
      g x σ' H' fun σ2 H2 => wipe σ2 vs = wipe σ' vs ∧ tt σ2 H2 fun b H3 => if b = true then te σ2 H3 fun y H4 => R y σ2 H4 else R' σ2 H3)
    (done : ∀ c' acc xs H', Jv ds.length c' acc → SI X.K F Γ c' σ H' → Ex (Vw F c1 H1) (Vw F c' H') → H' D = none → DVs X.K (Vw F c' H') xs acc → Q (.ref D) (upd H' D (.lst xs))) :
    ∃ W : Nat → Nat → Hp → Prop, (∃ m, W 0 m (upd H1 D (.lst []))) ∧ ∀ i m H, W i m H →
      (J.stop i H ∧ Q (.ref D) H) ∨ (J.go i H ∧ ∃ Nx : Hp → Prop, (∀ H', Nx H' → ∃ m', m' < m ∧ W (i + 1) m' H') ∧ ∀ x H', J.yld i H x H' → g x (wipe σ vs) H' fun σ2 H2 => wipe σ2 vs = wipe σ vs ∧ tt σ2 H2 fun b H3 =>
        if b = true then te σ2 H3 fun y H4 => ∃ acc, H4 D = some (.lst acc) ∧ acc.length < sizeLine ∧ Nx (upd H4 D (.lst (acc ++ [y]))) else Nx H3) := by
  obtain ⟨G, Y, w, hG, hY⟩ := src
  have nh : D ∉ hid F c1 := S1.fresh hD
  have nM : D ∉ F.M := fun z => nh (List.mem_append_right _ z)
  have nW := S1.nW hD
  have h0 := S1.h0 hD
  obtain ⟨Sh, eh⟩ := S1.hide (D := D) (o := .lst []) hD
  have ww : wipe (wipe σ vs) vs = wipe σ vs := by
    have : ∀ (us : List Nat), (∀ u ∈ us, u ∈ vs) → wipe (wipe σ us) vs = wipe σ vs := by
      intro us
      induction us with
      | nil => intro _; rfl
      | cons u us ih =>
        intro h
        show wipe ((wipe σ us).set u none) vs = _
        rw [wipe_set (h u (List.mem_cons_self ..))]
        exact ih fun v hv => h v (List.mem_cons_of_mem _ hv)
    exact this vs fun u h => h
  refine lc_it w (fun i H' => ∃ c' acc xs, Jv i c' acc ∧ acc.length ≤ i ∧ SI X.K (FD F D (.lst xs)) Γ c' σ H' ∧ Ex (Vw F c1 H1) (Vw (FD F D (.lst xs)) c' H') ∧ DVs X.K (Vw (FD F D (.lst xs)) c' H') xs acc) ⟨c1, [], [], j0, Nat.le_refl _, Sh, eh, .nil⟩
    (fun i H' _ ⟨c', acc, xs, _, _, _, e', _⟩ => hG H' (e'.trans (mask_ex _ _))) ?_ ?_
  · rintro i x H' H2 hi ⟨c', acc, xs, jv, la, S', e', dvs⟩ y
    obtain ⟨d, hd, it⟩ := hY i H' x H2 hi y (e'.trans (mask_ex _ _))
    obtain ⟨S2, e2, dv⟩ := it.dv' S' e'
    have q := turn i d c' acc hd jv (FD F D (.lst xs)) (wipe σ vs) H2 x (S2.wipe vs) dv
      (fun y σ2 H4 => ∃ acc, H4 D = some (.lst acc) ∧ acc.length < sizeLine ∧ ∃ c' acc' xs, Jv (i + 1) c' acc' ∧ acc'.length ≤ i + 1 ∧ SI X.K (FD F D (.lst xs)) Γ c' σ (upd H4 D (.lst (acc ++ [y]))) ∧ Ex (Vw F c1 H1) (Vw (FD F D (.lst xs)) c' (upd H4 D (.lst (acc ++ [y])))) ∧ DVs X.K (Vw (FD F D (.lst xs)) c' (upd H4 D (.lst (acc ++ [y])))) xs acc')
      (fun σ2 H3 => ∃ c' acc xs, Jv (i + 1) c' acc ∧ acc.length ≤ i + 1 ∧ SI X.K (FD F D (.lst xs)) Γ c' σ H3 ∧ Ex (Vw F c1 H1) (Vw (FD F D (.lst xs)) c' H3) ∧ DVs X.K (Vw (FD F D (.lst xs)) c' H3) xs acc) ?_ ?_
    · rw [ww] at q
      exact q
    · intro y H4 c3 dy Γ2 σ2 jn S4 e4 dvy
      have S5 : SI X.K (FD F D (.lst xs)) Γ c3 σ H4 := S2.back S4 e4
      refine ⟨xs, S5.hD nW, by rw [dvs.length]; omega, c3, acc ++ [dy], xs ++ [y], jn, ?_, S5.grow, ?_, ?_⟩
      · rw [List.length_append]
        exact Nat.succ_le_succ la
      · rw [vw_FD_upd (o := .lst xs)]
        exact e'.trans (e2.trans e4)
      · rw [vw_FD_upd (o := .lst xs)]
        exact (dvs.mono (e2.trans e4)).append (.cons dvy .nil)
    · intro H3 c3 Γ2 σ2 jn S3 e3
      exact ⟨c3, acc, xs, jn, Nat.le_succ_of_le la, S2.back S3 e3, e'.trans (e2.trans e3), dvs.mono (e2.trans e3)⟩
  · rintro H' ⟨c', acc, xs, jv, la, S', e', dvs⟩
    have q := done c' acc xs (rm H' D) jv (S'.unhide h0 nM nW) (e'.trans vw_rm) rm_same (dvs.mono vw_rm)
    rw [upd_rm (S'.hD nW)] at q
    exact q
/-- in any context of the block -/
def AB (X : Cx) (scope : Scope) (φ : Cx → Prop) : Prop := ∀ (s0 : Shared) (H0 : Hp) (C : Addr) (cl : List (Str × Addr)) (fp : List Addr), φ (blk X scope s0 H0 C cl fp)
/-- one turn of [elt for tg in iter] -/
def Turn0 (X : Cx) (Γ : List Sl) (scope : Scope) (vs : List Nat) (tg elt : Expr) (d : Dt) (c' : Cells) (N : Cells → Dt → Prop) : Prop :=
  ∀ F' : Fm, AB X scope fun Y => SGb F' Y (wipeG Γ vs) c' vs tg d fun Γ2 => AB X scope fun Y => SE F' Y Γ2 c' elt N
/-- one turn of [elt for tg in iter if t] -/
def Turn1 (X : Cx) (Γ : List Sl) (scope : Scope) (vs : List Nat) (tg t elt : Expr) (d : Dt) (c' : Cells) (N : Cells → Dt → Prop) (N0 : Cells → Prop) : Prop :=
  ∀ F' : Fm, AB X scope fun Y => SGb F' Y (wipeG Γ vs) c' vs tg d fun Γ2 => AB X scope fun Y => ST F' Y Γ2 c' t fun c2 b => if b = true then AB X scope fun Y => SE F' Y Γ2 c2 elt N else N0 c2
def SELt (F : Fm) (X : Cx) (Γ : List Sl) (c : Cells) (t : TE) (P : Cells → List Dt → Prop) : Prop :=
  ∀ (σ : L2.St) (H : Hp) (Q : VK), SI X.K F Γ c σ H → (∀ p xs H1 c' l, P c' l → SI X.K F Γ c' σ H1 → Ex (Vw F c H) (Vw F c' H1) → H1 p = none → DVs X.K (Vw F c' H1) xs l → Q (.ref p) (upd H1 p (.lst xs))) → t σ H Q
theorem s_setT {st : Stmt} {t : TE} (i : Nat) (hp : PS X st (tAsg t (gName i))) (h : SELt F X Γ c t fun c1 l => Φ.nx (Γ.set i (.dat (.lst l))) c1) : S1 F X Γ c st Φ :=
  S1.of hp fun σ H D S E => h σ H _ S fun p xs H1 c' l q S1 e1 hp dv => E.nx _ c' _ _ q ((S1.new hp).setD (S1.newL hp dv)) (e1.trans (Kp.new (F := F) hp).hid)
theorem lct_lc {elt tg iter : Expr} {scope : Scope}
    (h : SW F X Γ c tg iter fun c1 ds => ds.length ≤ sizeLine ∧ ∃ Jv : Nat → Cells → List Dt → Prop, Jv 0 c1 [] ∧
      (∀ i d c' acc, ds[i]? = some d → Jv i c' acc → Turn0 X Γ scope vs tg elt d c' fun c2 y => Jv (i + 1) c2 (acc ++ [y])) ∧ ∀ c' acc, Jv ds.length c' acc → P c' acc) : SELt F X Γ c (tLc (wI X tg iter) (tGb X scope tg) tYes (tEb X scope elt) vs) P := fun σ H Q S k => by
  refine h σ H _ S fun J H1 c1 ds p S1 e1 src D hD => ?_
  obtain ⟨hz, Jv, j0, turn, done⟩ := p
  refine lc_turns (g := tGb X scope tg) (tt := tYes) (te := tEb X scope elt) S1 src hD hz Jv j0 (fun i d c' acc hd jv F' σ' H' x S' dv R R' k1 k2 => ?_) fun c' acc xs H' jv S' e' hn dv => k D xs H' c' acc (done c' acc jv) S' (e1.trans e') hn dv
  intro s0 H0 C cl fp
  refine turn i d c' acc hd jv F' s0 H0 C cl fp σ' H' x _ S' dv fun Γ2 σ2 q S2 w => ⟨w, ?_⟩
  intro s0 H0 C cl fp
  exact q s0 H0 C cl fp σ2 H' _ S2 fun y H4 c3 dy jn S4 e4 dvy => k1 y H4 c3 dy Γ2 σ2 jn S4 e4 dvy
theorem lct_lcIf {elt tg iter t : Expr} {scope : Scope}
    (h : SW F X Γ c tg iter fun c1 ds => ds.length ≤ sizeLine ∧ ∃ Jv : Nat → Cells → List Dt → Prop, Jv 0 c1 [] ∧
      (∀ i d c' acc, ds[i]? = some d → Jv i c' acc → Turn1 X Γ scope vs tg t elt d c' (fun c2 y => Jv (i + 1) c2 (acc ++ [y])) fun c2 => Jv (i + 1) c2 acc) ∧ ∀ c' acc, Jv ds.length c' acc → P c' acc) : SELt F X Γ c (tLc (wI X tg iter) (tGb X scope tg) (tTb X scope t) (tEb X scope elt) vs) P := fun σ H Q S k => by
  refine h σ H _ S fun J H1 c1 ds p S1 e1 src D hD => ?_
  obtain ⟨hz, Jv, j0, turn, done⟩ := p
  refine lc_turns (g := tGb X scope tg) (tt := tTb X scope t) (te := tEb X scope elt) S1 src hD hz Jv j0 (fun i d c' acc hd jv F' σ' H' x S' dv R R' k1 k2 => ?_) fun c' acc xs H' jv S' e' hn dv => k D xs H' c' acc (done c' acc jv) S' (e1.trans e') hn dv
  intro s0 H0 C cl fp
  refine turn i d c' acc hd jv F' s0 H0 C cl fp σ' H' x _ S' dv fun Γ2 σ2 q S2 w => ⟨w, ?_⟩
  intro s0 H0 C cl fp
  refine q s0 H0 C cl fp σ2 H' _ S2 fun b H3 c2 hb S3 e3 => ?_
  cases b with
  | false => exact k2 H3 c2 Γ2 σ2 hb S3 e3
  | true =>
    rw [if_pos rfl] at hb
    intro s0 H0 C cl fp
    exact hb s0 H0 C cl fp σ2 H3 _ S3 fun y H4 c3 dy jn S4 e4 dvy => k1 y H4 c3 dy Γ2 σ2 jn S4 (e3.trans e4) dvy
/-- [elt for tg in iter], as a new list -/
theorem sel_lc {elt tg iter : Expr} {scope : Scope} (own : List (Str × Nat)) (hc : X.calm = true) (hN : X.N.Nodup) (ok : BlkOk X.N X.env.scope scope own)
    (h : SW F X Γ c tg iter fun c1 ds => ds.length ≤ sizeLine ∧ ∃ Jv : Nat → Cells → List Dt → Prop, Jv 0 c1 [] ∧
      (∀ i d c' acc, ds[i]? = some d → Jv i c' acc → Turn0 X Γ scope (own.map (·.2)) tg elt d c' fun c2 y => Jv (i + 1) c2 (acc ++ [y])) ∧ ∀ c' acc, Jv ds.length c' acc → P c' acc)
    (hfs : ∀ x, foldedSetIterable iter X.env x = pure x := by intro _; rfl) : SEL F X Γ c (.ListComp elt [⟨tg, iter, [], 0⟩] scope pos) P := .mk fun σ H Q S k =>
  tE_of (pe_lc (own := own) (g := tGb X scope tg) hc hN pI ok (fun s0 H0 C cl fp => pGb s0 H0 C cl fp) (fun _ _ _ _ _ => pts_nil) (fun s0 H0 C cl fp => pEb s0 H0 C cl fp) hfs) (lct_lc h σ H Q S k)
theorem sel_lcIf {elt tg iter t : Expr} {scope : Scope} (own : List (Str × Nat)) (hc : X.calm = true) (hN : X.N.Nodup) (ok : BlkOk X.N X.env.scope scope own)
    (h : SW F X Γ c tg iter fun c1 ds => ds.length ≤ sizeLine ∧ ∃ Jv : Nat → Cells → List Dt → Prop, Jv 0 c1 [] ∧
      (∀ i d c' acc, ds[i]? = some d → Jv i c' acc → Turn1 X Γ scope (own.map (·.2)) tg t elt d c' (fun c2 y => Jv (i + 1) c2 (acc ++ [y])) fun c2 => Jv (i + 1) c2 acc) ∧ ∀ c' acc, Jv ds.length c' acc → P c' acc)
    (hfs : ∀ x, foldedSetIterable iter X.env x = pure x := by intro _; rfl) : SEL F X Γ c (.ListComp elt [⟨tg, iter, [t], 0⟩] scope pos) P := .mk fun σ H Q S k =>
  tE_of (pe_lc (own := own) (g := tGb X scope tg) (tt := tTb X scope t) hc hN pI ok (fun s0 H0 C cl fp => pGb s0 H0 C cl fp) (fun s0 H0 C cl fp => pts_one (pTb s0 H0 C cl fp)) (fun s0 H0 C cl fp => pEb s0 H0 C cl fp) hfs) (lct_lcIf h σ H Q S k)
/-- x = [elt for tg in iter] -/
theorem ps_lc {elt tg iter : Expr} {y : Str} {py spos : Pos} {scope : Scope} (i : Nat) (own : List (Str × Nat)) (hc : X.calm = true) (hN : X.N.Nodup) (ok : BlkOk X.N X.env.scope scope own) (hsw : swapsWith (.ListComp elt [⟨tg, iter, [], 0⟩] scope pos) (some (.Name y py)) spos.line X.env = pure true := by exact sw_true rfl rfl rfl (by decide +kernel))
    (hy : X.N[i]? = some y := by rfl) (hyl : X.env.scope.names.lookup y = some .local := by rfl) (hfs : ∀ x, foldedSetIterable iter X.env x = pure x := by intro _; rfl) :
    PS X (.Assign [.Name y py] (.ListComp elt [⟨tg, iter, [], 0⟩] scope pos) spos) (tAsg (tLc (wI X tg iter) (tGb X scope tg) tYes (tEb X scope elt) (own.map (·.2))) (gName i)) :=
  ps_setLc (own := own) (g := tGb X scope tg) hc hN hy hyl hsw pI ok (fun s0 H0 C cl fp => pGb s0 H0 C cl fp) (fun _ _ _ _ _ => pts_nil) (fun s0 H0 C cl fp => pEb s0 H0 C cl fp) hfs
theorem ps_lcIf {elt tg iter t : Expr} {y : Str} {py spos : Pos} {scope : Scope} (i : Nat) (own : List (Str × Nat)) (hc : X.calm = true) (hN : X.N.Nodup) (ok : BlkOk X.N X.env.scope scope own) (hsw : swapsWith (.ListComp elt [⟨tg, iter, [t], 0⟩] scope pos) (some (.Name y py)) spos.line X.env = pure true := by exact sw_true rfl rfl rfl (by decide +kernel))
    (hy : X.N[i]? = some y := by rfl) (hyl : X.env.scope.names.lookup y = some .local := by rfl) (hfs : ∀ x, foldedSetIterable iter X.env x = pure x := by intro _; rfl) :
    PS X (.Assign [.Name y py] (.ListComp elt [⟨tg, iter, [t], 0⟩] scope pos) spos) (tAsg (tLc (wI X tg iter) (tGb X scope tg) (tTb X scope t) (tEb X scope elt) (own.map (·.2))) (gName i)) :=
  ps_setLc (own := own) (g := tGb X scope tg) (tt := tTb X scope t) hc hN hy hyl hsw pI ok (fun s0 H0 C cl fp => pGb s0 H0 C cl fp) (fun s0 H0 C cl fp => pts_one (pTb s0 H0 C cl fp)) (fun s0 H0 C cl fp => pEb s0 H0 C cl fp) hfs
theorem ST.mono {e : Expr} {P P' : Cells → Bool → Prop} (h : ST F X Γ c e P) (hp : ∀ c d, P c d → P' c d) : ST F X Γ c e P' := .mk fun σ H Q S k => h σ H Q S fun b H' c' p => k b H' c' (hp c' b p)
end
end D
end
section
set_option Elab.async false
set_option linter.all false
set_option maxRecDepth 100000
namespace D
open PySem L2 PyProof.Rows
theorem mask_eq {M M' : List Addr} {H : Hp} (h : ∀ a, a ∈ M ↔ a ∈ M') : mask M H = mask M' H := by
  funext a
  by_cases z : a ∈ M
  · rw [mask_in z, mask_in ((h a).mp z)]
  · rw [mask_out z, mask_out fun w => z ((h a).mpr w)]
/-- behind a call: what stays, and the cells that are given back -/
structure Aft (K : PySem.W.Frag) (M : List Addr) (H : Hp) (C C' : Cells) (H' : Hp) : Prop where
  keep : ∀ b o, H b = some o → b ∉ addrs C → H' b = some o
  nd : (addrs C').Nodup
  fr : ∀ x ∈ addrs C', x ∉ M ∧ (x ∈ addrs C ∨ H x = none)
  ce : ∀ p ∈ C', CelAt K (mask (addrs C' ++ M) H') H' p.1 p.2
  wl : ∀ x ∈ addrs C, ∃ o, H' x = some o
/-- an exception by data: its class, its fields (none: it has no dict of its own) -/
structure Xc where
  cls : Addr
  fs : Option (List (Str × Dt))
def XcAt (K : PySem.W.Frag) (V : Hp) (x : Xc) (cls : Value) (d : Option Addr) : Prop :=
  cls = .ref x.cls ∧ match x.fs with
    | none => d = none
    | some l => ∃ dd xs, d = some dd ∧ V dd = some (.xd xs) ∧ DVx K V xs l
theorem XcAt.mono {K : PySem.W.Frag} {V V' : Hp} {x : Xc} {cls : Value} {d : Option Addr} (h : XcAt K V x cls d) (e : Ex V V') : XcAt K V' x cls d := by
  obtain ⟨C, fs⟩ := x
  obtain ⟨h1, h2⟩ := h
  refine ⟨h1, ?_⟩
  cases fs with
  | none => exact h2
  | some l =>
    obtain ⟨dd, xs, a, b, t⟩ := h2
    exact ⟨dd, xs, a, e _ _ b, t.mono e⟩
/-- THE PROMISE of a def: arguments, cells handed in; what comes back, what may be raised -/
def spG (K : PySem.W.Frag) {α : Type} (args : α → List Dt) (cells : α → Cells) (pre : α → Prop) (post : α → Cells → Dt → Prop) (exc : α → Cells → Xc → Prop) : Sp := fun vs H Q E =>
  ∃ (M : List Addr) (a : α), (∀ x ∈ M, ∃ o, H x = some o) ∧ (addrs (cells a)).Nodup ∧ (∀ x ∈ addrs (cells a), x ∉ M) ∧ (∀ p ∈ cells a, CelAt K (mask (addrs (cells a) ++ M) H) H p.1 p.2) ∧
    DVs K (mask (addrs (cells a) ++ M) H) vs (args a) ∧ pre a ∧ (∀ v H' C' d, post a C' d → Aft K M H (cells a) C' H' → DV K (mask (addrs C' ++ M) H') v d → Q v H') ∧
    ∀ cls dx H' C' x, exc a C' x → Aft K M H (cells a) C' H' → XcAt K (mask (addrs C' ++ M) H') x cls dx → E cls dx H'
/-- what is taken of what is raised -/
structure XT (F : Fm) (X : Cx) (Wd : List Sl → Cells → Xc → Prop) : Prop where
  ex : ∃ W : WX, Takes X W ∧ ∀ Γ c σ H x cls dx, Wd Γ c x → SI X.K F Γ c σ H → XcAt X.K (Vw F c H) x cls dx → W cls dx σ H
theorem XT.no {F : Fm} {X : Cx} : XT F X fun _ _ _ => False := ⟨_, takes0, fun _ _ _ _ _ _ _ z => z.elim⟩
theorem XT.imp {F : Fm} {X : Cx} {W W' : List Sl → Cells → Xc → Prop} (h : XT F X W) (e : ∀ Γ c x, W' Γ c x → W Γ c x) : XT F X W' := by
  obtain ⟨w, h1, h2⟩ := h.ex
  exact ⟨w, h1, fun Γ c σ H x cls dx z => h2 Γ c σ H x cls dx (e Γ c x z)⟩
section
variable {K : PySem.W.Frag} {F : Fm} {Γ : List Sl} {σ : L2.St} {H H' : Hp} {l m m' r : Cells}
theorem mem_lmr {x : Addr} : x ∈ addrs (l ++ m ++ r) ↔ x ∈ addrs l ∨ x ∈ addrs m ∨ x ∈ addrs r := by
  rw [addrs_app, addrs_app, List.mem_append, List.mem_append, or_assoc]
theorem vw_lmr : mask (addrs m ++ (addrs l ++ addrs r ++ F.M)) H = Vw F (l ++ m ++ r) H := mask_eq fun a => by
  unfold hid
  simp only [List.mem_append, mem_lmr, addrs_app]
  constructor
  · rintro (h | (h | h) | h)
    · exact .inl (.inl (.inr h))
    · exact .inl (.inl (.inl h))
    · exact .inl (.inr h)
    · exact .inr h
  · rintro (((h | h) | h) | h)
    · exact .inr (.inl (.inl h))
    · exact .inl h
    · exact .inr (.inl (.inr h))
    · exact .inr (.inr h)
/-- the caller behind the call -/
theorem SI.after (S : SI K F Γ (l ++ m ++ r) σ H) (A : Aft K (addrs l ++ addrs r ++ F.M) H m m' H') : SI K F Γ (l ++ m' ++ r) σ H' ∧ Ex (Vw F (l ++ m ++ r) H) (Vw F (l ++ m' ++ r) H') := by
  have nd := S.nd
  rw [addrs_app, addrs_app] at nd
  obtain ⟨n1, n2, n3⟩ := List.nodup_append.mp nd
  obtain ⟨n4, n5, n6⟩ := List.nodup_append.mp n1
  have ml : ∀ x ∈ addrs l, x ∉ addrs m := fun x hx z => n6 x hx x z rfl
  have mr : ∀ x ∈ addrs r, x ∉ addrs m := fun x hx z => n3 x (List.mem_append_right _ z) x hx rfl
  have nm : ∀ x ∈ addrs m', x ∉ addrs l ∧ x ∉ addrs r ∧ x ∉ F.M := fun x hx => by
    have := (A.fr x hx).1
    exact ⟨fun z => this (List.mem_append_left _ (List.mem_append_left _ z)), fun z => this (List.mem_append_left _ (List.mem_append_right _ z)), fun z => this (List.mem_append_right _ z)⟩
  have ev : Ex (Vw F (l ++ m ++ r) H) (Vw F (l ++ m' ++ r) H') := fun x o q => by
    obtain ⟨n, e⟩ := of_mask q
    have n' : ¬ (x ∈ addrs l ∨ x ∈ addrs m ∨ x ∈ addrs r) := fun z => n (List.mem_append_left _ (mem_lmr.mpr z))
    have nM : x ∉ F.M := fun z => n (List.mem_append_right _ z)
    show mask _ _ _ = _
    rw [mask_out]
    · exact A.keep x o e fun z => n' (.inr (.inl z))
    · intro z
      rcases List.mem_append.mp z with z | z
      · rcases mem_lmr.mp z with z | z | z
        · exact n' (.inl z)
        · rcases (A.fr x z).2 with w | w
          · exact n' (.inr (.inl w))
          · rw [e] at w; cases w
        · exact n' (.inr (.inr z))
      · exact nM z
  have kp : ∀ p, (p ∈ l ∨ p ∈ r) → CelAt K (Vw F (l ++ m' ++ r) H') H' p.1 p.2 := fun p hp => by
    have hc : p ∈ l ++ m ++ r := by
      rcases hp with h | h
      · exact List.mem_append_left _ (List.mem_append_left _ h)
      · exact List.mem_append_right _ h
    refine (S.ce p hc).mono ev fun x hx => ?_
    obtain ⟨o, e⟩ := (S.ce p hc).live x hx
    rw [e]
    refine A.keep x o e ?_
    rcases hp with h | h
    · exact ml x (mem_addrs h hx)
    · exact mr x (mem_addrs h hx)
  refine ⟨⟨S.len, ?_, fun i d hi => ?_, fun p hp => ?_, fun x o q => ?_, fun x hx => ?_, fun x hx => ?_, fun x hx => ?_⟩, ev⟩
  · rw [addrs_app, addrs_app]
    refine List.nodup_append.mpr ⟨List.nodup_append.mpr ⟨n4, A.nd, fun x hx y hy e => (nm y hy).1 (e ▸ hx)⟩, n2, fun x hx y hy e => ?_⟩
    rcases List.mem_append.mp hx with hx | hx
    · exact n3 x (List.mem_append_left _ hx) y hy e
    · exact (nm x hx).2.1 (e ▸ hy)
  · obtain ⟨v, h1, h2⟩ := S.sl i d hi
    exact ⟨v, h1, h2.mono ev⟩
  · rcases List.mem_append.mp hp with hp | hp
    · rcases List.mem_append.mp hp with hp | hp
      · exact kp p (.inl hp)
      · have := A.ce p hp
        rw [vw_lmr] at this
        exact this
    · exact kp p (.inr hp)
  · obtain ⟨n, h0⟩ := of_mask q
    have h1 := (of_mask (S.keep x o q)).2
    rw [mask_out n]
    refine A.keep x o h1 fun z => ?_
    rcases (S.fr x (mem_lmr.mpr (.inr (.inl z)))).1 with f | f
    · exact n f
    · rw [h0] at f; cases f
  · rcases mem_lmr.mp hx with hx | hx | hx
    · exact S.fr x (mem_lmr.mpr (.inl hx))
    · refine ⟨?_, (nm x hx).2.2⟩
      rcases (A.fr x hx).2 with w | w
      · exact (S.fr x (mem_lmr.mpr (.inr (.inl w)))).1
      · exact .inr (S.h0 w)
    · exact S.fr x (mem_lmr.mpr (.inr (.inr hx)))
  · obtain ⟨o, e⟩ := S.live x hx
    exact ⟨o, A.keep x o e fun z => (S.fr x (mem_lmr.mpr (.inr (.inl z)))).2 hx⟩
  · by_cases z : x ∈ addrs m
    · exact A.wl x z
    · obtain ⟨o, e⟩ := S.wl x hx
      exact ⟨o, A.keep x o e z⟩
end
/-- a def that stands under its name and keeps a promise -/
structure DefOk (P : Program) (w : World) (K : PySem.W.Frag) (mg : Str → Option Value) (base : Heap) (k : Nat) (x : Str) (ps : List Str) (sp : Sp) : Prop where
  ex : ∃ f fd, FnOk P w K mg base (L2.CX P w) k f fd ps sp ∧ mg x = some (.ref f) ∧ PySem.W.keepIn K (.ref f) = true ∧ Binds K fd ps []
theorem DefOk.mono {P : Program} {w : World} {K : PySem.W.Frag} {mg : Str → Option Value} {base : Heap} {j k : Nat} {x : Str} {ps : List Str} {sp : Sp} (D : DefOk P w K mg base j x ps sp) (h : j ≤ k) : DefOk P w K mg base k x ps sp := by
  obtain ⟨f, fd, h1, h2⟩ := D.ex
  exact ⟨f, fd, h1.mono h, h2⟩
section
variable {F : Fm} {X : Cx} {Γ : List Sl} {c : Cells} {P : Cells → Dt → Prop} {pos : Pos}
/-- what a call of a promise asks -/
theorem sp_use {α : Type} {args : α → List Dt} {cells : α → Cells} {pre : α → Prop} {post : α → Cells → Dt → Prop} {exc : α → Cells → Xc → Prop} {l r c1 : Cells} {σ : L2.St} {H : Hp} {vs : List V} {Q : VK} {W : WX} {a : α} {Wd : List Sl → Cells → Xc → Prop}
    (hW : ∀ Γ c σ H x cls dx, Wd Γ c x → SI X.K F Γ c σ H → XcAt X.K (Vw F c H) x cls dx → W cls dx σ H) (S : SI X.K F Γ c1 σ H) (hc : c1 = l ++ cells a ++ r) (dv : DVs X.K (Vw F c1 H) vs (args a)) (hp : pre a)
    (hq : ∀ v H' c' d, post a c' d → SI X.K F Γ (l ++ c' ++ r) σ H' → Ex (Vw F c1 H) (Vw F (l ++ c' ++ r) H') → DV X.K (Vw F (l ++ c' ++ r) H') v d → Q v H') (hx : ∀ c' x, exc a c' x → Wd Γ (l ++ c' ++ r) x) :
    spG X.K args cells pre post exc vs H Q (WE W σ) := by
  subst hc
  have nd := S.nd
  rw [addrs_app, addrs_app] at nd
  obtain ⟨n1, n2, n3⟩ := List.nodup_append.mp nd
  obtain ⟨n4, n5, n6⟩ := List.nodup_append.mp n1
  refine ⟨addrs l ++ addrs r ++ F.M, a, fun x hx => ?_, n5, fun x hx z => ?_, fun p hp => ?_, ?_, hp, fun v H' C' d pd A dv' => ?_, fun cls dx H' C' x ex A xa => ?_⟩
  · refine S.hlive x ?_
    rcases List.mem_append.mp hx with h | h
    · refine List.mem_append_left _ (mem_lmr.mpr ?_)
      rcases List.mem_append.mp h with h | h
      · exact .inl h
      · exact .inr (.inr h)
    · exact List.mem_append_right _ h
  · rcases List.mem_append.mp z with h | h
    · rcases List.mem_append.mp h with h | h
      · exact n6 x h x hx rfl
      · exact n3 x (List.mem_append_right _ hx) x h rfl
    · exact (S.fr x (mem_lmr.mpr (.inr (.inl hx)))).2 h
  · rw [vw_lmr]
    exact S.ce p (List.mem_append_left _ (List.mem_append_right _ hp))
  · rw [vw_lmr]
    exact dv
  · obtain ⟨S2, e2⟩ := S.after A
    exact hq v H' C' d pd S2 e2 (by rw [← vw_lmr]; exact dv')
  · obtain ⟨S2, e2⟩ := S.after A
    exact hW Γ _ σ H' x cls dx (hx C' x ex) S2 (by rw [← vw_lmr]; exact xa)
theorem se_fG {α : Type} {args : α → List Dt} {cells : α → Cells} {pre : α → Prop} {post : α → Cells → Dt → Prop} {exc : α → Cells → Xc → Prop} {k : Nat} {ps : List Str} {x : Str} {p : Pos} {e : Expr} {es : List Expr} {Wd : List Sl → Cells → Xc → Prop}
    (Df : DefOk X.prog X.w X.K X.mg X.base k x ps (spG X.K args cells pre post exc)) (hr : Room k X.A) (xt : XT F X Wd)
    (h : SA F X Γ c (e :: es) fun c1 ds => ∃ a l r, ds = args a ∧ c1 = l ++ cells a ++ r ∧ pre a ∧ (∀ c' d, post a c' d → P (l ++ c' ++ r) d) ∧ ∀ c' x, exc a c' x → Wd Γ (l ++ c' ++ r) x) (hg : Gl X x := by rfl) (hdb : (x == ("__debug__" : Str)) = false := by decide)
    (he : starEach (e :: es) X.env = (false, eval e X.env) :: starEach es X.env := by rfl) (hpl : (backTo pos (starEach es X.env)).any (·.1) = false := by rfl) : SE F X Γ c (.Call (.Name x p) (e :: es) [] pos) P := by
  obtain ⟨f, fd, h1, h2, h3, h4⟩ := Df.ex
  obtain ⟨W, tk, hW⟩ := xt.ex
  refine SE.of (pe_callS h1 hr hg h2 h3 h4 (fun σ => passAt tk σ) pAs hdb he hpl) fun σ H Q S k => h σ H _ S fun vs H1 c1 ds q S1 k1 dv => ?_
  obtain ⟨a, l, r, rfl, hc, hp, q1, q2⟩ := q
  exact sp_use hW S1 hc dv hp (fun v H' c' d pd S2 e2 dv' => k v H' _ d (q1 c' d pd) S2 (k1.trans e2) dv') q2
end
def startP (N : List Str) (ds : List Dt) : List Sl := ds.map Sl.dat ++ List.replicate (N.length - ds.length) Sl.un
theorem slots_dat {K : PySem.W.Frag} {H : Hp} : ∀ {vs : List V} {ds : List Dt} (n : Nat), DVs K H vs ds → ∀ (i : Nat) (d : Dt), (ds.map Sl.dat ++ List.replicate n Sl.un)[i]? = some (.dat d) → ∃ v, (vs.map some ++ List.replicate n (none : Option V))[i]? = some (some v) ∧ DV K H v d
  | _, _, n, .nil, i, d, h => by
    simp only [List.map_nil, List.nil_append] at h
    have := List.mem_of_getElem? h
    cases (List.mem_replicate.mp this).2
  | _, _, n, .cons h1 t, 0, d, h => by
    simp at h
    subst h
    exact ⟨_, rfl, h1⟩
  | _ :: vs, _ :: ds, n, .cons h1 t, i + 1, d, h => by
    have h' : (ds.map Sl.dat ++ List.replicate n Sl.un)[i]? = some (.dat d) := by simpa using h
    have q := slots_dat n t i d h'
    simpa using q
section
variable {P : Program} {w : World} {K : PySem.W.Frag} {mg : Str → Option Value} {base : Heap}
theorem fn_G {α : Type} {args : α → List Dt} {cells : α → Cells} {pre : α → Prop} {post : α → Cells → Dt → Prop} {exc : α → Cells → Xc → Prop} {x qual : Str} {st : Stmt} {f : Addr} {fd : FuncData} {N ps : List Str} {k : Nat} (Fu : Fun K x qual st f fd) (S : FnScope N ps (defScope st)) (hl : ∀ a, (args a).length = ps.length)
    (h : ∀ (cdv : Value) (A : Around) (outer : List Env) (s : Shared) (H : Hp) (E : XK) (F : Fm) (a : α), pre a → Room k (A.deeper (envOfC qual (defScope st) s.heap.objs.size f cdv)) →
      XT F (cxOf (L2.CX P w) P w K mg base N qual (defScope st) f cdv A outer s H E) (fun _ => exc a) →
      SS F (cxOf (L2.CX P w) P w K mg base N qual (defScope st) f cdv A outer s H E) (startP N (args a)) (cells a) (defBody st) { nx := fun _ c' => post a c' .non, rt := fun _ c' d => post a c' d }) : FnOk P w K mg base (L2.CX P w) (k + 1) f fd ps (spG K args cells pre post exc) := by
  refine Fu.okX S (fun vs H Q E ⟨M, a, _, _, _, _, dv, _⟩ => by rw [dv.length, hl a]) (fun cdv A outer s H vs Q E hr ⟨M, a, hM, nd, dj, ce, dv, hp, k, kx⟩ => ?_)
  have aft : ∀ {Γ' : List Sl} {c' : Cells} {σ' : L2.St} {H' : Hp}, SI K { H0 := H, M := M, W := addrs (cells a) } Γ' c' σ' H' → Aft K M H (cells a) c' H' := fun S' =>
    ⟨fun b o e n => (of_mask (S'.keep b o (by rw [mask_out n]; exact e))).2, S'.nd, fun x hx => ⟨(S'.fr x hx).2, (S'.fr x hx).1⟩, S'.ce, S'.wl⟩
  have hq := h cdv A outer s H E { H0 := H, M := M, W := addrs (cells a) } a hp hr ⟨fun cls d _ H => E cls d H, takes_of rfl rfl rfl rfl, fun Γ' c' σ' H' x cls dx ex S' xa => kx cls dx H' c' x ex (aft S') xa⟩
  refine ⟨_, pSts, hq _ H _ ⟨?_, nd, fun i d hi => ?_, ce, Ex.refl _, fun x hx => ⟨.inl hx, dj x hx⟩, hM, fun x hx => ?_⟩ ⟨?_, ?_, fun _ _ _ _ z => z.elim, fun _ _ _ _ z => z.elim⟩⟩
  · unfold L2.start startP
    rw [List.length_append, List.length_append, List.length_map, List.length_map, List.length_replicate, List.length_replicate, dv.length]
  · unfold L2.start
    rw [dv.length]
    exact slots_dat _ dv i d hi
  · obtain ⟨p, h1, h2⟩ := of_addrs hx
    exact (ce p h1).live x h2
  · intro Γ' c' σ' H' p S' e'
    exact k .non H' c' .non p (aft S') .non
  · intro Γ' c' σ' H' v d p S' e' dv'
    exact k v H' c' d p (aft S') dv'
/-- a def that changes nothing -/
def spP (K : PySem.W.Frag) {α : Type} (args : α → List Dt) (pre : α → Prop) (post : α → Dt → Prop) : Sp := spG K args (fun _ => []) pre (fun a c' d => c' = [] ∧ post a d) fun _ _ _ => False
def LIM : Nat := 1000000000
/-- a def whose first argument is the bag -/
def spB (K : PySem.W.Frag) {α : Type} (args : α → List Dt) (pre : α → Prop) (cost : α → Nat) (post : α → Dt → Prop) : Sp :=
  spG K (fun (a : Addr × Nat × α) => .raw (.ref a.1) :: args a.2.2) (fun a => [(a.1, .bag a.2.1)]) (fun a => a.2.1 + cost a.2.2 ≤ LIM ∧ pre a.2.2) (fun a c' d => (∃ n, n ≤ a.2.1 + cost a.2.2 ∧ c' = [(a.1, .bag n)]) ∧ post a.2.2 d) fun _ _ _ => False
theorem fn_P {α : Type} {args : α → List Dt} {pre : α → Prop} {post : α → Dt → Prop} {x qual : Str} {st : Stmt} {f : Addr} {fd : FuncData} {N ps : List Str} {k : Nat} (Fu : Fun K x qual st f fd) (S : FnScope N ps (defScope st)) (hl : ∀ a, (args a).length = ps.length)
    (h : ∀ (cdv : Value) (A : Around) (outer : List Env) (s : Shared) (H : Hp) (E : XK) (F : Fm) (a : α), pre a → Room k (A.deeper (envOfC qual (defScope st) s.heap.objs.size f cdv)) →
      SS F (cxOf (L2.CX P w) P w K mg base N qual (defScope st) f cdv A outer s H E) (startP N (args a)) [] (defBody st) { nx := fun _ c' => c' = [] ∧ post a .non, rt := fun _ c' d => c' = [] ∧ post a d }) : FnOk P w K mg base (L2.CX P w) (k + 1) f fd ps (spP K args pre post) :=
  fn_G Fu S hl fun cdv A outer s H E F a hp hr _ => h cdv A outer s H E F a hp hr
theorem fn_B {α : Type} {args : α → List Dt} {pre : α → Prop} {cost : α → Nat} {post : α → Dt → Prop} {x qual : Str} {st : Stmt} {f : Addr} {fd : FuncData} {N ps : List Str} {k : Nat} (Fu : Fun K x qual st f fd) (S : FnScope N ps (defScope st)) (hl : ∀ a, (args a).length + 1 = ps.length)
    (h : ∀ (cdv : Value) (A : Around) (outer : List Env) (s : Shared) (H : Hp) (E : XK) (F : Fm) (b : Addr) (n : Nat) (a : α), pre a → n + cost a ≤ LIM → Room k (A.deeper (envOfC qual (defScope st) s.heap.objs.size f cdv)) →
      SS F (cxOf (L2.CX P w) P w K mg base N qual (defScope st) f cdv A outer s H E) (startP N (.raw (.ref b) :: args a)) [(b, .bag n)] (defBody st) { nx := fun _ c' => (∃ m, m ≤ n + cost a ∧ c' = [(b, .bag m)]) ∧ post a .non, rt := fun _ c' d => (∃ m, m ≤ n + cost a ∧ c' = [(b, .bag m)]) ∧ post a d }) : FnOk P w K mg base (L2.CX P w) (k + 1) f fd ps (spB K args pre cost post) :=
  fn_G Fu S (fun a => by rw [List.length_cons]; exact hl a.2.2) fun cdv A outer s H E F a hp hr _ => h cdv A outer s H E F a.1 a.2.1 a.2.2 hp.2 hp.1 hr
end
section
variable {F : Fm} {X : Cx} {Γ : List Sl} {c : Cells} {P : Cells → Dt → Prop} {pos : Pos}
theorem se_fP {α : Type} {args : α → List Dt} {pre : α → Prop} {post : α → Dt → Prop} {k : Nat} {ps : List Str} {x : Str} {p : Pos} {e : Expr} {es : List Expr}
    (Df : DefOk X.prog X.w X.K X.mg X.base k x ps (spP X.K args pre post)) (hr : Room k X.A)
    (h : SA F X Γ c (e :: es) fun c1 ds => ∃ a, ds = args a ∧ pre a ∧ ∀ d, post a d → P c1 d) (hg : Gl X x := by rfl) (hdb : (x == ("__debug__" : Str)) = false := by decide)
    (he : starEach (e :: es) X.env = (false, eval e X.env) :: starEach es X.env := by rfl) (hpl : (backTo pos (starEach es X.env)).any (·.1) = false := by rfl) : SE F X Γ c (.Call (.Name x p) (e :: es) [] pos) P :=
  se_fG Df hr XT.no (.mk fun σ H Q S k => h σ H Q S fun vs H' c' ds q => k vs H' c' ds (by
    obtain ⟨a, h1, h2, h3⟩ := q
    refine ⟨a, c', [], h1, by simp, h2, ?_, fun _ _ z => z⟩
    rintro c2 d ⟨rfl, pd⟩
    rw [List.append_nil, List.append_nil]
    exact h3 d pd)) hg hdb he hpl
theorem SI.bagW {K : PySem.W.Frag} {σ : L2.St} {H : Hp} (S : SI K F Γ c σ H) {j : Nat} {b : Addr} {n m : Nat} (hj : c[j]? = some (b, .bag n)) (h : n ≤ m) : SI K F Γ (c.set j (b, .bag m)) σ H ∧ Ex (Vw F c H) (Vw F (c.set j (b, .bag m)) H) :=
  S.chg (q' := .bag m) hj rfl (fun _ _ => rfl) (BagAt.mono (S.cat hj) h)
theorem split_at {α : Type} {l : List α} {j : Nat} {x : α} (h : l[j]? = some x) : l = l.take j ++ [x] ++ l.drop (j + 1) ∧ ∀ y, l.set j y = l.take j ++ [y] ++ l.drop (j + 1) := by
  have hl : j < l.length := (List.getElem?_eq_some_iff.mp h).1
  have e : l[j] = x := (List.getElem?_eq_some_iff.mp h).2
  refine ⟨?_, fun y => ?_⟩
  · rw [List.append_assoc, ← e]
    show l = l.take j ++ (l[j] :: l.drop (j + 1))
    rw [← List.drop_eq_getElem_cons hl, List.take_append_drop]
  · rw [List.append_assoc]
    show l.set j y = l.take j ++ (y :: l.drop (j + 1))
    rw [List.set_eq_take_append_cons_drop, if_pos hl]
theorem se_fB {α : Type} {args : α → List Dt} {pre : α → Prop} {cost : α → Nat} {post : α → Dt → Prop} {k : Nat} {ps : List Str} {x : Str} {p : Pos} {e : Expr} {es : List Expr} (j : Nat)
    (Df : DefOk X.prog X.w X.K X.mg X.base k x ps (spB X.K args pre cost post)) (hr : Room k X.A)
    (h : SA F X Γ c (e :: es) fun c1 ds => ∃ b n a, c1[j]? = some (b, .bag n) ∧ ds = .raw (.ref b) :: args a ∧ pre a ∧ n + cost a ≤ LIM ∧ ∀ d, post a d → P (c1.set j (b, .bag (n + cost a))) d) (hg : Gl X x := by rfl) (hdb : (x == ("__debug__" : Str)) = false := by decide)
    (he : starEach (e :: es) X.env = (false, eval e X.env) :: starEach es X.env := by rfl) (hpl : (backTo pos (starEach es X.env)).any (·.1) = false := by rfl) : SE F X Γ c (.Call (.Name x p) (e :: es) [] pos) P := by
  refine .mk fun σ H Q S k => ?_
  refine se_fG (P := fun c2 d => ∃ c1 b n m, c1[j]? = some (b, .bag n) ∧ n ≤ m ∧ P (c1.set j (b, .bag m)) d ∧ c2 = c1) Df hr XT.no (.mk fun σ H Q S k => h σ H Q S fun vs H' c' ds q => k vs H' c' ds (by
    obtain ⟨b, n, a, h1, h2, h3, h4, h5⟩ := q
    obtain ⟨e1, e2⟩ := split_at h1
    refine ⟨(b, n, a), c'.take j, c'.drop (j + 1), h2, e1, ⟨h4, h3⟩, ?_, fun _ _ z => z⟩
    rintro c2 d ⟨⟨m, hm, rfl⟩, pd⟩
    refine ⟨_, b, m, n + cost a, ?_, hm, ?_, rfl⟩
    · rw [← e2]
      exact List.getElem?_set_self (List.getElem?_eq_some_iff.mp h1).1
    · rw [← e2, List.set_set]
      exact h5 d pd)) hg hdb he hpl σ H Q S ?_
  rintro v H' c' d ⟨c1, b, n, m, h1, h2, h3, rfl⟩ S' e' dv
  obtain ⟨S2, e2⟩ := S'.bagW h1 h2
  exact k v H' _ d h3 S2 (e'.trans e2) (dv.mono e2)
end
end D
end
section
set_option Elab.async false
set_option linter.all false
set_option maxRecDepth 100000
namespace D
open PySem L2 PyProof.Rows
abbrev tl (s : Str) : List Nat := s.cps.toList
theorem str_ext {a b : Str} (h : tl a = tl b) : a = b := TL.ext_tl h
theorem tl_app (a b : Str) : tl (a ++ b) = tl a ++ tl b := TL.tl_append a b
theorem len_app (a b : Str) : (a ++ b).length = a.length + b.length := by rw [TL.len_tl, TL.len_tl a, TL.len_tl b, TL.tl_append, List.length_append]
theorem len_tl (s : Str) : s.length = (tl s).length := TL.len_tl s
theorem tl_join (y : Str) (l : List Str) : tl (Txt.join y l) = TL.joinL (tl y) (l.map tl) := by
  rw [TL.join_eq]
  exact TL.tl_join y l
theorem joinL_nil : ∀ l : List (List Nat), TL.joinL [] l = l.flatten
  | [] => rfl
  | [p] => by simp [TL.joinL]
  | p :: q :: r => by
    show p ++ ([] ++ TL.joinL [] (q :: r)) = (p :: q :: r).flatten
    rw [joinL_nil (q :: r)]
    rfl
theorem tl_join0 {y : Str} (h : tl y = []) (l : List Str) : tl (Txt.join y l) = (l.map tl).flatten := by rw [tl_join, h, joinL_nil]
/-- plain texts: a length, signs of seven bits -/
structure Asc (n : Nat) (s : Str) : Prop where
  len : s.length ≤ n
  cp : ∀ a ∈ tl s, a < 128
theorem Asc.mono {n m : Nat} {s : Str} (h : Asc n s) (l : n ≤ m) : Asc m s := ⟨Nat.le_trans h.len l, h.cp⟩
theorem Asc.ok {n : Nat} {s : Str} (h : Asc n s) : PyData.strOk s = true := by
  unfold PyData.strOk
  rw [Array.all_eq_true_iff_forall_mem]
  intro a ha
  have := h.cp a (by simpa [tl] using ha)
  exact decide_eq_true (by omega)
theorem Asc.app {n m : Nat} {a b : Str} (h : Asc n a) (k : Asc m b) : Asc (n + m) (a ++ b) := ⟨by rw [len_app]; exact Nat.add_le_add h.len k.len, fun x hx => by
  rw [tl_app] at hx
  rcases List.mem_append.mp hx with z | z
  · exact h.cp x z
  · exact k.cp x z⟩
theorem cutD_from {α : Type} (l : List α) {k : Int} (h : 0 ≤ k) : cutD l (some k) none = l.drop k.toNat := by
  unfold cutD
  show (l.drop (if k < 0 then _ else min k.toNat l.length)).take (l.length - (if k < 0 then _ else min k.toNat l.length)) = _
  rw [if_neg (by omega)]
  by_cases e : k.toNat ≤ l.length
  · rw [Nat.min_eq_left e, List.take_of_length_le (by rw [List.length_drop]; omega)]
  · rw [Nat.min_eq_right (by omega), List.drop_length, List.drop_of_length_le (by omega)]
    simp
theorem cutD_to {α : Type} (l : List α) {k : Int} (h : 0 ≤ k) : cutD l none (some k) = l.take k.toNat := by
  unfold cutD
  show (l.drop 0).take ((if k < 0 then _ else min k.toNat l.length) - 0) = _
  rw [if_neg (by omega), List.drop_zero, Nat.sub_zero]
  by_cases e : k.toNat ≤ l.length
  · rw [Nat.min_eq_left e]
  · rw [Nat.min_eq_right (by omega), List.take_length, List.take_of_length_le (by omega)]
theorem eqd_lst_nil (l : List Dt) : eqd (.lst l) (.lst []) = l.isEmpty := by
  unfold eqd
  cases l with
  | nil => rfl
  | cons d l => rfl
theorem eqd_tup_nil (l : List Dt) : eqd (.tup l) (.tup []) = l.isEmpty := by
  unfold eqd
  cases l with
  | nil => rfl
  | cons d l => rfl
section
variable {F : Fm} {X : Cx} {Γ : List Sl} {c : Cells} {Φ : PEnds} {pos : Pos}
theorem so_none {P : Cells → Option Int → Prop} (p : P c none) : SO F X Γ c none P := p
theorem so_some {e : Expr} {P : Cells → Option Int → Prop} (h : SE F X Γ c e fun c1 d => ∃ i, d = .int i ∧ P c1 (some i)) : SO F X Γ c (some e) P := h
end
end D
end
section
set_option Elab.async false
set_option linter.all false
set_option maxRecDepth 100000
namespace D
open PySem L2 PyProof.Rows
theorem room65 {k : Nat} {A : Around} (hr : Room k A) : A.units + 65 < cLine := by have := hr.un; omega
section
variable {F : Fm} {X : Cx} {Γ : List Sl} {c : Cells} {P : Cells → Dt → Prop} {Φ : PEnds} {pos : Pos}
theorem se_neg {e : Expr} (h : SE F X Γ c e fun c1 d => ∃ i : Int, d = .int i ∧ P c1 (.int (-i))) : SE F X Γ c (.UnaryOp .USub e pos) P :=
  SE.of (pe_un un_neg pE) fun σ H Q S k => h σ H _ S fun v H1 c1 d p S1 e1 dv => by
    obtain ⟨i, rfl, p⟩ := p
    cases dv
    exact ⟨i, rfl, k _ H1 c1 _ p S1 e1 (.int _)⟩
end
end D
end
section
set_option Elab.async false
set_option linter.all false
set_option maxRecDepth 100000
namespace D
open PySem L2 PyProof.Rows
def spI (K : PySem.W.Frag) (C : Addr) (fld : Str) (pre : Dt → Prop) : Sp := fun vs H Q _ => ∃ (a : Addr) (v : V) (M : List Addr) (d : Dt), vs = [.ref a, v] ∧ H a = some (exo a C none) ∧ DV K (mask M H) v d ∧ pre d ∧
  ∀ dx, H dx = none → dx ≠ a → Q .non (upd (upd H dx (exd dx [(fld, v)])) a (exo a C (some dx)))
structure ExC (P : Program) (w : World) (K : PySem.W.Frag) (mg : Str → Option Value) (base : Heap) (C : Addr) (x fld : Str) (pre : Dt → Prop) : Prop where
  O : OexC K C
  xf : XfC K C
  nof : PySem.W.findIn K (.ref C) fld = some none
  exm : PySem.W.exmOne K (.ref C) (.ref C) = some true
  gx : mg x = some (.ref C)
  ini : ∃ fI fd, PySem.W.findIn K (.ref C) "__init__" = some (some (.ref fI)) ∧ PySem.W.typeIn K (.ref fI) = some (.type "function") ∧ FnOk P w K mg base CX0 1 fI fd ["self", fld] (spI K C fld pre) ∧ Binds K fd ["self", fld] []
theorem exc_heap {H : Hp} {a dx C : Addr} {fld : Str} {v : V} (ha : H a = none) (hd : H dx = none) (ne : dx ≠ a) :
    upd (L2.del (upd (upd (upd H a (exo a C none)) dx (exd dx [(fld, v)])) a (exo a C (some dx))) a) dx (.xd [(fld, v)]) = upd H dx (.xd [(fld, v)]) := by
  funext b
  by_cases h1 : b = dx
  · rw [h1, upd_same, upd_same]
  · rw [upd_ne h1, upd_ne h1]
    by_cases h2 : b = a
    · rw [h2, del_same, ha]
    · rw [del_ne h2, upd_ne h2, upd_ne h1, upd_ne h2]
section
variable {F : Fm} {X : Cx} {Γ : List Sl} {c : Cells} {P : Cells → Dt → Prop} {Φ : PEnds} {pos : Pos}
theorem s_raise {C : Addr} {x fld : Str} {pre : Dt → Prop} {e : Expr} {p cpos : Pos} {Wd : List Sl → Cells → Xc → Prop} (T : ExC X.prog X.w X.K X.mg X.base C x fld pre) (hc : X.calm = true) (xt : XT F X Wd) (hr : Room 2 X.A)
    (h : SE F X Γ c e fun c1 d => pre d ∧ Wd Γ c1 ⟨C, some [(fld, d)]⟩)
    (hg : Gl X x := by rfl) (hdb : (x == ("__debug__" : Str)) = false := by decide) (he : starEach [e] X.env = (false, eval e X.env) :: starEach [] X.env := by rfl) (hpl : (backTo cpos (starEach [] X.env)).any (·.1) = false := by rfl) :
    S1 F X Γ c (.Raise (some (.Call (.Name x p) [e] [] cpos)) none pos) Φ := by
  obtain ⟨fI, fd, h1, h2, h3, h4⟩ := T.ini
  obtain ⟨W, tk, hW⟩ := xt.ex
  refine S1.of (ps_raise hc tk (pmk_oex T.O h1 h2 h3 hr h4 .nil pass0 hg T.gx (pa_cons pE pa_nil he) hdb he hpl)) fun σ H D S E' => ?_
  refine h σ H _ S fun v H1 c1 d p S1 e1 dv => ⟨by show 1 ≤ 1000; decide, fun a ha => ?_⟩
  refine ⟨a, v, hid F c1, d, rfl, upd_same, dv.mono (Kp.new (F := F) ha).hid, p.1, fun dx hdx ne => ?_⟩
  have hd1 : H1 dx = none := by rw [upd_ne ne] at hdx; exact hdx
  refine ⟨rfl, dx, [(fld, v)], upd_same, by rw [upd_ne ne, upd_same], hd1, ?_⟩
  rw [exc_heap ha hd1 ne]
  have en : Ex (Vw F c1 H1) (Vw F c1 (upd H1 dx (.xd [(fld, v)]))) := (Kp.new (F := F) hd1).hid
  exact hW Γ c1 σ _ _ _ _ p.2 (S1.new hd1) ⟨rfl, dx, _, rfl, (mask_out (S1.fresh hd1)).trans upd_same, .cons (dv.mono en) .nil⟩
/-- n.f in the suite of except .. as n -/
theorem se_xf {a C dd : Addr} {oe : Obj} {pn : List (Addr × Obj)} {n f : Str} {np : Pos} {fs : List (Str × Dt)} {d : Dt} (i : Nat) (T : XfC X.K C) (hno : PySem.W.findIn X.K (.ref C) f = some none) (hz : Zc (.ref C) (some dd) oe) (hf : ∃ vs, oe.data = .fields vs)
    (hs : Γ[i]? = some (.dat (.exc a dd fs))) (hl : fs.lookup f = some d) (p : P c d) (hN : X.N[i]? = some n := by rfl) (hv : Vis X.env.scope n := by first | exact Or.inl rfl | exact Or.inr (Or.inl rfl) | exact Or.inr (Or.inr rfl))
    (hd : (n == ("__debug__" : Str)) = false := by decide) (hcd : (n == ("__classdict__" : Str)) = false := by decide) (hb : attributeBase (.Name n np) f X.env (eval (.Name n np) X.env) = eval (.Name n np) X.env := by rfl) :
    SE F (X.suite a ((a, oe) :: pn)) Γ c (.Attribute (.Name n np) f pos) P :=
  SE.of (pe_xf T hno hz hf (pe_var hN hv hd hcd) hb) fun σ H Q S k => by
    obtain ⟨v, h1, h2⟩ := S.sl i _ hs
    cases h2 with
    | exc hx t =>
      obtain ⟨u, h3, h4⟩ := t.get hl
      exact ⟨_, h1, rfl, rfl, dd, _, u, rfl, (of_mask hx).2, h3, k u H c d p S (Ex.refl _) h4⟩
/-- the frame of a try -/
def snap (F : Fm) (c : Cells) (H : Hp) : Fm := { H0 := H, M := F.M, W := addrs c }
theorem SI.snap {K : PySem.W.Frag} {σ : L2.St} {H : Hp} (S : SI K F Γ c σ H) : SI K (snap F c H) Γ c σ H :=
  ⟨S.len, S.nd, S.sl, S.ce, Ex.refl _, fun a ha => ⟨.inl ha, (S.fr a ha).2⟩, S.live, fun a ha => S.hlive a (List.mem_append_left _ ha)⟩
theorem SI.unsnap {K : PySem.W.Frag} {σ σ' : L2.St} {H H' : Hp} {Γ' : List Sl} {c' : Cells} (S : SI K F Γ c σ H) (S' : SI K (D.snap F c H) Γ' c' σ' H') : SI K F Γ' c' σ' H' ∧ Ex (Vw F c H) (Vw F c' H') := by
  have kp : ∀ x o, H x = some o → x ∉ addrs c → H' x = some o := fun x o e n => (of_mask (S'.keep x o (by rw [mask_out (show x ∉ (D.snap F c H).W from n)]; exact e))).2
  have fr : ∀ x ∈ addrs c', (x ∈ addrs c ∨ H x = none) ∧ x ∉ F.M := S'.fr
  refine ⟨⟨S'.len, S'.nd, S'.sl, S'.ce, fun x o q => ?_, fun x hx => ⟨?_, (fr x hx).2⟩, S'.live, fun x hx => ?_⟩, fun x o q => ?_⟩
  · obtain ⟨n, h0⟩ := of_mask q
    have h1 := (of_mask (S.keep x o q)).2
    rw [mask_out n]
    refine kp x o h1 fun z => ?_
    rcases (S.fr x z).1 with f | f
    · exact n f
    · rw [h0] at f; cases f
  · rcases (fr x hx).1 with z | z
    · exact (S.fr x z).1
    · exact .inr (S.h0 z)
  · by_cases z : x ∈ addrs c
    · exact S'.wl x z
    · obtain ⟨o, e⟩ := S.wl x hx
      exact ⟨o, kp x o e z⟩
  · obtain ⟨n, e⟩ := of_mask q
    have nc : x ∉ addrs c := fun z => n (List.mem_append_left _ z)
    show mask _ _ _ = _
    rw [mask_out, kp x o e nc]
    intro z
    rcases List.mem_append.mp z with z | z
    · rcases (fr x z).1 with w | w
      · exact nc w
      · rw [e] at w; cases w
    · exact n (List.mem_append_right _ z)
/-- try: .. except x as n: .. -/
theorem s_try {C : Addr} {x fld n : Str} {pre : Dt → Prop} {body suite : List Stmt} {b₀ : Stmt} {np pos' : Pos} (i : Nat) (Wd : List Sl → Cells → Dt → Prop) (T : ExC X.prog X.w X.K X.mg X.base C x fld pre) (hN : X.N.Nodup)
    (hb : ∀ (F' : Fm) (pn : List (Addr × Obj)) (xe : Value → Shared → Prop), XT F' (X.tr pn xe) (fun Γ1 c1 y => ∃ d, y = ⟨C, some [(fld, d)]⟩ ∧ Wd Γ1 c1 d) → SS F' (X.tr pn xe) Γ c body Φ)
    (hsu : ∀ (F' : Fm) (Γ1 : List Sl) (a : Addr) (oe : Obj) (pn : List (Addr × Obj)) (dd : Addr) (d : Dt) (c1 : Cells), Wd Γ1 c1 d → Zc (.ref C) (some dd) oe → (∃ vs, oe.data = .fields vs) →
      SS F' (X.suite a ((a, oe) :: pn)) (Γ1.set i (.dat (.exc a dd [(fld, d)]))) c1 (b₀ :: suite) { Φ with nx := fun Γ' c' => Φ.nx (Γ'.set i .un) c', bk := fun _ _ => False, ct := fun _ _ => False })
    (hs : X.stack = X.env :: X.outer := by rfl) (hf : X.env.frame = some X.env.locals := by rfl) (hi : X.N[i]? = some n := by rfl) (hln : X.env.kindOf n = some .local := by rfl) (hg : Gl X x := by rfl) (hdb : (x == ("__debug__" : Str)) = false := by decide) :
    S1 F X Γ c (.Try body [.ExceptHandler (some (.Name x np)) (some n) (b₀ :: suite) pos'] [] [] pos) Φ := by
  refine S1.of (ps_try_as (i := i) (Wout := fun _ _ _ _ => False) (tb := fun W => fun D σ H => ∀ pn xe, Takes (X.tr pn xe) W → tSts (X.tr pn xe) body D σ H)
    (ts := fun a cls d => fun D σ H => ∀ oe pn, Zc cls d oe → (∃ vs, oe.data = .fields vs) → tSts (X.suite a ((a, oe) :: pn)) (b₀ :: suite) D σ H) hs hf hN hi hln ⟨hg, hdb, .inl T.gx⟩ takes0
    (fun W pn xe tk _ => ⟨fun pins s σ H D I h => (h pn xe tk).run pins s I⟩) (fun a oe cls d pn hz hd => ⟨fun pins s σ H D I h => (h oe pn hz hd).run pins s I⟩)) fun σ H D S E => ?_
  intro pn xe tk
  have un := fun {Γ' : List Sl} {c' : Cells} {σ' : L2.St} {H' : Hp} (S' : SI X.K (snap F c H) Γ' c' σ' H') => S.unsnap S'
  refine hb (snap F c H) pn xe ⟨_, tk, fun Γ1 c1 σ' H' y cls dx hy S' xa => ?_⟩ σ H D S.snap ⟨fun Γ' c' σ' H' p S' _ => E.nx Γ' c' σ' H' p (un S').1 (un S').2, fun Γ' c' σ' H' v d p S' _ dv => E.rt Γ' c' σ' H' v d p (un S').1 (un S').2 dv,
    fun Γ' c' σ' H' p S' _ => E.bk Γ' c' σ' H' p (un S').1 (un S').2, fun Γ' c' σ' H' p S' _ => E.ct Γ' c' σ' H' p (un S').1 (un S').2⟩
  obtain ⟨d, rfl, wd⟩ := hy
  obtain ⟨rfl, dd, xs, rfl, hx, t⟩ := xa
  cases t with
  | cons dv t =>
    cases t
    refine ⟨true, T.exm, fun _ a ha oe pn' hz hd => ?_, fun z => nomatch z⟩
    refine hsu (snap F c H) Γ1 a oe pn' dd d c1 wd hz hd _ H' _ (S'.setD (i := i) (d := .exc a dd [(fld, d)]) (.exc hx (.cons dv .nil))) ⟨fun Γ' c' σ2 H2 p S2 _ => ?_, fun Γ' c' σ2 H2 v d p S2 _ dv => E.rt Γ' c' σ2 H2 v d p (un S2).1 (un S2).2 dv, fun _ _ _ _ z => z.elim, fun _ _ _ _ z => z.elim⟩
    exact E.nx _ c' _ H2 p ((un S2).1.setS fun d e => nomatch e) (un S2).2
end
end D
end
section
set_option Elab.async false
set_option linter.all false
set_option maxRecDepth 100000
namespace D
open PySem L2 PyProof.Rows
section
variable {κ : Type} [DecidableEq κ]
def dval (l : List (κ × Dt)) (k : κ) : Option Dt := (l.find? fun kv => decide (kv.1 = k)).map (·.2)
def dput (l : List (κ × Dt)) (k : κ) (d : Dt) : List (κ × Dt) := if (l.any fun kv => decide (kv.1 = k)) = true then l.map (fun kv => if kv.1 = k then (kv.1, d) else kv) else l ++ [(k, d)]
def ddrop (l : List (κ × Dt)) (k : κ) : List (κ × Dt) := l.filter fun kv => decide (kv.1 ≠ k)
end
/-- the values, key by key -/
inductive DVp {κ : Type} (K : PySem.W.Frag) (H : Hp) : List (κ × V) → List (κ × Dt) → Prop
  | nil : DVp K H [] []
  | cons {k : κ} {v : V} {vs : List (κ × V)} {d : Dt} {ds : List (κ × Dt)} : DV K H v d → DVp K H vs ds → DVp K H ((k, v) :: vs) ((k, d) :: ds)
section
variable {K : PySem.W.Frag} {H : Hp}
theorem DVk.p : ∀ {xs : List (Key × V)} {l : List (Key × Dt)}, DVk K H xs l → DVp K H xs l
  | _, _, .nil => .nil
  | _, _, .cons h t => .cons h (DVk.p t)
theorem DVp.k : ∀ {xs : List (Key × V)} {l : List (Key × Dt)}, DVp K H xs l → DVk K H xs l
  | _, _, .nil => .nil
  | _, _, .cons h t => .cons h (DVp.k t)
theorem DVu.p : ∀ {xs : List (List Key × V)} {l : List (List Key × Dt)}, DVu K H xs l → DVp K H xs l
  | _, _, .nil => .nil
  | _, _, .cons h t => .cons h (DVu.p t)
theorem DVp.u : ∀ {xs : List (List Key × V)} {l : List (List Key × Dt)}, DVp K H xs l → DVu K H xs l
  | _, _, .nil => .nil
  | _, _, .cons h t => .cons h (DVp.u t)
section
variable {κ : Type} [DecidableEq κ]
theorem DVp.length : ∀ {xs : List (κ × V)} {l : List (κ × Dt)}, DVp K H xs l → xs.length = l.length
  | _, _, .nil => rfl
  | _, _, .cons _ t => congrArg (· + 1) (DVp.length t)
theorem DVp.keys : ∀ {xs : List (κ × V)} {l : List (κ × Dt)}, DVp K H xs l → xs.map (·.1) = l.map (·.1)
  | _, _, .nil => rfl
  | _, _, .cons _ t => by simp [DVp.keys t]
theorem DVp.get : ∀ {xs : List (κ × V)} {l : List (κ × Dt)} {i : Nat} {k : κ} {v : V}, DVp K H xs l → xs[i]? = some (k, v) → ∃ d, l[i]? = some (k, d) ∧ DV K H v d
  | _, _, _, _, _, .nil, h => by simp at h
  | _, _, 0, _, _, .cons h t, e => by simp at e; obtain ⟨rfl, rfl⟩ := e; exact ⟨_, rfl, h⟩
  | _, _, i + 1, k, v, .cons h t, e => by
    obtain ⟨d, h1, h2⟩ := DVp.get (i := i) t (by simpa using e)
    exact ⟨d, by simpa using h1, h2⟩
theorem dval_pos {p : κ × Dt} {r : List (κ × Dt)} {k : κ} (e : p.1 = k) : dval (p :: r) k = some p.2 := by simp [dval, List.find?_cons, e]
theorem dval_neg {p : κ × Dt} {r : List (κ × Dt)} {k : κ} (e : ¬ p.1 = k) : dval (p :: r) k = dval r k := by simp [dval, List.find?_cons, e]
theorem dval_any (k : κ) : ∀ l : List (κ × Dt), (l.any fun kv => decide (kv.1 = k)) = (dval l k).isSome
  | [] => rfl
  | p :: l => by
    by_cases e : p.1 = k
    · rw [dval_pos e, List.any_cons]; simp [e]
    · rw [dval_neg e, List.any_cons, dval_any k l]; simp [e]
/-- the looked-up value: both there, or both not -/
theorem DVp.val (k : κ) : ∀ {xs : List (κ × V)} {l : List (κ × Dt)}, DVp K H xs l → (valV xs k = none ∧ dval l k = none) ∨ ∃ v d, valV xs k = some v ∧ dval l k = some d ∧ DV K H v d
  | _, _, .nil => .inl ⟨rfl, rfl⟩
  | _, _, .cons (k := j) (v := v) (d := d) h t => by
    by_cases e : j = k
    · exact .inr ⟨v, d, valV_pos e, dval_pos e, h⟩
    · rw [valV_neg (p := (j, v)) e, dval_neg (p := (j, d)) e]
      exact DVp.val k t
theorem DVp.repl (k : κ) {v : V} {d : Dt} (dv : DV K H v d) : ∀ {xs : List (κ × V)} {l : List (κ × Dt)}, DVp K H xs l → DVp K H (xs.map fun kv => if kv.1 = k then (kv.1, v) else kv) (l.map fun kv => if kv.1 = k then (kv.1, d) else kv)
  | _, _, .nil => .nil
  | _, _, .cons (k := j) h t => by
    by_cases e : j = k
    · simp only [List.map_cons, e, if_true]; exact .cons dv (DVp.repl k dv t)
    · simp only [List.map_cons, if_neg e]; exact .cons h (DVp.repl k dv t)
theorem DVp.app : ∀ {xs ys : List (κ × V)} {l m : List (κ × Dt)}, DVp K H xs l → DVp K H ys m → DVp K H (xs ++ ys) (l ++ m)
  | _, _, _, _, .nil, u => u
  | _, _, _, _, .cons h t, u => .cons h (DVp.app t u)
theorem DVp.put (k : κ) {v : V} {d : Dt} (dv : DV K H v d) {xs : List (κ × V)} {l : List (κ × Dt)} (t : DVp K H xs l) : DVp K H (putK xs k v) (dput l k d) := by
  have e : (xs.any fun kv => decide (kv.1 = k)) = (l.any fun kv => decide (kv.1 = k)) := by
    rw [valV_any, dval_any]
    rcases t.val k with ⟨h1, h2⟩ | ⟨a, b, h1, h2, _⟩ <;> rw [h1, h2] <;> rfl
  unfold putK dput
  rw [e]
  by_cases z : (l.any fun kv => decide (kv.1 = k)) = true
  · rw [if_pos z, if_pos z]; exact t.repl k dv
  · rw [if_neg z, if_neg z]; exact t.app (.cons dv .nil)
theorem DVp.drop (k : κ) : ∀ {xs : List (κ × V)} {l : List (κ × Dt)}, DVp K H xs l → DVp K H (dropK xs k) (ddrop l k)
  | _, _, .nil => .nil
  | _, _, .cons (k := j) h t => by
    unfold dropK ddrop
    by_cases e : j = k
    · simp only [List.filter_cons, e, ne_eq, not_true_eq_false, decide_false]
      exact DVp.drop k t
    · simp only [List.filter_cons, e, ne_eq, not_false_eq_true, decide_true, if_true]
      exact .cons h (DVp.drop k t)
end
end
/-- a datum as a key -/
def dkey : Dt → Option Key
  | .int i => some (.inl i)
  | .str s => some (.inr s)
  | _ => none
theorem dkey_dv {K : PySem.W.Frag} {H : Hp} {v : V} {d : Dt} {k : Key} (h : DV K H v d) (e : dkey d = some k) : v = kV k := by
  cases h <;> cases e <;> rfl
/-- a slot's own dict frozen for good, ahead of a statement -/
theorem tSts_lock {X : Cx} {ss : List Stmt} {E : Ends} {σ : L2.St} {H : Hp} {d : Addr} {u : HO} (hd : H d = some u) (mu : Mut (some u)) (h : ∀ od, tSts X ss E σ (upd H d (.frz od u))) : tSts X ss E σ H :=
  ⟨fun pins s I => by
    obtain ⟨od, I1⟩ := I.lock hd mu
    exact (h od).run pins s I1⟩
section
variable {F : Fm} {X : Cx} {Γ : List Sl} {c : Cells} {P : Cells → Dt → Prop} {Φ : PEnds} {pos : Pos}
/-- the cell j, a dict, becomes a datum -/
theorem SI.frD {K : PySem.W.Frag} {σ : L2.St} {H : Hp} (S : SI K F Γ c σ H) {j : Nat} {a : Addr} {l : List (Key × Dt)} (hj : c[j]? = some (a, .dk l)) : ∃ xs, H a = some (.dK xs) ∧ ∀ od, SI K F Γ (c.eraseIdx j) σ (upd H a (.frz od (.dK xs))) ∧ Ex (Vw F c H) (Vw F (c.eraseIdx j) (upd H a (.frz od (.dK xs)))) ∧
    DV K (Vw F (c.eraseIdx j) (upd H a (.frz od (.dK xs)))) (.ref a) (.dct l) := by
  obtain ⟨xs, h1, h2⟩ := S.cat hj
  refine ⟨xs, h1, fun od => ?_⟩
  obtain ⟨S2, e2, ha⟩ := S.letGo (H' := upd H a (.frz od (.dK xs))) hj (fun x hx => upd_ne fun z => hx (by rw [z]; exact List.mem_cons_self ..)) fun x hx => by cases List.mem_singleton.mp hx; exact ⟨_, upd_same⟩
  exact ⟨S2, e2, .dct ((ha a (List.mem_cons_self ..)).trans upd_same) (h2.mono e2)⟩
theorem set_same {σ : L2.St} {i : Nat} {o : Option V} (h : σ[i]? = some o) : σ.set i o = σ := by
  refine List.ext_getElem? fun k => ?_
  by_cases hik : i = k
  · subst hik
    rw [List.getElem?_set_self (List.getElem?_eq_some_iff.mp h).1, h]
  · rw [List.getElem?_set_ne hik]
/-- ahead of a statement: the dict that the slot i holds is a datum from now on -/
theorem ss_freezeD (i j : Nat) {a : Addr} {l : List (Key × Dt)} {ss : List Stmt} (hi : Γ[i]? = some (.dat (.raw (.ref a)))) (hj : c[j]? = some (a, .dk l)) (h : SS F X (Γ.set i (.dat (.dct l))) (c.eraseIdx j) ss Φ) : SS F X Γ c ss Φ := .mk fun σ H D S E => by
  obtain ⟨xs, h1, h2⟩ := S.frD hj
  refine tSts_lock h1 True.intro fun od => ?_
  obtain ⟨S2, e2, dv⟩ := h2 od
  obtain ⟨v, s1, s2⟩ := S.sl i _ hi
  cases s2
  have q := S2.setD (i := i) dv
  rw [set_same s1] at q
  exact h σ _ D q (E.ext e2)
/-- {} -/
theorem se_dnew {P : Cells → Dt → Prop} (p : ∀ a, P (c ++ [(a, .dk [])]) (.raw (.ref a))) : SE F X Γ c (.Dict [] [] pos) P := SE.of pe_dnewK fun σ H Q S k q hq => by
  obtain ⟨S2, e2⟩ := S.addC (q := .dk []) (o := .dK []) hq rfl ⟨[], upd_same, .nil⟩
  exact k _ _ _ _ (p q) S2 e2 (.raw _)
def rDin : R2 := fun x y H Q => ∃ a o, y = .ref a ∧ DGet H a x o ∧ Q (.bl o.isSome) H
def rDnot : R2 := fun x y H Q => ∃ a o, y = .ref a ∧ DGet H a x o ∧ Q (.bl (!o.isSome)) H
theorem op_din (hu : X.A.units + 1 < cLine) : OpR X (compareOp .In) rDin := fun pins s σ H x y v u Q I rx ry ⟨a, o, ey, g, q⟩ => by
  subst ey
  obtain rfl : u = Value.ref a := ry
  exact d_in hu I g rx fun s' I' => ⟨.bl o.isSome, H, I', rfl, q⟩
theorem op_dnot (hu : X.A.units + 1 < cLine) : OpR X (compareOp .NotIn) rDnot := fun pins s σ H x y v u Q I rx ry ⟨a, o, ey, g, q⟩ => by
  subst ey
  obtain rfl : u = Value.ref a := ry
  exact d_notIn hu I g rx fun s' I' => ⟨.bl (!o.isSome), H, I', rfl, q⟩
def rDix : R2 := fun x y H Q => ∃ a v, x = .ref a ∧ DGet H a y (some v) ∧ Q v H
theorem ix_dict (hu : X.A.units + 1 < cLine) : IxR X rDix := fun value slice pins s σ H x y v u Q I rx ry ⟨a, w, ex, g, q⟩ hs => by
  subst ex
  obtain rfl : v = Value.ref a := rx
  have hT := dict_typeIs I g
  unfold subscriptTail
  refine wpAny_bind ?_
  rw [getitemInPython_of_ne hT.not_modules]
  refine wpAny_bind (wpAny_specialOf hT PySem.F.slot_dict_getitem.lookup ?_)
  have fin : wpAny (model X.prog X.w) X.A (subscripted slice false (.ref a) u) (fun r s₃ => wpAny (model X.prog X.w) X.A (letTemporaryGo value (.ref a) r >>= fun _ => pure r) (EP X pins σ Q) X.xe s₃) X.xe s := by
    rw [hs]
    exact wpAny_operating (wpAny_mono (d_getItem hu I g ry fun w' s3 I3 rw' => (⟨w, H, I3, rw', q⟩ : EP X pins σ Q w' s3)) (fun r s₃ h₃ => wpAny_bind (wpAny_letTemporaryGo (wpAny_pure h₃))) fun _ _ x => x)
  first
    | exact wpAny_pure (wpAny_bind fin)
    | exact wpAny_bind (wpAny_pure (wpAny_bind fin))
    | exact wpAny_bind fin
/-- a dict datum, or a dict cell, read at a key -/
theorem dget_dct {K : PySem.W.Frag} {V0 H : Hp} {a : Addr} {y : V} {l : List (Key × Dt)} {d : Dt} {k : Key} (h : DV K V0 (.ref a) (.dct l)) (e : Ex V0 H) (hy : DV K V0 y d) (hk : dkey d = some k) : ∃ o, DGet H a y o ∧ ((o = none ∧ dval l k = none) ∨ ∃ v d, o = some v ∧ dval l k = some d ∧ DV K V0 v d) := by
  cases h with
  | dct ha t =>
    refine ⟨valV _ k, .inl ⟨_, k, .inr ⟨_, e _ _ ha⟩, dkey_dv hy hk, rfl⟩, ?_⟩
    rcases t.p.val k with h | ⟨v, d, h1, h2, h3⟩
    · exact .inl h
    · exact .inr ⟨v, d, h1, h2, h3⟩
theorem dget_cel {K : PySem.W.Frag} {V0 H : Hp} {a : Addr} {y : V} {l : List (Key × Dt)} {d : Dt} {k : Key} (h : CelAt K V0 H a (.dk l)) (hy : DV K V0 y d) (hk : dkey d = some k) : ∃ o, DGet H a y o ∧ ((o = none ∧ dval l k = none) ∨ ∃ v d, o = some v ∧ dval l k = some d ∧ DV K V0 v d) := by
  obtain ⟨xs, ha, t⟩ := h
  refine ⟨valV _ k, .inl ⟨_, k, .inl ha, dkey_dv hy hk, rfl⟩, ?_⟩
  rcases t.p.val k with h | ⟨v, d, h1, h2, h3⟩
  · exact .inl h
  · exact .inr ⟨v, d, h1, h2, h3⟩
theorem isd_dct {K : PySem.W.Frag} {V0 H : Hp} {v : V} {l : List (Key × Dt)} (h : DV K V0 v (.dct l)) (e : Ex V0 H) : ∃ a, v = .ref a ∧ IsD H a := by
  cases h with
  | dct ha t => exact ⟨_, rfl, .inl ⟨_, .inr ⟨_, e _ _ ha⟩⟩⟩
theorem ov_inDct {d : Dt} {l : List (Key × Dt)} {k : Key} (hu : X.A.units + 1 < cLine) (hk : dkey d = some k) (p : P c (.bl (dval l k).isSome)) : OpV F X Γ c (compareOp .In) d (.dct l) P :=
  OpV.of (op_din hu) fun σ H x y Q S h1 h2 kk => by
    obtain ⟨a, rfl, _⟩ := isd_dct h2 (mask_ex _ _)
    obtain ⟨o, g, h⟩ := dget_dct h2 (mask_ex _ _) h1 hk
    refine ⟨a, o, rfl, g, kk _ H c _ ?_ S (Ex.refl _) (.bl _)⟩
    rcases h with ⟨rfl, e⟩ | ⟨v, z, rfl, e, _⟩ <;> rw [e] at p <;> exact p
theorem ov_notCel (j : Nat) {a : Addr} {d : Dt} {l : List (Key × Dt)} {k : Key} (hu : X.A.units + 1 < cLine) (hj : c[j]? = some (a, .dk l)) (hk : dkey d = some k) (p : P c (.bl (!(dval l k).isSome))) : OpV F X Γ c (compareOp .NotIn) d (.raw (.ref a)) P :=
  OpV.of (op_dnot hu) fun σ H x y Q S h1 h2 kk => by
    cases h2
    obtain ⟨o, g, h⟩ := dget_cel (S.cat hj) h1 hk
    refine ⟨a, o, rfl, g, kk _ H c _ ?_ S (Ex.refl _) (.bl _)⟩
    rcases h with ⟨rfl, e⟩ | ⟨v, z, rfl, e, _⟩ <;> rw [e] at p <;> exact p
theorem iv_dct {d d' : Dt} {l : List (Key × Dt)} {k : Key} (hu : X.A.units + 1 < cLine) (hk : dkey d = some k) (hv : dval l k = some d') (p : P c d') : IxV F X Γ c (.dct l) d P :=
  IxV.of (ix_dict hu) fun σ H x y Q S h1 h2 kk => by
    obtain ⟨a, rfl, _⟩ := isd_dct h1 (mask_ex _ _)
    obtain ⟨o, g, h⟩ := dget_dct h1 (mask_ex _ _) h2 hk
    rcases h with ⟨rfl, e⟩ | ⟨v, z, rfl, e, dv⟩
    · rw [e] at hv; cases hv
    · rw [e] at hv; cases hv
      exact ⟨a, v, rfl, g, kk v H c _ p S (Ex.refl _) dv⟩
theorem iv_cel (j : Nat) {a : Addr} {d d' : Dt} {l : List (Key × Dt)} {k : Key} (hu : X.A.units + 1 < cLine) (hj : c[j]? = some (a, .dk l)) (hk : dkey d = some k) (hv : dval l k = some d') (p : P c d') : IxV F X Γ c (.raw (.ref a)) d P :=
  IxV.of (ix_dict hu) fun σ H x y Q S h1 h2 kk => by
    cases h1
    obtain ⟨o, g, h⟩ := dget_cel (S.cat hj) h2 hk
    rcases h with ⟨rfl, e⟩ | ⟨v, z, rfl, e, dv⟩
    · rw [e] at hv; cases hv
    · rw [e] at hv; cases hv
      exact ⟨a, v, rfl, g, kk v H c _ p S (Ex.refl _) dv⟩
/-- a dict's method, whatever the dict's keys -/
theorem pe_dm {name : Str} {id : String} {o e : Expr} {es : List Expr} {apos cpos : Pos} {r : V → List V → Hp → VK → Prop} {to : TE} {t : TA} (slot : Slot "dict" name id) (hty : typeOf (.builtin id) = pure (.type "method_descriptor")) (hm : MtR X id r) (ho : PE X o to) (ha : PA X (e :: es) t)
    (hbase : attributeBase o name X.env (eval o X.env) = eval o X.env := by rfl)
    (hfew : ((backTo cpos (starEach (e :: es) X.env)).all (fun x => !x.1) && (backToKw cpos (keywordEach [] X.env)).all (fun x => x.1.isSome)
      && decide ((e :: es).length + ([] : List Keyword).length + (if ([] : List Keyword).isEmpty then 0 else 1) < 30)) = true := by rfl)
    (hline : (apos.endLine == cpos.line) = true := by rfl) (hs : starEach (e :: es) X.env = (false, eval e X.env) :: starEach es X.env := by rfl) (hplain : (backTo cpos (starEach es X.env)).any (·.1) = false := by rfl) :
    PE X (.Call (.Attribute o name apos) (e :: es) [] cpos) (fun σ H Q => to σ H fun x H1 => ∃ a, x = .ref a ∧ IsD H1 a ∧ t σ H1 fun vs H2 => r x vs H2 Q) := by
  refine ⟨fun pins s σ H Q I h => ?_⟩
  refine wpAny_Call_method_late hbase hfew hline rfl (thn (ho.run pins s σ H _ I h) fun v s1 ⟨x, H1, I1, r1, a, ex, ty, q1⟩ => ?_)
  subst ex
  obtain rfl : v = Value.ref a := r1
  obtain ⟨h1, h2, _⟩ := isD_at I1 ty
  refine ⟨"dict", id, PySem.F.plainAttrs_dict, slot, hty, h1, h2, ?_⟩
  have hA := ha.run cpos pins s1 σ H1 _ I1 q1
  rw [hs] at hA ⊢
  refine Calls.callWith_builtin (by show (false || (backTo cpos (starEach es X.env)).any (·.1)) = false; rw [hplain] <;> rfl) (Calls.evalArgs_plain ?_)
  exact thn hA fun us s2 ⟨vs, H2, I2, r2, q2⟩ => hm pins s2 σ H2 (.ref a) vs (.ref a) us Q I2 rfl r2 q2
def rDg1 : V → List V → Hp → VK → Prop := fun x vs H Q => ∃ a y o, x = .ref a ∧ vs = [y] ∧ DGet H a y o ∧ Q (o.getD .non) H
theorem mt_dget1 (hu : X.A.units + 1 < cLine) : MtR X "dict.get" rDg1 := fun pins s σ H x vs v us Q I rx rv ⟨a, y, o, ex, ev, g, q⟩ => by
  subst ex ev
  obtain rfl : v = Value.ref a := rx
  obtain ⟨u, rfl, ru⟩ := rv.one
  exact d_get1 hu I g ru fun w' s3 I3 rw' => ⟨_, H, I3, rw', q⟩
theorem mt_setdef : MtR X "dict.setdefault" rSetd := fun pins s σ H x vs v us Q I rx rv ⟨a, kvs, k, y, ex, ev, ea, hl, w1, w2⟩ => by
  subst ex ev
  obtain rfl : v = Value.ref a := rx
  cases rv with
  | cons ry rv =>
    cases rv with
    | cons rd rv =>
      cases rv
      obtain ⟨z, hd, vs0, rel, dd⟩ := dk_of I.hok ea
      have hz : vs0.length ≤ sizeLine := by rw [← rel.length]; exact z
      refine call_meetsIn PySem.F.slot_dict_setdefault dd.typeIs PySem.F.entry_dict_setdefault (PySem.F.args_dict_setdefault_3 _ _ _) (kt_meets_setdefault (mixKind X.prog X.w) a (kV_is ry) hd _) ⟨vs0, dd, hz, fun u hu => ?_, fun hn h' dd' hs => ?_⟩
      · have rr := rel.val k
        rw [hu] at rr
        cases hv : valV kvs k with
        | none => rw [hv] at rr; exact False.elim rr
        | some x =>
          rw [hv] at rr
          exact (⟨x, H, I.tok _, rr, w1 x hv⟩ : EP X pins σ Q u _)
      · have rr := rel.val k
        rw [hn] at rr
        cases hv : valV kvs k with
        | some x => rw [hv] at rr; exact False.elim rr
        | none =>
          have hl2 : (putK kvs k y).length ≤ sizeLine := by have := length_putK kvs k y; omega
          exact (⟨y, _, d_write (t' := s.toks + 1) I (by rw [ea]; exact True.intro) hs (let ⟨q, _, _, hq, _⟩ := dd'; ⟨q, hq⟩) (dk_new hl2 hd (rel.put k rd) dd'), rd, w2 hv⟩ : EP X pins σ Q _ _)
end
end D
end
section
set_option Elab.async false
set_option linter.all false
set_option maxRecDepth 100000
namespace D
open PySem L2 PyProof.Rows
section
variable {F : Fm} {X : Cx} {Γ : List Sl} {c : Cells} {P : Cells → Dt → Prop} {Φ : PEnds} {pos : Pos}
/-- d.get(k), d a datum -/
theorem se_get {o e : Expr} {apos : Pos} (hu : X.A.units + 1 < cLine) (h : SE F X Γ c o fun c1 d0 => ∃ l, d0 = .dct l ∧ SE F X Γ c1 e fun c2 d => ∃ k, dkey d = some k ∧ P c2 ((dval l k).getD .non))
    (hbase : attributeBase o "get" X.env (eval o X.env) = eval o X.env := by rfl)
    (hfew : ((backTo pos (starEach [e] X.env)).all (fun x => !x.1) && (backToKw pos (keywordEach [] X.env)).all (fun x => x.1.isSome)
      && decide ([e].length + ([] : List Keyword).length + (if ([] : List Keyword).isEmpty then 0 else 1) < 30)) = true := by rfl)
    (hline : (apos.endLine == pos.line) = true := by rfl) (hs : starEach [e] X.env = (false, eval e X.env) :: starEach [] X.env := by rfl) (hplain : (backTo pos (starEach [] X.env)).any (·.1) = false := by rfl) :
    SE F X Γ c (.Call (.Attribute o "get" apos) [e] [] pos) P :=
  SE.of (pe_dm PySem.F.slot_dict_get PySem.F.type_dict_get (mt_dget1 hu) pE (pa_cons pE pa_nil hs) hbase hfew hline hs hplain) fun σ H Q S k => h σ H _ S fun v H1 c1 d0 p S1 e1 dv => by
    obtain ⟨l, rfl, p⟩ := p
    obtain ⟨a, rfl, hd⟩ := isd_dct dv (mask_ex _ _)
    refine ⟨a, rfl, hd, p σ H1 _ S1 fun y H2 c2 d p2 S2 e2 dy => ?_⟩
    obtain ⟨key, hk, p2⟩ := p2
    obtain ⟨o', g, hh⟩ := dget_dct (dv.mono e2) (mask_ex _ _) dy hk
    refine ⟨a, y, o', rfl, rfl, g, ?_⟩
    rcases hh with ⟨rfl, e⟩ | ⟨v, z, rfl, e, dz⟩
    · rw [e] at p2
      exact k _ H2 c2 _ p2 S2 (e1.trans e2) .non
    · rw [e] at p2
      exact k _ H2 c2 _ p2 S2 (e1.trans e2) dz
/-- d.setdefault(k, v), d a cell -/
theorem se_setdef {o e f : Expr} {apos : Pos} (h : SE F X Γ c o fun c1 d0 => ∃ a j l0, d0 = .raw (.ref a) ∧ c1[j]? = some (a, .dk l0) ∧ SA F X Γ c1 [e, f] fun c2 ds => ∃ l d1 d2 k, ds = [d1, d2] ∧ c2[j]? = some (a, .dk l) ∧ dkey d1 = some k ∧ l.length < sizeLine ∧
      (∀ d, dval l k = some d → P c2 d) ∧ (dval l k = none → P (c2.set j (a, .dk (dput l k d2))) d2))
    (hbase : attributeBase o "setdefault" X.env (eval o X.env) = eval o X.env := by rfl)
    (hfew : ((backTo pos (starEach [e, f] X.env)).all (fun x => !x.1) && (backToKw pos (keywordEach [] X.env)).all (fun x => x.1.isSome)
      && decide ([e, f].length + ([] : List Keyword).length + (if ([] : List Keyword).isEmpty then 0 else 1) < 30)) = true := by rfl)
    (hline : (apos.endLine == pos.line) = true := by rfl) (hs : starEach [e, f] X.env = (false, eval e X.env) :: starEach [f] X.env := by rfl) (hplain : (backTo pos (starEach [f] X.env)).any (·.1) = false := by rfl) :
    SE F X Γ c (.Call (.Attribute o "setdefault" apos) [e, f] [] pos) P :=
  SE.of (pe_dm PySem.F.slot_dict_setdefault PySem.F.type_dict_setdefault mt_setdef pE pAs hbase hfew hline hs hplain) fun σ H Q S k => h σ H _ S fun v H1 c1 d0 p S1 e1 dv => by
    obtain ⟨a, j, l0, rfl, hj0, p⟩ := p
    cases dv
    obtain ⟨xs0, ha0, _⟩ := S1.cat hj0
    refine ⟨a, rfl, .inl ⟨_, .inl ha0⟩, p σ H1 _ S1 fun vs H2 c2 ds p2 S2 e2 dvs => ?_⟩
    obtain ⟨l, d1, d2, key, rfl, hj, hk, hz, q1, q2⟩ := p2
    cases dvs with
    | cons dv1 t => cases t with
      | cons dv2 t =>
        cases t
        obtain ⟨xs, ha, t⟩ := S2.cat hj
        have ek := dkey_dv dv1 hk
        subst ek
        refine ⟨a, xs, key, _, rfl, rfl, ha, by rw [t.p.length]; exact hz, fun u hu => ?_, fun hn => ?_⟩
        · rcases t.p.val key with ⟨h1, _⟩ | ⟨w, d, h1, h2, h3⟩
          · rw [h1] at hu; cases hu
          · rw [h1] at hu; cases hu
            exact k _ H2 c2 _ (q1 d h2) S2 (e1.trans e2) h3
        · rcases t.p.val key with ⟨_, h2⟩ | ⟨w, d, h1, _, _⟩
          · obtain ⟨S3, e3⟩ := S2.updC (q' := .dk (dput l key d2)) (o := .dK (putK xs key _)) hj rfl rfl ⟨_, upd_same, (t.p.put key dv2).k⟩
            exact k _ _ _ _ (q2 h2) S3 ((e1.trans e2).trans e3) (dv2.mono e3)
          · rw [h1] at hn; cases hn
def keysD (l : List (Key × Dt)) : List Dt := l.map fun kv => match kv.1 with | .inl i => Dt.int i | .inr s => Dt.str s
def valsD (l : List (Key × Dt)) : List Dt := l.map (·.2)
def kD : Key → Dt
  | .inl i => .int i
  | .inr s => .str s
theorem keysD_eq (l : List (Key × Dt)) : keysD l = l.map fun kv => kD kv.1 := rfl
theorem kD_dv {K : PySem.W.Frag} {H : Hp} (k : Key) : DV K H (kV k) (kD k) := by cases k with
  | inl i => exact .int i
  | inr s => exact .str s
variable {tg : Expr} {Pl : Cells → List Dt → Prop}
theorem sw_vals {e : Expr} {apos : Pos} (h : SE F X Γ c e fun c1 d => ∃ l, d = .dct l ∧ Pl c1 (valsD l)) (hbase : attributeBase e "values" X.env (eval e X.env) = eval e X.env := by rfl) (hline : (apos.endLine == pos.line) = true := by rfl) : SW F X Γ c tg (.Call (.Attribute e "values" apos) [] [] pos) Pl := .mk fun σ H R S k =>
  ⟨_, pi_values pE hbase hline, h σ H _ S fun v H1 c1 d p S1 k1 dv => by
    obtain ⟨l, rfl, p⟩ := p
    cases dv with
    | dct a t =>
      refine ⟨_, _, _, rfl, (of_mask a).2, k _ H1 c1 _ p S1 k1 ?_⟩
      have hl : (valsD l).length = _ := (List.length_map _).trans t.p.length.symm
      refine ⟨_, _, hl.symm ▸ walk_values, fun H e => e _ _ a, fun i Ha x Hb hi y _ => ?_⟩
      obtain ⟨h1, key, h2⟩ := y
      obtain ⟨d, h3, h4⟩ := t.p.get h2
      refine ⟨d, ?_, .inl ⟨h1, h4⟩⟩
      unfold valsD
      rw [List.getElem?_map, h3]
      rfl⟩
theorem ss_dropC {ss : List Stmt} (j : Nat) {p : Addr × Cel} (hj : c[j]? = some p) (h : SS F X Γ (c.eraseIdx j) ss Φ) : SS F X Γ c ss Φ := .mk fun σ H D S E => by
  obtain ⟨S2, e2, _⟩ := S.letGo (H' := H) hj (fun _ _ => rfl) ((S.cat hj).live)
  exact h σ H D S2 (E.ext e2)
/-- while -/
theorem s_while {t : Expr} {body : List Stmt} (hp : PassesOwn (model X.prog X.w) X.A X.env X.xe) (J : Nat → List Sl → Cells → Prop) (n : Nat) (h0 : J n Γ c)
    (h : ∀ m Γ' c', J m Γ' c' → ST F X Γ' c' t fun c2 b => if b = true then SS F X Γ' c2 body { Φ with nx := fun Γ3 c3 => ∃ k, k < m ∧ J k Γ3 c3, ct := fun Γ3 c3 => ∃ k, k < m ∧ J k Γ3 c3, bk := Φ.nx } else Φ.nx Γ' c2) : S1 F X Γ c (.While t body [] pos) Φ :=
  S1.of (ps_while hp pT pSts) fun σ H D S E => by
    refine ⟨fun m σ' H' => ∃ Γ' c', J m Γ' c' ∧ SI X.K F Γ' c' σ' H' ∧ Ex (Vw F c H) (Vw F c' H'), ⟨n, Γ, c, h0, S, Ex.refl _⟩, ?_⟩
    rintro m σ1 H1 ⟨Γ1, c1, j1, S1, e1⟩
    refine h m Γ1 c1 j1 σ1 H1 _ S1 fun b H2 c2 q S2 e2 => ?_
    cases b with
    | false => exact E.nx Γ1 c2 σ1 H2 q S2 (e1.trans e2)
    | true =>
      rw [if_pos rfl] at q
      have e3 := e1.trans e2
      refine ⟨fun σ' H' => ∃ k, k < m ∧ ∃ Γ' c', J k Γ' c' ∧ SI X.K F Γ' c' σ' H' ∧ Ex (Vw F c H) (Vw F c' H'), fun _ _ z => z, ?_⟩
      refine q σ1 H2 _ S2 ⟨fun Γ4 c4 σ4 H4 ⟨k, hk, j4⟩ S4 k4 => ⟨k, hk, Γ4, c4, j4, S4, e3.trans k4⟩, fun Γ4 c4 σ4 H4 v4 d4 j4 S4 k4 => E.rt Γ4 c4 σ4 H4 v4 d4 j4 S4 (e3.trans k4), fun Γ4 c4 σ4 H4 j4 S4 k4 => E.nx Γ4 c4 σ4 H4 j4 S4 (e3.trans k4), fun Γ4 c4 σ4 H4 ⟨k, hk, j4⟩ S4 k4 => ⟨k, hk, Γ4, c4, j4, S4, e3.trans k4⟩⟩
end
end D
end
section
set_option Elab.async false
set_option linter.all false
set_option maxRecDepth 100000
namespace D
open PySem PySem.Spec L2 PyProof.Rows
abbrev dc2 (kx vx ta ia tb ib : Expr) (ca cb : List Expr) (sc : Scope) (ps : Pos) : Expr := .DictComp kx vx [⟨ta, ia, ca, 0⟩, ⟨tb, ib, cb, 0⟩] sc ps
theorem dc2_turn0 (kx vx ta ia tb ib : Expr) (ca cb : List Expr) (sc : Scope) (ps : Pos) (it acc : Value) (env : Env) :
    compTurn (dc2 kx vx ta ia tb ib ca cb sc ps) 0 it acc env = (do
      standAt ia.pos
      match ← pyNext it with
      | none => pure (.done .next)
      | some y =>
        letOwnedTupleGo ta it y
        assign ta env y
        let mut good := true
        for q in ca do
          if good then good ← isTrue q env (eval q env)
        if good then
          let z ← eval ib env
          standAt ib.pos
          let z ← foldedSetIterable ib env z
          let _ ← runOwn (.compStart (dc2 kx vx ta ia tb ib ca cb sc ps) 1 (← holding [z] (pyIter z)) acc env) env
        again (.compLoop (dc2 kx vx ta ia tb ib ca cb sc ps) 0 it acc env)) := by rfl
theorem dc2_turn1 (kx vx ta ia tb ib : Expr) (ca cb : List Expr) (sc : Scope) (ps : Pos) (it : Value) (L : Addr) (env : Env) :
    compTurn (dc2 kx vx ta ia tb ib ca cb sc ps) 1 it (.ref L) env = (do
      standAt ib.pos
      match ← pyNext it with
      | none => pure (.done .next)
      | some y =>
        letOwnedTupleGo tb it y
        assign tb env y
        let mut good := true
        for q in cb do
          if good then good ← isTrue q env (eval q env)
        if good then
          (do
            let a ← eval kx env
            let b ← holding [a] (eval vx env)
            standAt { kx.pos with endLine := vx.pos.endLine, endCol := vx.pos.endCol }
            holding [a, b] (dictSet L a b))
        again (.compLoop (dc2 kx vx ta ia tb ib ca cb sc ps) 1 it (.ref L) env)) := by rfl
section
variable {prog : Program} {w : World} {A : Around} {R : Result → Shared → Prop} {s : Shared} {kx vx ta ia tb ib : Expr} {ca cb : List Expr} {sc : Scope} {ps : Pos} {it : Value} {L : Addr} {env : Env}
abbrev NB (prog : Program) (w : World) (A : Around) (env : Env) (R : Result → Shared → Prop) : Value → Shared → Prop := notedBy (model prog w) A env fun x t => R (.error x) t
abbrev TestsOf (env : Env) (qs : List Expr) : Sem Bool := forIn qs true fun q r => if r = true then do let g ← isTrue q env (eval q env); pure (ForInStep.yield g) else pure (ForInStep.yield r)
theorem dc2_loop0 (hs : ∀ z, foldedSetIterable ib env z = pure z) (J : Nat → Shared → Prop)
    (turn : ∀ n t, J n t → wpAny (model prog w) A (pyNext it) (fun r t1 => match r with
      | none => R (.ok .next) t1
      | some y => wpAny (model prog w) A (letOwnedTupleGo ta it y) (fun _ t2 => wpAny (model prog w) A (assign ta env y) (fun _ t3 => wpAny (model prog w) A (TestsOf env ca) (fun g t4 =>
          if g = true then wpAny (model prog w) A (eval ib env) (fun z t5 => wpAny (model prog w) A (pyIter z) (fun i2 t6 =>
            codeAny (model prog w) A (.compStart (dc2 kx vx ta ia tb ib ca cb sc ps) 1 i2 (.ref L) env) (fun r t7 => match r with
              | .ok _ => ∃ m, m < n ∧ J m t7
              | .error _ => False) t6) (NB prog w A env R) t5) (NB prog w A env R) t4
          else ∃ m, m < n ∧ J m t4) (NB prog w A env R) t3) (NB prog w A env R) t2) (NB prog w A env R) t1) (NB prog w A env R) t)
    (n : Nat) (h : J n s) : codeAny (model prog w) A (.compLoop (dc2 kx vx ta ia tb ib ca cb sc ps) 0 it (.ref L) env) R s := by
  refine codeAny_loop rfl J (fun n t hJ => ?_) n h
  show wpAny _ A ((compTurn (dc2 kx vx ta ia tb ib ca cb sc ps) 0 it (.ref L) env).onRaise (fun x => do noteFrame x env; theTreesLotGoes x)) _ _ t
  refine wpAny_noted ?_
  rw [dc2_turn0]
  refine wpAny_bind (wpAny_standAt (wpAny_bind (wpAny_mono (turn n t hJ) (fun r t1 k1 => ?_) fun _ _ z => z)))
  cases r with
  | none => exact wpAny_pure k1
  | some y =>
    refine wpAny_bind (wpAny_mono k1 (fun _ t2 k2 => ?_) fun _ _ z => z)
    refine wpAny_bind (wpAny_mono k2 (fun _ t3 k3 => ?_) fun _ _ z => z)
    refine wpAny_bind (wpAny_mono k3 (fun g t4 k4 => ?_) fun _ _ z => z)
    cases g with
    | false => exact wpAny_pure ⟨rfl, k4⟩
    | true =>
      refine wpAny_bind (wpAny_mono k4 (fun z t5 k5 => ?_) fun _ _ z => z)
      refine wpAny_bind (wpAny_standAt (wpAny_bind (wpAny_of_eq (hs z) (wpAny_bind (wpAny_holding (wpAny_mono k5 (fun i2 t6 k6 => ?_) fun _ _ z => z))))))
      refine wpAny_bind (wpAny_runOwn ?_)
      rw [Around.mark_none]
      refine codeAny_mono k6 fun r t7 k7 => ?_
      cases r with
      | ok f => first
          | exact wpAny_pure ⟨rfl, k7⟩
          | exact wpAny_bind (wpAny_pure (wpAny_pure ⟨rfl, k7⟩))
      | error x => exact k7.elim
theorem dc2_loop1 (J : Nat → Shared → Prop)
    (turn : ∀ n t, J n t → wpAny (model prog w) A (pyNext it) (fun r t1 => match r with
      | none => R (.ok .next) t1
      | some y => wpAny (model prog w) A (letOwnedTupleGo tb it y) (fun _ t2 => wpAny (model prog w) A (assign tb env y) (fun _ t3 => wpAny (model prog w) A (TestsOf env cb) (fun g t4 =>
          if g = true then wpAny (model prog w) A (eval kx env) (fun a t5 => wpAny (model prog w) A (eval vx env) (fun b t6 => wpAny (model prog w) A (dictSet L a b) (fun _ t7 => ∃ m, m < n ∧ J m t7) (NB prog w A env R) t6) (NB prog w A env R) t5) (NB prog w A env R) t4
          else ∃ m, m < n ∧ J m t4) (NB prog w A env R) t3) (NB prog w A env R) t2) (NB prog w A env R) t1) (NB prog w A env R) t)
    (n : Nat) (h : J n s) : codeAny (model prog w) A (.compLoop (dc2 kx vx ta ia tb ib ca cb sc ps) 1 it (.ref L) env) R s := by
  refine codeAny_loop rfl J (fun n t hJ => ?_) n h
  show wpAny _ A ((compTurn (dc2 kx vx ta ia tb ib ca cb sc ps) 1 it (.ref L) env).onRaise (fun x => do noteFrame x env; theTreesLotGoes x)) _ _ t
  refine wpAny_noted ?_
  rw [dc2_turn1]
  refine wpAny_bind (wpAny_standAt (wpAny_bind (wpAny_mono (turn n t hJ) (fun r t1 k1 => ?_) fun _ _ z => z)))
  cases r with
  | none => exact wpAny_pure k1
  | some y =>
    refine wpAny_bind (wpAny_mono k1 (fun _ t2 k2 => ?_) fun _ _ z => z)
    refine wpAny_bind (wpAny_mono k2 (fun _ t3 k3 => ?_) fun _ _ z => z)
    refine wpAny_bind (wpAny_mono k3 (fun g t4 k4 => ?_) fun _ _ z => z)
    cases g with
    | false => exact wpAny_pure ⟨rfl, k4⟩
    | true =>
      refine wpAny_bind (wpAny_bind (wpAny_mono k4 (fun a t5 k5 => ?_) fun _ _ z => z))
      refine wpAny_bind (wpAny_holding (wpAny_mono k5 (fun b t6 k6 => ?_) fun _ _ z => z))
      exact wpAny_bind (wpAny_standAt (wpAny_holding (wpAny_mono k6 (fun _ t7 k7 => wpAny_pure ⟨rfl, k7⟩) fun _ _ z => z)))
theorem dc2_start1 {i2 acc : Value} (h0 : codeAny (model prog w) A (.compLoop (dc2 kx vx ta ia tb ib ca cb sc ps) 1 i2 acc env) R s)
    (h : wpAny (model prog w) A (pyIter i2) (fun i3 t => codeAny (model prog w) A (.compLoop (dc2 kx vx ta ia tb ib ca cb sc ps) 1 i3 acc env) R t) (NB prog w A env R) s) :
    codeAny (model prog w) A (.compStart (dc2 kx vx ta ia tb ib ca cb sc ps) 1 i2 acc env) R s := by
  refine codeAny_of_tree ?_
  show wpAny _ _ ((compStart (dc2 kx vx ta ia tb ib ca cb sc ps) 1 i2 acc env).onRaise (fun x => do noteFrame x env; standAt theWindowsPlace)) _ _ s
  refine wpAny_notedAt ?_
  unfold compStart
  show wpAny _ _ (ask >>= _) _ _ s
  refine wpAny_bind (wpAny_askSetting (wpAny_ite ?_))
  split
  · first
      | exact wpAny_bind (wpAny_pure (wpAny_pure ⟨rfl, h0⟩))
      | exact wpAny_pure ⟨rfl, h0⟩
  · first
      | exact wpAny_bind (wpAny_rule (wpAny_bind (wpAny_standAt (wpAny_bind (wpAny_mono h (fun i3 t k => wpAny_pure ⟨rfl, k⟩) fun _ _ z => z)))))
      | (refine wpAny_bind (wpAny_rule ?_); show wpAny _ _ (standAt ib.pos >>= _) _ _ s; exact wpAny_bind (wpAny_standAt (wpAny_bind (wpAny_mono h (fun i3 t k => wpAny_pure ⟨rfl, k⟩) fun _ _ z => z))))
end
section
variable {X : Cx}
def tDc2 (wi : TI) (g : TG) (wi1 : TI) (g1 : TG) (tk tv : TE) (vs vs1 : List Nat) : TE := fun σ H Q => wi σ H fun J H1 => ∀ L, H1 L = none → ∃ W : Nat → Nat → Hp → Prop, (∃ m, W 0 m (upd H1 L (.dK []))) ∧ ∀ i m H, W i m H → (J.stop i H ∧ Q (.ref L) H) ∨
  (J.go i H ∧ ∃ Nx : Hp → Prop, (∀ H', Nx H' → ∃ m', m' < m ∧ W (i + 1) m' H') ∧ ∀ x H', J.yld i H x H' → g x (wipe σ vs) H' fun σ2 H2 => wipe σ2 vs = wipe σ vs ∧ wi1 σ2 H2 fun J1 H4 => ∃ W1 : Nat → Nat → Hp → Prop, (∃ m, W1 0 m H4) ∧ ∀ j k H, W1 j k H → (J1.stop j H ∧ Nx H) ∨
    (J1.go j H ∧ ∃ Nx1 : Hp → Prop, (∀ H', Nx1 H' → ∃ k', k' < k ∧ W1 (j + 1) k' H') ∧ ∀ x H', J1.yld j H x H' → g1 x (wipe σ2 vs1) H' fun σ3 H5 => wipe σ3 vs1 = wipe σ2 vs1 ∧ tk σ3 H5 fun y H6 => tv σ3 H6 fun z H7 => ∃ kvs k, y = kV k ∧ H7 L = some (.dK kvs) ∧ kvs.length < sizeLine ∧ Nx1 (upd H7 L (.dK (putK kvs k z)))))
theorem dc2_core {pins : List (Addr × Obj)} {s : Shared} {σ : L2.St} {H : Hp} {Q : VK} {kx vx ta ia tb ib : Expr} {sc : Scope} {own : List (Str × Nat)} {vs1 : List Nat} {ps ps' : Pos} {wi wi1 : TI} {g g1 : TG} {tk tv : TE} {use : Option (Value → Sem Unit)} {Qf : Value → Shared → Prop}
    (hc : X.calm = true) (hN : X.N.Nodup) (I : Inv X pins σ H s) (hi : PI X ta ia wi) (ok : BlkOk X.N X.env.scope sc own) (hv : ∀ i ∈ vs1, i ∈ own.map (·.2))
    (hg : AB X sc fun Y => PG Y ta g) (hk : AB X sc fun Y => PE Y kx tk) (he : AB X sc fun Y => PE Y vx tv) (hs : ∀ z, foldedSetIterable ia X.env z = pure z)
    (hi1 : AB X sc fun Y => PI Y tb ib wi1) (hg1 : AB X sc fun Y => PG Y tb g1) (hs1 : ∀ env z, foldedSetIterable ib env z = pure z)
    (h : tDc2 wi g wi1 g1 tk tv (own.map (·.2)) vs1 σ H Q)
    (hRR : ∀ L C t m H', Inv X pins σ H' t → Q (.ref L) H' → t.heap.Ns C m → FpOk X pins H' C → compPost (model X.prog X.w) X.A X.xe use Qf (.ref L) C (.ok .next) t) :
    wpAny (model X.prog X.w) X.A (comprehension (dc2 kx vx ta ia tb ib [] [] sc ps) sc X.env ps' newDict false (eval ia X.env) use) Qf X.xe s := by
  have hfree : ∀ y ∈ sc.names, y.2 = .free → ∃ q, X.env.cells.lookup y.1 = some q := fun y hy e => (ok.free y hy e).elim (fun z => I.ok.has _ (.inl z)) fun z => I.ok.has _ (.inr z)
  refine wpAny_comprehension_free (use := use) rfl hs (closure_ok hfree) ok.kind (fun y hy e => (ok.uniq y hy).trans (congrArg some e)) (thn (hi.run pins s σ H _ I h) fun xv t1 hx => thn hx fun itv t2 h2 => ?_)
  obtain ⟨it, fp, tn, J, Ha, e, Ia, T, sta, fa, q⟩ := h2
  subst e
  refine wpAny_newObj_type (newEnv_comp ?_)
  generalize hL : t2.heap.objs.size = L
  have hLn : Ha L = none := Ia.hok.fresh (Nat.le_of_eq hL)
  obtain ⟨W, ⟨m0, w0⟩, turn⟩ := q L hLn
  generalize ht3 : ({ t2 with heap := t2.heap.push { cls := .type "dict", data := .dict #[] } } : Shared) = t3
  have Ib : Inv X pins σ (upd Ha L (.dK [])) t3 := by
    subst ht3
    refine Ia.laid (t' := t2.toks) (fun b o z => Heap.get?_push_of_some _ z) (Nat.le_of_eq hL) ?_
    subst hL
    exact dk_empty t2.heap Ia.big
  have h3 : t3.heap = t2.heap.push { cls := .type "dict", data := .dict #[] } := by subst ht3; rfl
  have lts : ∀ b ∈ fp, b < t2.heap.objs.size := fun b hb => (T.obj _ _ sta b hb).elim fun o z => Heap.lt_size z.1
  have fb : ∀ b ∈ fp, FpOk X pins (upd Ha L (.dK [])) b ∧ b < t3.heap.objs.size := fun b hb => by
    have hlt := lts b hb
    have hne : b ≠ L := by subst hL; exact Nat.ne_of_lt hlt
    exact ⟨⟨(upd_ne hne).trans (fa b hb).1, (fa b hb).2⟩, by rw [h3, Heap.size_push]; exact Nat.lt_succ_of_lt hlt⟩
  have stb : tn 0 t3.heap := T.keep _ _ _ sta fun b _ o z => by rw [h3]; exact Heap.get?_push_of_some _ z
  have Ic := block_start Ib ok hN fb
  have nfp : ∀ b ∈ fp, (upd Ha L (.dK [])) b = none := fun b hb => (fb b hb).1.1
  generalize hcl : cellsFrom (t3.heap.objs.size + 1) sc.names (cloFrom X.env.cells sc.names []) = cl at Ic ⊢
  have pg : PG (X.blk t3 (upd Ha L (.dK [])) sc (compEnvC sc cl t3.heap.objs.size X.env) fp) ta g := hg t3 (upd Ha L (.dK [])) t3.heap.objs.size cl fp
  have pk : PE (X.blk t3 (upd Ha L (.dK [])) sc (compEnvC sc cl t3.heap.objs.size X.env) fp) kx tk := hk t3 (upd Ha L (.dK [])) t3.heap.objs.size cl fp
  have pe : PE (X.blk t3 (upd Ha L (.dK [])) sc (compEnvC sc cl t3.heap.objs.size X.env) fp) vx tv := he t3 (upd Ha L (.dK [])) t3.heap.objs.size cl fp
  have pi1 : PI (X.blk t3 (upd Ha L (.dK [])) sc (compEnvC sc cl t3.heap.objs.size X.env) fp) tb ib wi1 := hi1 t3 (upd Ha L (.dK [])) t3.heap.objs.size cl fp
  have pg1 : PG (X.blk t3 (upd Ha L (.dK [])) sc (compEnvC sc cl t3.heap.objs.size X.env) fp) tb g1 := hg1 t3 (upd Ha L (.dK [])) t3.heap.objs.size cl fp
  show codeAny _ _ (.compStart (dc2 kx vx ta ia tb ib [] [] sc ps) 0 (.ref it) (.ref L) (compEnvC sc cl t3.heap.objs.size X.env)) (compPost (model X.prog X.w) X.A X.xe use Qf (.ref L) t3.heap.objs.size) { t3 with heap := pushCells (t3.heap.push { cls := .type "dict", data := .dict #[] }) sc.names }
  generalize hce : compEnvC sc cl t3.heap.objs.size X.env = ce at Ic pg pk pe pi1 pg1 ⊢
  have cL : ce.locals = t3.heap.objs.size := by subst hce; rfl
  generalize hHb : upd Ha L (.dK []) = Hb at Ib Ic pg pk pe pi1 pg1 w0 nfp fb
  generalize ht4 : ({ t3 with heap := pushCells (t3.heap.push { cls := .type "dict", data := .dict #[] }) sc.names } : Shared) = t4 at Ic ⊢
  have std : tn 0 t4.heap := T.keep _ _ _ stb fun b _ o z => by subst ht4; exact pushCells_keeps _ _ _ _ (Heap.get?_push_of_some _ z)
  have stat : ∀ {τ : L2.St} {G : Hp} {t : Shared}, Inv (X.blk t3 Hb sc ce fp) [] τ G t → (∀ b ∈ fp, G b = none) → ∀ b ∈ fp, FpOk (X.blk t3 Hb sc ce fp) [] G b := fun {τ G t} I' hn b hb =>
    ⟨hn b hb, (I'.ok.exf b hb).1, I'.ok.exfs b hb, .inl hb, fun y q z => (I'.ok.exf b hb).2 y q z, fun p hp => absurd (show p ∈ ([] : List (Addr × Obj)) ++ [] from hp) (by simp)⟩
  have loop : codeAny (model X.prog X.w) X.A (.compLoop (dc2 kx vx ta ia tb ib [] [] sc ps) 0 (.ref it) (.ref L) ce) (compPost (model X.prog X.w) X.A X.xe use Qf (.ref L) t3.heap.objs.size) t4 := by
    refine dc2_loop0 (hs1 ce) (fun n t => ∃ i G, Inv (X.blk t3 Hb sc ce fp) [] (wipe σ (own.map (·.2))) G t ∧ tn i t.heap ∧ (∀ b ∈ fp, G b = none) ∧ W i n G) ?_ m0 ⟨0, Hb, Ic, std, nfp, w0⟩
    rintro n t5 ⟨i, G5, I5, st5, n5, w5⟩
    rcases turn i n G5 w5 with ⟨stop, qq⟩ | ⟨go, Nx, hNx, step⟩
    · refine thnF (T.done (X.blk t3 Hb sc ce fp) rfl rfl rfl hc i [] t5 _ G5 (fun _ _ => False) I5 (stat I5 n5) st5 stop) fun r t6 ⟨hr, I6⟩ => ?_
      subst hr
      have I7 : Inv X pins σ G5 t6 := Ib.call' (ch := fp) I6.os I6.base I6.hok I6.bare fun b hb => let z := (fb b hb).1; ⟨z.2.2.2.1, z.2.1, z.2.2.2.2.1, z.2.2.2.2.2⟩
      have nC : G5 t3.heap.objs.size = none := cL ▸ (show G5 ce.locals = none from I6.free)
      obtain ⟨m, hn, _⟩ := I6.loc
      exact hRR L t3.heap.objs.size t6 m G5 I7 qq (cL ▸ (show t6.heap.Ns ce.locals m from hn)) (Ib.fpOk (Nat.le_refl _) nC)
    · refine thnF (T.item (X.blk t3 Hb sc ce fp) rfl rfl rfl hc i [] t5 _ G5 (fun _ _ => False) I5 (stat I5 n5) st5 go) fun r t6 ⟨u, hr, h6⟩ => ?_
      subst hr
      refine thnF h6 fun _ t7 ⟨x, G7, I7, r7, y7, st7, n7⟩ => ?_
      have I7' := I7.pinned (stat I7 n7) (T.obj _ _ st7)
      refine thnF (pg.run _ t7 _ G7 x u _ I7' r7 (step x G7 y7)) fun _ t8 ⟨τ8, G8, I8, hw8, q8⟩ => ?_
      have fin : ∀ {τ : L2.St} {t : Shared} {G : Hp}, Inv (X.blk t3 Hb sc ce fp) ([] ++ pinsAt fp t7.heap) τ G t → (wipe σ (own.map (·.2))).length = τ.length → (∀ (j : Nat) v, (wipe σ (own.map (·.2)))[j]? = some (some v) → τ[j]? = some (some v)) → Nx G →
          ∃ m, m < n ∧ ∃ i G, Inv (X.blk t3 Hb sc ce fp) [] (wipe σ (own.map (·.2))) G t ∧ tn i t.heap ∧ (∀ b ∈ fp, G b = none) ∧ W i m G := fun {τ t G} I' hl hkk nx => by
        obtain ⟨m', hm, w'⟩ := hNx G nx
        have pin : ∀ b ∈ fp, ∀ o, t7.heap.get? b = some o → t.heap.get? b = some o ∧ G b = none := fun b hb o z =>
          have y := I'.pin (b, o) (List.mem_append_right _ (List.mem_append_right _ (mem_pinsAt hb z)))
          ⟨y.1, y.2.1⟩
        exact ⟨m', hm, i + 1, G, (I'.unpinned (pins := [])).weak hl hkk, T.keep _ _ _ st7 fun b hb o z => (pin b hb o z).1, fun b hb => (T.obj _ _ st7 b hb).elim fun o z => (pin b hb o z.1).2, w'⟩
      have hl8 : (wipe σ (own.map (·.2))).length = τ8.length := by rw [← hw8, wipe_length]
      have hk9 : ∀ (j : Nat) v, (wipe σ (own.map (·.2)))[j]? = some (some v) → (wipe τ8 vs1)[j]? = some (some v) := fun j v z => by
        rw [← hw8] at z
        obtain ⟨z1, z2⟩ := wipe_some z
        exact (wipe_out fun y => z2 (hv j y)).trans z1
      refine thnF ((pts_nil (X := X.blk t3 Hb sc ce fp)).run _ t8 τ8 G8 _ I8 (show tYes τ8 G8 (fun b G => b = true ∧ wi1 τ8 G _) from ⟨rfl, q8⟩)) fun b t9 ⟨G9, I9, hb9, q9⟩ => ?_
      subst hb9
      rw [if_pos rfl]
      refine thnF (pi1.run _ t9 τ8 G9 _ I9 q9) fun xv t10 hx => thnF hx fun itv t11 h11 => ?_
      obtain ⟨it1, fp1, tn1, J1, G11, e1, I11, T1, st11, f11, W1, ⟨m1, w1⟩, turn1⟩ := h11
      subst e1
      have stat1 : ∀ {G : Hp}, (∀ b ∈ fp1, G b = none) → ∀ b ∈ fp1, FpOk (X.blk t3 Hb sc ce fp) ([] ++ pinsAt fp t7.heap) G b := fun hn b hb => ⟨hn b hb, (f11 b hb).2⟩
      have loop1 : codeAny (model X.prog X.w) X.A (.compLoop (dc2 kx vx ta ia tb ib [] [] sc ps) 1 (.ref it1) (.ref L) ce) (fun r t => match r with
            | .ok _ => ∃ m, m < n ∧ ∃ i G, Inv (X.blk t3 Hb sc ce fp) [] (wipe σ (own.map (·.2))) G t ∧ tn i t.heap ∧ (∀ b ∈ fp, G b = none) ∧ W i m G
            | .error _ => False) t11 := by
        refine dc2_loop1 (fun k t => ∃ j G, Inv (X.blk t3 Hb sc ce fp) ([] ++ pinsAt fp t7.heap) (wipe τ8 vs1) G t ∧ tn1 j t.heap ∧ (∀ b ∈ fp1, G b = none) ∧ W1 j k G) ?_ m1 ⟨0, G11, I11.weak (wipe_length _ _) (fun j v z => (wipe_some z).1), st11, fun b hb => (f11 b hb).1, w1⟩
        rintro k t12 ⟨j, G12, I12, st12, n12, w12⟩
        rcases turn1 j k G12 w12 with ⟨stop1, nx1⟩ | ⟨go1, Nx1, hNx1, step1⟩
        · refine thnF (T1.done (X.blk t3 Hb sc ce fp) rfl rfl rfl hc j _ t12 (wipe τ8 vs1) G12 (fun _ _ => False) I12 (stat1 n12) st12 stop1) fun r t13 ⟨hr, I13⟩ => ?_
          subst hr
          exact fin I13 (hl8.trans (wipe_length τ8 vs1).symm) hk9 nx1
        · refine thnF (T1.item (X.blk t3 Hb sc ce fp) rfl rfl rfl hc j _ t12 (wipe τ8 vs1) G12 (fun _ _ => False) I12 (stat1 n12) st12 go1) fun r t13 ⟨u1, hr, h13⟩ => ?_
          subst hr
          refine thnF h13 fun _ t14 ⟨x1, G14, I14, r14, y14, st14, n14⟩ => ?_
          have I14' := I14.pinned (stat1 n14) (T1.obj _ _ st14)
          refine thnF (pg1.run _ t14 (wipe τ8 vs1) G14 x1 u1 _ I14' r14 (step1 x1 G14 y14)) fun _ t15 ⟨τ15, G15, I15, hw15, q15⟩ => ?_
          refine thnF ((pts_nil (X := X.blk t3 Hb sc ce fp)).run _ t15 τ15 G15 _ I15 (show tYes τ15 G15 (fun b G => b = true ∧ tk τ15 G _) from ⟨rfl, q15⟩)) fun b1 t16 ⟨G16, I16, hb16, q16⟩ => ?_
          subst hb16
          rw [if_pos rfl]
          have fin1 : ∀ {t : Shared} {G : Hp}, Inv (X.blk t3 Hb sc ce fp) (([] ++ pinsAt fp t7.heap) ++ pinsAt fp1 t14.heap) τ15 G t → Nx1 G → ∃ m, m < k ∧ ∃ j G, Inv (X.blk t3 Hb sc ce fp) ([] ++ pinsAt fp t7.heap) (wipe τ8 vs1) G t ∧ tn1 j t.heap ∧ (∀ b ∈ fp1, G b = none) ∧ W1 j m G := fun {t G} I' nx => by
            obtain ⟨m', hm, w'⟩ := hNx1 G nx
            have pin : ∀ b ∈ fp1, ∀ o, t14.heap.get? b = some o → t.heap.get? b = some o ∧ G b = none := fun b hb o z =>
              have y := I'.pin (b, o) (List.mem_append_right _ (List.mem_append_right _ (mem_pinsAt hb z)))
              ⟨y.1, y.2.1⟩
            exact ⟨m', hm, j + 1, G, I'.unpinned.weak (by rw [← hw15, wipe_length]) (fun j v z => (wipe_some (hw15 ▸ z)).1), T1.keep _ _ _ st14 fun b hb o z => (pin b hb o z).1, fun b hb => (T1.obj _ _ st14 b hb).elim fun o z => (pin b hb o z.1).2, w'⟩
          refine thnF (pk.run _ t16 τ15 G16 _ I16 q16) fun z t17 ⟨yk, G17, I17, r17, q17⟩ => ?_
          refine thnF (pe.run _ t17 τ15 G17 _ I17 q17) fun z2 t18 ⟨yv, G18, I18, r18, kvs, key, ek, hL18, hz18, nx⟩ => ?_
          subst ek
          exact d_dictSet (X := X.blk t3 Hb sc ce fp) I18 hL18 hz18 r17 r18 fun t19 I19 => fin1 I19 nx
      exact dc2_start1 loop1 (T1.self X.A 0 _ _ _ st11 loop1)
  exact codeAny_compStart_dict loop (T.self X.A 0 _ _ _ std loop)
end
end D
end
section
set_option Elab.async false
set_option linter.all false
set_option maxRecDepth 100000
namespace D
open PySem PySem.Spec L2 PyProof.Rows
section
variable {X : Cx}
theorem swD_true {kx vx : Expr} {gs : List Comprehension} {sc : Scope} {pos py : Pos} {y : Str} {l : Nat} {env : Env} (hk : env.scope.kind = .function) (hy : env.scope.names.lookup y = some .local) (hl : (py.line == pos.line) = true)
    (ha : (sc.names.any fun (n, k) => n == y && (k == .local || k == .cell)) = false) : swapsWith (.DictComp kx vx gs sc pos) (some (.Name y py)) l env = pure true := by
  have k1 : env.kindOf y = some .local := hy
  have k2 : env.blockKind = .function := by unfold Env.blockKind; rw [hk]; rfl
  unfold swapsWith
  simp only [k2, k1, ha, Expr.pos, hl]
  rfl
/-- the end of an assignment of what a comprehension has made -/
theorem use_end {pins : List (Addr × Obj)} {σ : L2.St} {D : Ends} {i : Nat} {y : Str} {py : Pos} {L C : Addr} {t : Shared} {m : Str → Option Value} {H' : Hp} (hN : X.N.Nodup) (hy : X.N[i]? = some y) (hyl : X.env.scope.names.lookup y = some .local)
    (I' : Inv X pins σ H' t) (q : gName i (.ref L) σ H' D.nx) (hn : t.heap.Ns C m) (f : FpOk X pins H' C) : compPost (model X.prog X.w) X.A X.xe (some (assign (.Name y py) X.env)) (fun _ t' => SP X pins D .next t') (.ref L) C (.ok .next) t := by
  show wpAny _ _ (assign (.Name y py) X.env (.ref L)) _ _ _
  refine wpAny_assign_Name (store_ok2 (v := V.ref L) I' hN hy (.inl hyl) rfl (fun t2 I2 ⟨a, sb, ha⟩ => ?_) (.inr hyl))
  obtain ⟨f0, f1, f2, f3, f4, f5⟩ := f
  have haC : C ≠ a := ha.elim (fun z => by rw [z]; exact f1) fun z e => f4 y a z e.symm
  exact ⟨m, hn.sameBut sb haC, fun h3 sb3 => ⟨_, H', I2.turned (t' := t2.toks) (fun b o hb e => (sb3.2 b hb).trans e) f0 f1 f3 f4 f5, q⟩⟩
theorem ps_setDc2 {i : Nat} {y : Str} {py spos : Pos} {kx vx ta ia tb ib : Expr} {sc : Scope} {own : List (Str × Nat)} {vs1 : List Nat} {ps : Pos} {wi wi1 : TI} {g g1 : TG} {tk tv : TE} (hc : X.calm = true) (hN : X.N.Nodup) (hy : X.N[i]? = some y) (hyl : X.env.scope.names.lookup y = some .local)
    (hsw : swapsWith (dc2 kx vx ta ia tb ib [] [] sc ps) (some (.Name y py)) spos.line X.env = pure true) (hi : PI X ta ia wi) (ok : BlkOk X.N X.env.scope sc own) (hv : ∀ i ∈ vs1, i ∈ own.map (·.2))
    (hg : AB X sc fun Y => PG Y ta g) (hk : AB X sc fun Y => PE Y kx tk) (he : AB X sc fun Y => PE Y vx tv) (hi1 : AB X sc fun Y => PI Y tb ib wi1) (hg1 : AB X sc fun Y => PG Y tb g1) (hs : ∀ z, foldedSetIterable ia X.env z = pure z) (hs1 : ∀ env z, foldedSetIterable ib env z = pure z) :
    PS X (.Assign [.Name y py] (dc2 kx vx ta ia tb ib [] [] sc ps) spos) (tAsg (tDc2 wi g wi1 g1 tk tv (own.map (·.2)) vs1) (gName i)) := by
  refine ⟨fun pins s σ H D I h => ?_⟩
  rw [exec_Assign_Name_used _ _ _ _ hsw]
  refine wpAny_bind (wpAny_standAt (wpAny_bind ?_))
  show wpAny _ X.A (do let _ ← comprehension (dc2 kx vx ta ia tb ib [] [] sc ps) sc X.env (firstIterPos [⟨ta, ia, [], 0⟩, ⟨tb, ib, [], 0⟩] ps) newDict false (eval ia X.env) (some (assign (.Name y py) X.env))) _ _ s
  have h : tDc2 wi g wi1 g1 tk tv (own.map (·.2)) vs1 σ H (fun x H1 => gName i x σ H1 D.nx) := h
  exact wpAny_bind (thn (dc2_core (Qf := fun _ t => SP X pins D .next t) hc hN I hi ok hv hg hk he hs hi1 hg1 hs1 h fun L C t m H' I' q hn f => use_end hN hy hyl I' q hn f) fun _ t hq => wpAny_pure (wpAny_pure hq))
theorem ps_setDc {i : Nat} {y : Str} {py spos : Pos} {kx vx tg iter : Expr} {ifs : List Expr} {sc : Scope} {own : List (Str × Nat)} {ps : Pos} {wi : TI} {g : TG} {tt : TT} {tk tv : TE} (hc : X.calm = true) (hN : X.N.Nodup) (hy : X.N[i]? = some y) (hyl : X.env.scope.names.lookup y = some .local)
    (hsw : swapsWith (.DictComp kx vx [⟨tg, iter, ifs, 0⟩] sc ps) (some (.Name y py)) spos.line X.env = pure true) (hi : PI X tg iter wi) (ok : BlkOk X.N X.env.scope sc own)
    (hg : AB X sc fun Y => PG Y tg g) (ht : AB X sc fun Y => PTs Y ifs tt) (hk : AB X sc fun Y => PE Y kx tk) (he : AB X sc fun Y => PE Y vx tv) (hs : ∀ z, foldedSetIterable iter X.env z = pure z) :
    PS X (.Assign [.Name y py] (.DictComp kx vx [⟨tg, iter, ifs, 0⟩] sc ps) spos) (tAsg (tDc wi g tt tk tv (own.map (·.2))) (gName i)) := by
  refine ⟨fun pins s σ H D I h => ?_⟩
  rw [exec_Assign_Name_used _ _ _ _ hsw]
  refine wpAny_bind (wpAny_standAt (wpAny_bind ?_))
  show wpAny _ X.A (do let _ ← comprehension (.DictComp kx vx [⟨tg, iter, ifs, 0⟩] sc ps) sc X.env (firstIterPos [⟨tg, iter, ifs, 0⟩] ps) newDict false (eval iter X.env) (some (assign (.Name y py) X.env))) _ _ s
  have h : tDc wi g tt tk tv (own.map (·.2)) σ H (fun x H1 => gName i x σ H1 D.nx) := h
  exact wpAny_bind (thn (dc_core (Qf := fun _ t => SP X pins D .next t) hc hN I hi ok hg ht hk he hs h fun L C t m H' I' q hn f => use_end hN hy hyl I' q hn f) fun _ t hq => wpAny_pure (wpAny_pure hq))
end
end D
end
section
set_option Elab.async false
set_option linter.all false
set_option maxRecDepth 100000
namespace D
open PySem PySem.Spec L2 PyProof.Rows
theorem dput_length {κ : Type} [DecidableEq κ] (l : List (κ × Dt)) (k : κ) (d : Dt) : (dput l k d).length ≤ l.length + 1 := by
  unfold dput
  split
  · rw [List.length_map]; omega
  · rw [List.length_append]; simp
theorem ww {σ : L2.St} (vs : List Nat) : wipe (wipe σ vs) vs = wipe σ vs := by
  have : ∀ (us : List Nat), (∀ u ∈ us, u ∈ vs) → wipe (wipe σ us) vs = wipe σ vs := by
    intro us
    induction us with
    | nil => intro _; rfl
    | cons u us ih =>
      intro h
      show wipe ((wipe σ us).set u none) vs = _
      rw [wipe_set (h u (List.mem_cons_self ..))]
      exact ih fun v hv => h v (List.mem_cons_of_mem _ hv)
  exact this vs fun u h => h
/-- a new dict -/
def SDt (F : Fm) (X : Cx) (Γ : List Sl) (c : Cells) (t : TE) (P : Cells → List (Key × Dt) → Prop) : Prop :=
  ∀ (σ : L2.St) (H : Hp) (Q : VK), SI X.K F Γ c σ H → (∀ p xs H1 c' l, P c' l → SI X.K F Γ c' σ H1 → Ex (Vw F c H) (Vw F c' H1) → H1 p = none → DVk X.K (Vw F c' H1) xs l → Q (.ref p) (upd H1 p (.dK xs))) → t σ H Q
def wIb (X : Cx) (sc : Scope) (tg iter : Expr) : TI := fun σ H R => ∀ (s0 : Shared) (H0 : Hp) (C : Addr) (cl : List (Str × Addr)) (fp : List Addr), wI (blk X sc s0 H0 C cl fp) tg iter σ H R
theorem pIb {X : Cx} {sc : Scope} {tg iter : Expr} (s0 : Shared) (H0 : Hp) (C : Addr) (cl : List (Str × Addr)) (fp : List Addr) : PI (X.blk s0 H0 sc (compEnvC sc cl C X.env) fp) tg iter (wIb X sc tg iter) := ⟨fun pins s σ H R I h => pI.run pins s σ H R I (h s0 H0 C cl fp)⟩
section
variable {F : Fm} {X : Cx} {Γ : List Sl} {c : Cells} {Φ : PEnds} {pos : Pos} {P : Cells → List (Key × Dt) → Prop} {vs vs1 : List Nat}
theorem SDt.se {e : Expr} {t : TE} {P : Cells → Dt → Prop} (hp : PE X e t) (h : SDt F X Γ c t fun c1 l => ∀ a, P (c1 ++ [(a, .dk l)]) (.raw (.ref a))) : SE F X Γ c e P :=
  SE.of hp fun σ H Q S k => h σ H Q S fun p xs H1 c' l q S1 e1 hp dv => by
    obtain ⟨S2, e2⟩ := S1.addC (q := .dk l) (o := .dK xs) hp rfl ⟨xs, upd_same, dv⟩
    exact k _ _ _ _ (q p) S2 (e1.trans e2) (.raw _)
theorem s_setDT {st : Stmt} {t : TE} (i : Nat) (hp : PS X st (tAsg t (gName i))) (h : SDt F X Γ c t fun c1 l => ∀ a, Φ.nx (Γ.set i (.dat (.raw (.ref a)))) (c1 ++ [(a, .dk l)])) : S1 F X Γ c st Φ :=
  S1.of hp fun σ H D S E => h σ H _ S fun p xs H1 c' l q S1 e1 hp dv => by
    obtain ⟨S2, e2⟩ := S1.addC (q := .dk l) (o := .dK xs) hp rfl ⟨xs, upd_same, dv⟩
    exact E.nx _ _ _ _ (q p) (S2.setD (.raw _)) (e1.trans e2)
/-- one turn of {k: v for tg in iter} -/
def TurnD (X : Cx) (Γ : List Sl) (sc : Scope) (vs : List Nat) (tg kx vx : Expr) (d : Dt) (c' : Cells) (N : Cells → Key → Dt → Prop) : Prop :=
  ∀ F' : Fm, AB X sc fun Y => SGb F' Y (wipeG Γ vs) c' vs tg d fun Γ2 => AB X sc fun Y => SE F' Y Γ2 c' kx fun c2 dk => ∃ k, dkey dk = some k ∧ AB X sc fun Y => SE F' Y Γ2 c2 vx fun c3 dv => N c3 k dv
theorem sdt_dc {kx vx tg iter : Expr} {sc : Scope}
    (h : SW F X Γ c tg iter fun c1 ds => ds.length ≤ sizeLine ∧ ∃ Jv : Nat → Cells → List (Key × Dt) → Prop, Jv 0 c1 [] ∧
      (∀ i d c' acc, ds[i]? = some d → Jv i c' acc → TurnD X Γ sc vs tg kx vx d c' fun c2 k y => Jv (i + 1) c2 (dput acc k y)) ∧ ∀ c' acc, Jv ds.length c' acc → P c' acc) : SDt F X Γ c (tDc (wI X tg iter) (tGb X sc tg) tYes (tEb X sc kx) (tEb X sc vx) vs) P := fun σ H Q S kk => by
  refine h σ H _ S fun J H1 c1 ds p S1 e1 src L hL => ?_
  obtain ⟨hz, Jv, j0, turn, done⟩ := p
  obtain ⟨G, Y, w, hG, hY⟩ := src
  have nM : L ∉ F.M := fun z => S1.fresh hL (List.mem_append_right _ z)
  have nW := S1.nW hL
  have h0 := S1.h0 hL
  obtain ⟨Sh, eh⟩ := S1.hide (D := L) (o := .dK []) hL
  let Pv : Nat → Hp → Prop := fun i H' => ∃ c' acc xs, Jv i c' acc ∧ acc.length ≤ i ∧ SI X.K (FD F L (.dK xs)) Γ c' σ H' ∧ Ex (Vw F c1 H1) (Vw (FD F L (.dK xs)) c' H') ∧ DVk X.K (Vw (FD F L (.dK xs)) c' H') xs acc
  refine ⟨fun i m H => m = ds.length - i ∧ i ≤ ds.length ∧ Pv i H, ⟨ds.length, by simp, Nat.zero_le _, c1, [], [], j0, Nat.le_refl _, Sh, eh, .nil⟩, ?_⟩
  rintro i m H' ⟨rfl, hi, c', acc, xs, jv, la, S', e', dvs⟩
  have g := hG H' (e'.trans (mask_ex _ _))
  by_cases hlt : i < ds.length
  · refine .inr ⟨w.goes i H' hlt g, Pv (i + 1), fun H2 p2 => ⟨ds.length - (i + 1), by omega, rfl, hlt, p2⟩, fun x H2 y => ?_⟩
    obtain ⟨d, hd, it⟩ := hY i H' x H2 hlt (w.yields i H' x H2 hlt g y) (e'.trans (mask_ex _ _))
    obtain ⟨S2, e2, dv⟩ := it.dv' S' e'
    intro s0 H0 C cl fp
    refine turn i d c' acc hd jv (FD F L (.dK xs)) s0 H0 C cl fp (wipe σ vs) H2 x _ (S2.wipe vs) dv fun Γ2 σ2 q Sg hw => ⟨by rw [ww] at hw; exact hw, ?_⟩
    show tEb X sc kx σ2 H2 _
    intro s0 H0 C cl fp
    refine q s0 H0 C cl fp σ2 H2 _ Sg fun yk H3 c2 dk q2 S3 e3 dvk => ?_
    obtain ⟨key, hk, q2⟩ := q2
    intro s0 H0 C cl fp
    refine q2 s0 H0 C cl fp σ2 H3 _ S3 fun yv H4 c3 dy jn S4 e4 dvy => ?_
    have S5 : SI X.K (FD F L (.dK xs)) Γ c3 σ H4 := S2.back S4 (e3.trans e4)
    have ee := e2.trans (e3.trans e4)
    refine ⟨xs, key, dkey_dv dvk hk, S5.hD nW, by rw [dvs.p.length]; omega, c3, dput acc key dy, putK xs key yv, jn, ?_, S5.grow, ?_, ?_⟩
    · have := dput_length acc key dy; omega
    · rw [vw_FD_upd (o := .dK xs)]
      exact e'.trans ee
    · rw [vw_FD_upd (o := .dK xs)]
      exact ((dvs.mono ee).p.put key dvy).k
  · have ei : i = ds.length := by omega
    subst ei
    refine .inl ⟨w.stops H' g, ?_⟩
    have q := kk L xs (rm H' L) c' acc (done c' acc jv) (S'.unhide h0 nM nW) (e1.trans (e'.trans vw_rm)) rm_same (dvs.mono vw_rm)
    rw [upd_rm (S'.hD nW)] at q
    exact q
end
end D
end
section
set_option Elab.async false
set_option linter.all false
set_option maxRecDepth 100000
namespace D
open PySem PySem.Spec L2 PyProof.Rows
section
variable {F : Fm} {X : Cx} {Γ : List Sl} {c : Cells} {Φ : PEnds} {pos : Pos} {P : Cells → List (Key × Dt) → Prop} {vs vs1 : List Nat}
/-- {k: v for ta in ia for tb in ib} -/
theorem sdt_dc2 {kx vx ta ia tb ib : Expr} {sc : Scope}
    (h : SW F X Γ c ta ia fun c1 ds => ∃ Jv : Nat → Cells → List (Key × Dt) → Prop, Jv 0 c1 [] ∧
      (∀ i d c' acc, ds[i]? = some d → Jv i c' acc → ∀ F' : Fm, AB X sc fun Y => SGb F' Y (wipeG Γ vs) c' vs ta d fun Γ2 => AB X sc fun Y => SW F' Y Γ2 c' tb ib fun c2 es => acc.length + es.length ≤ sizeLine ∧ ∃ Ji : Nat → Cells → List (Key × Dt) → Prop, Ji 0 c2 acc ∧
        (∀ j e c3 acc', es[j]? = some e → Ji j c3 acc' → ∀ F' : Fm, AB X sc fun Y => SGb F' Y (wipeG Γ2 vs1) c3 vs1 tb e fun Γ3 => AB X sc fun Y => SE F' Y Γ3 c3 kx fun c4 dk => ∃ k, dkey dk = some k ∧ AB X sc fun Y => SE F' Y Γ3 c4 vx fun c5 dv => Ji (j + 1) c5 (dput acc' k dv)) ∧
        ∀ c3 acc', Ji es.length c3 acc' → Jv (i + 1) c3 acc') ∧ ∀ c' acc, Jv ds.length c' acc → P c' acc) :
    SDt F X Γ c (tDc2 (wI X ta ia) (tGb X sc ta) (wIb X sc tb ib) (tGb X sc tb) (tEb X sc kx) (tEb X sc vx) vs vs1) P := fun σ H Q S kk => by
  refine h σ H _ S fun J H1 c1 ds p S1 e1 src L hL => ?_
  obtain ⟨Jv, j0, turn, done⟩ := p
  obtain ⟨G, Y, w, hG, hY⟩ := src
  have nM : L ∉ F.M := fun z => S1.fresh hL (List.mem_append_right _ z)
  have nW := S1.nW hL
  have h0 := S1.h0 hL
  obtain ⟨Sh, eh⟩ := S1.hide (D := L) (o := .dK []) hL
  let Pv : Nat → Hp → Prop := fun i H' => ∃ c' acc xs, Jv i c' acc ∧ SI X.K (FD F L (.dK xs)) Γ c' σ H' ∧ Ex (Vw F c1 H1) (Vw (FD F L (.dK xs)) c' H') ∧ DVk X.K (Vw (FD F L (.dK xs)) c' H') xs acc
  refine ⟨fun i m H => m = ds.length - i ∧ i ≤ ds.length ∧ Pv i H, ⟨ds.length, by simp, Nat.zero_le _, c1, [], [], j0, Sh, eh, .nil⟩, ?_⟩
  rintro i m H' ⟨rfl, hi, c', acc, xs, jv, S', e', dvs⟩
  have g := hG H' (e'.trans (mask_ex _ _))
  by_cases hlt : i < ds.length
  · refine .inr ⟨w.goes i H' hlt g, Pv (i + 1), fun H2 p2 => ⟨ds.length - (i + 1), by omega, rfl, hlt, p2⟩, fun x H2 y => ?_⟩
    obtain ⟨d, hd, it⟩ := hY i H' x H2 hlt (w.yields i H' x H2 hlt g y) (e'.trans (mask_ex _ _))
    obtain ⟨S2, e2, dv⟩ := it.dv' S' e'
    intro s0 H0 C cl fp
    refine turn i d c' acc hd jv (FD F L (.dK xs)) s0 H0 C cl fp (wipe σ vs) H2 x _ (S2.wipe vs) dv fun Γ2 σ2 q Sg hw => ⟨by rw [ww] at hw; exact hw, ?_⟩
    intro s0 H0 C cl fp
    refine q s0 H0 C cl fp σ2 H2 _ Sg fun J1 H3 c2 es q2 S3 e3 src1 => ?_
    obtain ⟨hz, Ji, ji0, turn1, done1⟩ := q2
    obtain ⟨G1, Y1, w1, hG1, hY1⟩ := src1
    let Pi : Nat → Hp → Prop := fun j H4 => ∃ c4 acc4 ys, Ji j c4 acc4 ∧ acc4.length ≤ acc.length + j ∧ SI X.K (FD F L (.dK ys)) Γ2 c4 σ2 H4 ∧ Ex (Vw (FD F L (.dK xs)) c2 H3) (Vw (FD F L (.dK ys)) c4 H4) ∧ DVk X.K (Vw (FD F L (.dK ys)) c4 H4) ys acc4
    refine ⟨fun j m H => m = es.length - j ∧ j ≤ es.length ∧ Pi j H, ⟨es.length, by simp, Nat.zero_le _, c2, acc, xs, ji0, Nat.le_refl _, S3, Ex.refl _, dvs.mono (e2.trans e3)⟩, ?_⟩
    rintro j k H4 ⟨rfl, hj, c4, acc4, ys, ji, la, S4, e4, dv4⟩
    have g1 := hG1 H4 (e4.trans (mask_ex _ _))
    have e34 : Ex (Vw F c1 H1) (Vw (FD F L (.dK ys)) c4 H4) := e'.trans (e2.trans (e3.trans e4))
    by_cases hlt1 : j < es.length
    · refine .inr ⟨w1.goes j H4 hlt1 g1, Pi (j + 1), fun H5 p5 => ⟨es.length - (j + 1), by omega, rfl, hlt1, p5⟩, fun x1 H5 y1 => ?_⟩
      obtain ⟨d1, hd1, it1⟩ := hY1 j H4 x1 H5 hlt1 (w1.yields j H4 x1 H5 hlt1 g1 y1) (e4.trans (mask_ex _ _))
      obtain ⟨S5, e5, dv5⟩ := it1.dv' S4 e4
      intro s0 H0 C cl fp
      refine turn1 j d1 c4 acc4 hd1 ji (FD F L (.dK ys)) s0 H0 C cl fp (wipe σ2 vs1) H5 x1 _ (S5.wipe vs1) dv5 fun Γ3 σ3 q3 Sg3 hw3 => ⟨by rw [ww] at hw3; exact hw3, ?_⟩
      intro s0 H0 C cl fp
      refine q3 s0 H0 C cl fp σ3 H5 _ Sg3 fun yk H6 c6 dk q6 S6 e6 dvk => ?_
      obtain ⟨key, hk, q6⟩ := q6
      intro s0 H0 C cl fp
      refine q6 s0 H0 C cl fp σ3 H6 _ S6 fun yv H7 c7 dy jn S7 e7 dvy => ?_
      have S8 : SI X.K (FD F L (.dK ys)) Γ2 c7 σ2 H7 := S5.back S7 (e6.trans e7)
      have ee := e5.trans (e6.trans e7)
      refine ⟨ys, key, dkey_dv dvk hk, S8.hD nW, by rw [dv4.p.length]; omega, c7, dput acc4 key dy, putK ys key yv, jn, ?_, S8.grow, ?_, ?_⟩
      · have := dput_length acc4 key dy; omega
      · rw [vw_FD_upd (o := .dK ys)]
        exact e4.trans ee
      · rw [vw_FD_upd (o := .dK ys)]
        exact ((dv4.mono ee).p.put key dvy).k
    · have ej : j = es.length := by omega
      subst ej
      refine .inl ⟨w1.stops H4 g1, c4, acc4, ys, done1 c4 acc4 ji, ?_, e34, dv4⟩
      -- back to the slots of before
      have eb : Ex (Vw (FD F L (.dK xs)) c' H') (Vw (FD F L (.dK ys)) c4 H4) := e2.trans (e3.trans e4)
      exact ⟨S'.len, S4.nd, fun i d hi => by obtain ⟨v, z1, z2⟩ := S'.sl i d hi; exact ⟨v, z1, z2.mono eb⟩, S4.ce, S4.keep, S4.fr, S4.live, S4.wl⟩
  · have ei : i = ds.length := by omega
    subst ei
    refine .inl ⟨w.stops H' g, ?_⟩
    have q := kk L xs (rm H' L) c' acc (done c' acc jv) (S'.unhide h0 nM nW) (e1.trans (e'.trans vw_rm)) rm_same (dvs.mono vw_rm)
    rw [upd_rm (S'.hD nW)] at q
    exact q
end
end D
end
section
set_option Elab.async false
set_option linter.all false
set_option maxRecDepth 100000
namespace D
open PySem PySem.Spec L2 PyProof.Rows
theorem enum_newT (t : Addr) (items : Array Value) :
    Meets (Builtin.«enumerate.__new__» ⟨[.type "enumerate", .ref t], []⟩) (fun _ R s => s.heap.IsTuple t items ∧
      R (.ok (.ret (.ref (s.heap.push { cls := .type "tuple_iterator", data := .fields #[.ref t, .int 0 0] }).objs.size)))
        { s with heap := (s.heap.push { cls := .type "tuple_iterator", data := .fields #[.ref t, .int 0 0] }).push { cls := .type "enumerate", data := .fields #[.none, .bool false, .ref s.heap.objs.size, rawInt 0, .none, .none] } }) :=
  .of_wp fun prog w A R s h => by
    obtain ⟨hp, g, d, tk, os⟩ := s
    obtain ⟨ht, h⟩ := h
    have hsub := sub_enumerate
    obtain ⟨o, ho, hcls, n, hdat⟩ := id ht
    have q1 : ∀ {A' : Around} {E : Value → Shared → Prop} {Q : Value → Shared → Prop}, Q (.ref hp.objs.size) ⟨(hp.push { cls := .type "tuple_iterator", data := .fields #[.ref t, .int 0 0] }), g, d, tk, os⟩ → wpAny (model prog w) A' (pyIter (.ref t)) Q E ⟨hp, g, d, tk, os⟩ :=
      fun q => wpAny_pyIter_tuple ht q
    wp_walk using wpAny_loadPart' ho
    refine wpAny_stack_any fun st => wpAny_pure ?_
    split
    · rename_i k _ _ _ _ _
      cases (k == Value.type "enumerate")
      · wp_walk using wpAny_loadPart' ho, q1
        exact ⟨_, rfl, h⟩
      · wp_walk using wpAny_loadPart' ho, q1
        exact ⟨_, rfl, h⟩
    · wp_walk using wpAny_loadPart' ho, q1
      exact ⟨_, rfl, h⟩
section
variable {prog : Program} {w : World} {A : Around} {E : Value → Shared → Prop} {s : Shared}
theorem call_enumT {t : Addr} {items : Array Value} {Q : Value → Shared → Prop} (hT : s.heap.IsTuple t items)
    (h : ∀ h', IsEnum h' (s.heap.objs.size + 1) s.heap.objs.size 0 .none → h'.IsTupleIter s.heap.objs.size t 0 → h'.objs.size = s.heap.objs.size + 2 → (∀ b o, s.heap.get? b = some o → h'.get? b = some o) → Q (.ref (s.heap.objs.size + 1)) { s with heap := h' }) :
    wpAny (model prog w) A (call (.type "enumerate") [.ref t]) Q E s := by
  refine callType_new F.called_enumerate (by decide) (F.typeCall_enumerate_1 _) (F.newCall_enumerate_1 _) (fun ob => F.args_object_init_2 ob _) F.entry_enumerate_new (enum_newT t items) ⟨hT, ?_⟩
  have hz : (s.heap.push { cls := .type "tuple_iterator", data := .fields #[.ref t, .int 0 0] }).objs.size = s.heap.objs.size + 1 := Heap.size_push ..
  show _ ∧ _
  rw [hz]
  have he : IsEnum ((s.heap.push { cls := .type "tuple_iterator", data := .fields #[.ref t, .int 0 0] }).push { cls := .type "enumerate", data := .fields #[.none, .bool false, .ref s.heap.objs.size, rawInt 0, .none, .none] }) (s.heap.objs.size + 1) s.heap.objs.size 0 .none := by
    have q := Heap.get?_push_size (s.heap.push { cls := .type "tuple_iterator", data := .fields #[.ref t, .int 0 0] }) (o := { cls := .type "enumerate", data := .fields #[.none, .bool false, .ref s.heap.objs.size, rawInt 0, .none, .none] }) rfl
    rwa [hz] at q
  exact ⟨⟨_, he, rfl⟩, h _ he ⟨_, Heap.get?_push_of_some _ (Heap.get?_push_size _ rfl), rfl, rfl⟩ (by rw [Heap.size_push, hz]) fun b o y => Heap.get?_push_of_some _ (Heap.get?_push_of_some _ y)⟩
end
/-- the tuple at a, each item in a new pair -/
def IteT (K : PySem.W.Frag) (a : Addr) : It :=
  ⟨fun i H => ∃ (xs : List V) (x : V), SqT K H a xs ∧ xs[i]? = some x, fun i H v H' => ∃ T x, v = .ref T ∧ H T = none ∧ H' = upd H T (.tup [.int (i : Nat), x]) ∧ ∀ xs, SqT K H a xs → xs[i]? = some x, fun i H => ∃ xs : List V, SqT K H a xs ∧ xs.length = i⟩
theorem turn_enumT {P : Program} {w : World} {K : PySem.W.Frag} {elts : List Expr} {kk : Nat} {tpos : Pos} (a e it : Addr) :
    Turn P w K (.Tuple elts kk tpos) (IteT K a) [e, it] e (fun i h => (∃ old, IsEnum h e it ((i : Nat) : Int) old) ∧ h.IsTupleIter it a i ∧ e ≠ it ∧ a ≠ it ∧ a ≠ e) where
  mem := by simp
  obj := fun i h st b hb => by
    obtain ⟨⟨old, he⟩, ⟨o, ho, hc, hd⟩, _⟩ := st
    rcases (show b = e ∨ b = it by simpa using hb) with z | z
    · subst z; exact ⟨_, he, fun v q => nomatch q⟩
    · subst z; exact ⟨o, ho, fun v q => by rw [hd] at q; cases q⟩
  keep := fun i h h' st k => let ⟨⟨old, he⟩, hi, hne⟩ := st; ⟨⟨old, k e (by simp) _ he⟩, hi.at fun o q => k it (by simp) o q, hne⟩
  item := by
    intro X hP hw hK hc i pins s σ H E I hf st hg
    subst hP hw hK
    obtain ⟨⟨old, he⟩, hit, hne, hai, hae⟩ := st
    obtain ⟨xs, x, hq, hx⟩ := hg
    obtain ⟨its, rv, p, hz⟩ := I.tuple hq
    obtain ⟨u, hu, ru⟩ := rv.get hx
    have hel : e < s.heap.objs.size := Heap.lt_size he
    have hil : it < s.heap.objs.size := hit.elim fun _ q => Heap.lt_size q.1
    have hlt : i < its.toArray.size := by simpa using (List.getElem?_eq_some_iff.mp hu).1
    refine wpAny_pyNext_enum_itemD (Draws.tuple (prog := X.prog) (w := X.w) (A := X.A.in1) (I.ok.hd hc) it a hai its.toArray) he ⟨hit, p⟩ hlt hne (by simp [hne, Ne.symm hae]) fun u' h' tk hP ho hst hT hsz hk => ?_
    have eu : u' = u := by
      have : its.toArray[i]? = some u' := hP
      simp only [List.getElem?_toArray] at this
      rw [hu] at this
      exact (Option.some.inj this).symm
    subst eu
    refine ⟨_, rfl, wpAny_letOwnedTupleGo_enum (s := { s with heap := h', toks := tk + 1 }) ho fun h'' he' sb => ?_⟩
    have hT2 : h''.get? s.heap.objs.size = some { cls := .type "tuple", data := .seq #[.int i tk, u'] } := (sb.2 _ (Nat.ne_of_gt hel)).trans hT
    have new : ObjOk X.prog X.w (upd H s.heap.objs.size (.tup [.int (i : Nat), x])) h'' s.heap.objs.size (.tup [.int (i : Nat), x]) := ⟨by show 2 ≤ sizeLine; decide, [.int i tk, u'], .cons ⟨_, rfl⟩ (.cons ru .nil), ⟨_, hT2, rfl, _, rfl⟩⟩
    have I1 : Inv X pins σ (upd H s.heap.objs.size (.tup [.int (i : Nat), x])) { s with heap := h'', toks := tk + 1 } :=
      I.turnedNew (ch := [e, it]) (fun b ob hb q => (sb.2 b fun z => hb (by simp [z])).trans (hk b ob (fun z => hb (by simp [z])) (fun z => hb (by simp [z])) q)) hf (Nat.le_refl _) new
    refine ⟨.ref s.heap.objs.size, _, I1, rfl, ⟨_, x, rfl, I.hok.fresh (Nat.le_refl _), rfl, fun ys hy => by rw [I.tuple_inj hy hq]; exact hx⟩, ⟨⟨u', by rw [show ((i + 1 : Nat) : Int) = (i : Int) + 1 by omega]; exact he'⟩, hst.1.at fun o q => (sb.2 it (Ne.symm hne)).trans q, hne, hai, hae⟩, fun b hb => ?_⟩
    have hb' : b < s.heap.objs.size := by
      rcases (show b = e ∨ b = it by simpa using hb) with z | z
      · rw [z]; exact hel
      · rw [z]; exact hil
    rw [upd_ne (Nat.ne_of_lt hb')]
    exact (hf b hb).1
  done := by
    intro X hP hw hK hc i pins s σ H E I hf st hg
    subst hP hw hK
    obtain ⟨⟨old, he⟩, hit, hne, hai, hae⟩ := st
    obtain ⟨xs, hq, hx⟩ := hg
    obtain ⟨its, rv, p, hz⟩ := I.tuple hq
    obtain ⟨f0, f1, f2, f3, f4, f5⟩ := hf it (by simp)
    have hl := rv.length
    have en : i = its.toArray.size := by simp; omega
    subst en
    exact wpAny_pyNext_enum_endD (Draws.tuple (prog := X.prog) (w := X.w) (A := X.A.in1) (I.ok.hd hc) it a hai its.toArray) he ⟨hit, p⟩ fun h' eb => ⟨rfl, I.turned (t' := s.toks) (fun b o hb q => eb b o hb q) f0 f1 f3 f4 f5⟩
  self := fun A i s Q E st h => st.1.elim fun _ he => wpAny_pyIter_enum he h
def iEnumT (K : PySem.W.Frag) (ta : TA) : TI := fun σ H R => ta σ H fun vs H1 => ∃ a xs, vs = [.ref a] ∧ SqT K H1 a xs ∧ R (IteT K a) H1
theorem pi_enumT {X : Cx} {e : Expr} {ta : TA} {p pos tpos : Pos} {elts : List Expr} {kk : Nat} (hg : Gl X "enumerate") (hm : X.mg "enumerate" = none) (ha : PA X [e] ta) (hs : starEach [e] X.env = [(false, eval e X.env)] := by rfl) :
    PI X (.Tuple elts kk tpos) (.Call (.Name "enumerate" p) [e] [] pos) (iEnumT X.K ta) := by
  refine ⟨fun pins s σ H R I h => ?_⟩
  refine Call_ (ld_blt I hg hm boot_enumerate (PyProof.Rows.callWith_type1 (thn (ha.run pos pins s σ H _ I h) fun us t ⟨vs, H1, I1, r1, q1⟩ => ?_) hs rfl))
  obtain ⟨a, xs, rfl, hq, q⟩ := q1
  cases r1 with
  | cons r rr =>
    cases rr
    cases r
    obtain ⟨its, rv, p', hz⟩ := I1.tuple hq
    have hlt : a < t.heap.objs.size := p'.lt
    refine call_enumT p' fun h' he hit hsz hk => wpAny_pyIter_enum he ?_
    have I2 : Inv X pins σ H1 { t with heap := h' } := I1.kept (t' := t.toks) hk
    refine ⟨t.heap.objs.size + 1, [t.heap.objs.size + 1, t.heap.objs.size], _, _, H1, rfl, I2, turn_enumT a (t.heap.objs.size + 1) t.heap.objs.size, ⟨⟨.none, he⟩, hit, Nat.succ_ne_self _, Nat.ne_of_lt hlt, Nat.ne_of_lt (Nat.lt_succ_of_lt hlt)⟩, fun b hb => ?_, q⟩
    have hle : t.heap.objs.size ≤ b := by
      rcases (show b = t.heap.objs.size + 1 ∨ b = t.heap.objs.size by simpa using hb) with z | z
      · rw [z]; exact Nat.le_succ _
      · rw [z]; exact Nat.le_refl _
    exact I1.fpOk hle (I1.hok.fresh hle)
theorem walk_enumT {K : PySem.W.Frag} {a : Addr} {xs : List V} : Walk (IteT K a) xs.length (fun H => SqT K H a xs) (YPair (fun i => some (.int (i : Nat))) (fun i => xs[i]?)) :=
  ⟨fun i H hi h => ⟨xs, xs[i], h, List.getElem?_eq_getElem hi⟩, fun H h => ⟨xs, h, rfl⟩, fun i H x H' hi h ⟨T, y, e1, e2, e3, e4⟩ => ⟨T, .int (i : Nat), y, e1, e2, e3, rfl, e4 xs h⟩⟩
section
variable {F : Fm} {X : Cx} {Γ : List Sl} {c : Cells} {pos : Pos} {P : Cells → List Dt → Prop} {K : PySem.W.Frag}
theorem src_enumT {V0 : Hp} {a : Addr} {xs : List V} {l : List Dt} (h : SqT K V0 a xs) (t : DVs K V0 xs l) : Src K V0 (IteT K a) (enumD l) := by
  have hl : (enumD l).length = xs.length := by unfold enumD; rw [List.length_map, List.length_range, t.length]
  refine ⟨_, _, hl.symm ▸ walk_enumT (K := K) (a := a) (xs := xs), fun H e => ex_t e h, fun i H1 x H2 hi y _ => ?_⟩
  obtain ⟨T, x1, x2, h1, h2, h3, h4, h5⟩ := y
  rw [hl] at hi
  obtain ⟨d, h6, h7⟩ := t.getV h5
  cases h4
  refine ⟨.par [.int (i : Int), d], ?_, .inr ⟨T, _, x2, .int (i : Int), d, h1, h2, h3, rfl, .int _, h7⟩⟩
  unfold enumD
  rw [List.getElem?_map, List.getElem?_range (by rw [← t.length]; exact hi)]
  show some (Dt.par [.int (i : Int), l.getD i .non]) = _
  rw [List.getD_eq_getElem?_getD, h6]
  rfl
theorem sw_enumT {e : Expr} {p : Pos} {elts : List Expr} {kk : Nat} {tpos : Pos} (hm : X.mg "enumerate" = none) (h : SE F X Γ c e fun c1 d => ∃ l, d = .tup l ∧ P c1 (enumD l)) (hg : Gl X "enumerate" := by rfl) (hs : starEach [e] X.env = [(false, eval e X.env)] := by rfl) : SW F X Γ c (.Tuple elts kk tpos) (.Call (.Name "enumerate" p) [e] [] pos) P := .mk fun σ H R S k =>
  ⟨_, pi_enumT hg hm (pa_cons pE pa_nil hs) hs, h σ H _ S fun v H1 c1 d p S1 k1 dv => by
    obtain ⟨l, rfl, p⟩ := p
    cases dv with
    | tup a t => exact ⟨_, _, rfl, (a.mono (mask_ex _ _)).t, k _ H1 c1 _ p S1 k1 (src_enumT a.t t)⟩⟩
end
end D
end
section
set_option Elab.async false
set_option linter.all false
set_option maxRecDepth 100000
namespace D
open PySem L2 PyProof.Rows
def getG : List Str → List Sl → Str → Option Sl
  | n :: N, s :: Γ, x => if n == x then some s else getG N Γ x
  | _, _, _ => none
theorem getG_at {x : Str} {s : Sl} : ∀ {N : List Str} {Γ : List Sl}, getG N Γ x = some s → ∃ i : Nat, N[i]? = some x ∧ Γ[i]? = some s
  | [], _, h => by simp [getG] at h
  | _ :: _, [], h => by simp [getG] at h
  | n :: N, t :: Γ, h => by
    unfold getG at h
    by_cases e : (n == x) = true
    · rw [if_pos e] at h
      exact ⟨0, by simp [eq_of_beq e], by simpa using h⟩
    · rw [if_neg e] at h
      obtain ⟨i, h1, h2⟩ := getG_at h
      exact ⟨i + 1, by simpa using h1, by simpa using h2⟩
section
variable {F : Fm} {X : Cx} {Γ : List Sl} {c : Cells} {P : Cells → Dt → Prop} {pos : Pos}
theorem se_nm {x : Str} {d : Dt} (hs : getG X.N Γ x = some (.dat d)) (p : P c d) (hv : Vis X.env.scope x := by first | exact Or.inl rfl | exact Or.inr (Or.inl rfl) | exact Or.inr (Or.inr rfl))
    (hd : (x == ("__debug__" : Str)) = false := by decide) (hcd : (x == ("__classdict__" : Str)) = false := by decide) : SE F X Γ c (.Name x pos) P := by
  obtain ⟨i, h1, h2⟩ := getG_at hs
  exact se_var i h2 p h1 hv hd hcd
end
abbrev abc : Str := "abcdefghijklmnopqrstuvwxyz"
def nameC (s : Str) : Bool := decide (1 ≤ (s.length : Int)) && (decide ((s.length : Int) ≤ 8) && s.cps.toList.all fun a => decide (a ∈ abc.cps.toList))
theorem nameC_iff {s : Str} : nameC s = true ↔ 1 ≤ s.length ∧ s.length ≤ 8 ∧ ∀ a ∈ s.cps.toList, a ∈ abc.cps.toList := by
  unfold nameC
  rw [Bool.and_eq_true, Bool.and_eq_true, decide_eq_true_eq, decide_eq_true_eq, List.all_eq_true]
  constructor
  · rintro ⟨h1, h2, h3⟩
    exact ⟨by omega, by omega, fun a ha => of_decide_eq_true (h3 a ha)⟩
  · rintro ⟨h1, h2, h3⟩
    exact ⟨by omega, by omega, fun a ha => decide_eq_true (h3 a ha)⟩
theorem abc_asc : ∀ a ∈ abc.cps.toList, a < 128 := by decide +kernel
theorem name_asc {s : Str} (h : nameC s = true) : Asc 8 s := by
  rw [nameC_iff] at h
  exact ⟨h.2.1, fun a ha => abc_asc a (h.2.2 a ha)⟩
abbrev Nm := { s : Str // nameC s = true }
abbrev nD (x : Nm) : Dt := .str x.1
abbrev nL (l : List Nm) : Dt := .lst (l.map nD)
abbrev nT (l : List Nm) : Dt := .tup (l.map nD)
theorem fit_n {n : Nat} (x : Nm) : Fit n (nD x) := fit_str (name_asc x.2).ok
theorem fit_nL {n : Nat} (l : List Nm) : Fit (n + 1) (nL l) := fit_lst fun d hd => by
  obtain ⟨x, _, rfl⟩ := List.mem_map.mp hd; exact fit_n x
theorem fit_nT {n : Nat} (l : List Nm) : Fit (n + 1) (nT l) := fit_tup fun d hd => by
  obtain ⟨x, _, rfl⟩ := List.mem_map.mp hd; exact fit_n x
theorem eqV_str (a b : Str) : eqV (.str a) (.str b) = decide (a = b) := by
  show _ = _
  by_cases h : a = b
  · subst h; simp [eqV]
  · simp [eqV, h]
theorem inD_n (x : Nm) (l : List Nm) : inD (nD x) (l.map nD) = decide (x ∈ l) := by
  unfold inD inV
  rw [List.map_map]
  induction l with
  | nil => rfl
  | cons y l ih =>
    rw [List.map_cons, List.any_cons, ih]
    show (eqV (.str y.1) (.str x.1) || _) = _
    rw [eqV_str]
    by_cases e : y = x
    · subst e; simp
    · have : y.1 ≠ x.1 := fun z => e (Subtype.ext z)
      have e' : ¬ x = y := fun z => e z.symm
      simp [this, e']
theorem flats_n (l : List Nm) : (l.map nD).all flatD = true := by rw [List.all_eq_true]; intro d hd; obtain ⟨x, _, rfl⟩ := List.mem_map.mp hd; rfl
theorem big_line : 1000000 ≤ sizeLine := by decide
section
variable {F : Fm} {X : Cx} {Γ : List Sl} {c : Cells} {P : Cells → Dt → Prop} {pos : Pos}
theorem ov_inN {x : Nm} {l : List Nm} (p : P c (.bl (decide (x ∈ l)))) : OpV F X Γ c (compareOp .In) (nD x) (nL l) P := ov_in rfl rfl (flats_n l) (by rw [inD_n]; exact p)
theorem ov_inNT {x : Nm} {l : List Nm} (p : P c (.bl (decide (x ∈ l)))) : OpV F X Γ c (compareOp .In) (nD x) (nT l) P := ov_in rfl rfl (flats_n l) (by rw [inD_n]; exact p)
theorem ov_ninN {x : Nm} {l : List Nm} (p : P c (.bl (!decide (x ∈ l)))) : OpV F X Γ c (compareOp .NotIn) (nD x) (nL l) P := ov_notIn rfl rfl (flats_n l) (by rw [inD_n]; exact p)
theorem ov_ninNT {x : Nm} {l : List Nm} (p : P c (.bl (!decide (x ∈ l)))) : OpV F X Γ c (compareOp .NotIn) (nD x) (nT l) P := ov_notIn rfl rfl (flats_n l) (by rw [inD_n]; exact p)
theorem nm_eq (a b : Nm) : decide (a.1 = b.1) = decide (a = b) := by
  by_cases h : a = b
  · subst h; simp
  · have : a.1 ≠ b.1 := fun z => h (Subtype.ext z)
    simp [h, this]
theorem ov_eqN {a b : Nm} (p : P c (.bl (decide (a = b)))) : OpV F X Γ c (compareOp .Eq) (nD a) (nD b) P := ov_eqS (by rw [nm_eq]; exact p)
theorem ov_neN {a b : Nm} (p : P c (.bl (!decide (a = b)))) : OpV F X Γ c (compareOp .NotEq) (nD a) (nD b) P := ov_neS (by rw [nm_eq]; exact p)
theorem isE_map {α β : Type} (f : α → β) (l : List α) : (l.map f).isEmpty = l.isEmpty := by cases l <;> rfl
theorem ov_neNil {α : Type} {f : α → Dt} {l : List α} (hu : X.A.units + 64 < cLine) (hf : Fit 64 (.lst (l.map f))) (p : P c (.bl (!l.isEmpty))) : OpV F X Γ c (compareOp .NotEq) (.lst (l.map f)) (.lst []) P :=
  ov_neD hu hf (fit_lst fun _ h => nomatch h) (by rw [eqd_lst_nil, isE_map]; exact p)
theorem ov_eqNil {α : Type} {f : α → Dt} {l : List α} (hu : X.A.units + 64 < cLine) (hf : Fit 64 (.lst (l.map f))) (p : P c (.bl l.isEmpty)) : OpV F X Γ c (compareOp .Eq) (.lst (l.map f)) (.lst []) P :=
  ov_eqD hu hf (fit_lst fun _ h => nomatch h) (by rw [eqd_lst_nil, isE_map]; exact p)
theorem sv_fromL {α : Type} {f : α → Dt} {l : List α} {k : Int} (h : 0 ≤ k) (p : P c (.lst ((l.drop k.toNat).map f))) : SlV F X Γ c (some k) none (.lst (l.map f)) P := sv_lst (by rw [cutD_from _ h, ← List.map_drop]; exact p)
theorem sv_fromT {α : Type} {f : α → Dt} {l : List α} {k : Int} (h : 0 ≤ k) (p : P c (.tup ((l.drop k.toNat).map f))) : SlV F X Γ c (some k) none (.tup (l.map f)) P := sv_tup (by rw [cutD_from _ h, ← List.map_drop]; exact p)
theorem sv_toL {α : Type} {f : α → Dt} {l : List α} {k : Int} (h : 0 ≤ k) (p : P c (.lst ((l.take k.toNat).map f))) : SlV F X Γ c none (some k) (.lst (l.map f)) P := sv_lst (by rw [cutD_to _ h, ← List.map_take]; exact p)
theorem sv_toT {α : Type} {f : α → Dt} {l : List α} {k : Int} (h : 0 ≤ k) (p : P c (.tup ((l.take k.toNat).map f))) : SlV F X Γ c none (some k) (.tup (l.map f)) P := sv_tup (by rw [cutD_to _ h, ← List.map_take]; exact p)
theorem iv_cons {d : Dt} {l : List Dt} (p : P c d) : IxV F X Γ c (.lst (d :: l)) (.int 0) P := iv_lst (by simp [atI, ixN]) p
theorem iv_consT {d : Dt} {l : List Dt} (p : P c d) : IxV F X Γ c (.tup (d :: l)) (.int 0) P := iv_tup (by simp [atI, ixN]) p
theorem any_map {α : Type} (l : List α) (q : α → Bool) : ((l.map q).any id) = l.any q := by rw [List.any_map]; rfl
theorem all_map {α : Type} (l : List α) (q : α → Bool) : ((l.map q).all id) = l.all q := by rw [List.all_map]; rfl
theorem cv_anyM {α : Type} {l : List α} {q : α → Bool} (hc : X.calm = true) (p : P c (.bl (l.any q))) : ClV F X Γ c (.builtin "any") [.lst (l.map fun x => .bl (q x))] P := by
  have := cv_any (F := F) (Γ := Γ) (c := c) (P := P) (bs := l.map q) hc (by rw [any_map]; exact p)
  rw [List.map_map] at this
  exact this
theorem cv_allM {α : Type} {l : List α} {q : α → Bool} (hc : X.calm = true) (p : P c (.bl (l.all q))) : ClV F X Γ c (.builtin "all") [.lst (l.map fun x => .bl (q x))] P := by
  have := cv_all (F := F) (Γ := Γ) (c := c) (P := P) (bs := l.map q) hc (by rw [all_map]; exact p)
  rw [List.map_map] at this
  exact this
variable {vs : List Nat} {Pl : Cells → List Dt → Prop}
theorem map_t {α : Type} {elt tg : Expr} {scope : Scope} {enc : α → Dt} {l : List α} (g : α → Dt) (hz : l.length ≤ sizeLine)
    (turn : ∀ r, r ∈ l → Turn0 X Γ scope vs tg elt (enc r) c fun c2 y => c2 = c ∧ y = g r) (p : Pl c (l.map g)) :
    (l.map enc).length ≤ sizeLine ∧ ∃ Jv : Nat → Cells → List Dt → Prop, Jv 0 c [] ∧ (∀ i d c' acc, (l.map enc)[i]? = some d → Jv i c' acc → Turn0 X Γ scope vs tg elt d c' fun c2 y => Jv (i + 1) c2 (acc ++ [y])) ∧ ∀ c' acc, Jv (l.map enc).length c' acc → Pl c' acc := by
  refine ⟨by rw [List.length_map]; exact hz, fun i c' acc => c' = c ∧ acc = (l.take i).map g, ⟨rfl, by simp⟩, ?_, ?_⟩
  · rintro i d c' acc hd ⟨rfl, rfl⟩ F' s0 H0 C cl fp
    refine .mk fun σ H v Q S dv k => ?_
    rw [List.getElem?_map] at hd
    obtain ⟨r, hr, rfl⟩ := Option.map_eq_some_iff.mp hd
    refine turn r (List.mem_of_getElem? hr) F' s0 H0 C cl fp σ H v Q S dv fun Γ2 σ2 q S2 w => k Γ2 σ2 ?_ S2 w
    intro s0 H0 C cl fp
    refine (q s0 H0 C cl fp).mono ?_
    rintro c2 y ⟨rfl, rfl⟩
    refine ⟨rfl, ?_⟩
    rw [List.take_add_one, hr, List.map_append]
    rfl
  · rintro c' acc ⟨rfl, rfl⟩
    rw [List.length_map, List.take_length]
    exact p
theorem filter_t {α : Type} {elt t tg : Expr} {scope : Scope} {enc : α → Dt} {l : List α} (q : α → Bool) (g : α → Dt) (hz : l.length ≤ sizeLine)
    (turn : ∀ r, r ∈ l → Turn1 X Γ scope vs tg t elt (enc r) c (fun c2 y => q r = true ∧ c2 = c ∧ y = g r) fun c2 => c2 = c ∧ q r = false) (p : Pl c ((l.filter q).map g)) :
    (l.map enc).length ≤ sizeLine ∧ ∃ Jv : Nat → Cells → List Dt → Prop, Jv 0 c [] ∧ (∀ i d c' acc, (l.map enc)[i]? = some d → Jv i c' acc → Turn1 X Γ scope vs tg t elt d c' (fun c2 y => Jv (i + 1) c2 (acc ++ [y])) fun c2 => Jv (i + 1) c2 acc) ∧ ∀ c' acc, Jv (l.map enc).length c' acc → Pl c' acc := by
  refine ⟨by rw [List.length_map]; exact hz, fun i c' acc => c' = c ∧ acc = ((l.take i).filter q).map g, ⟨rfl, by simp⟩, ?_, ?_⟩
  · rintro i d c' acc hd ⟨rfl, rfl⟩ F' s0 H0 C cl fp
    refine .mk fun σ H v Q S dv k => ?_
    rw [List.getElem?_map] at hd
    obtain ⟨r, hr, rfl⟩ := Option.map_eq_some_iff.mp hd
    have e : ((l.take (i + 1)).filter q).map g = ((l.take i).filter q).map g ++ (if q r = true then [g r] else []) := by
      rw [List.take_add_one, hr, List.filter_append, List.map_append]
      congr 1
      show ([r].filter q).map g = _
      cases hq : q r with
      | true => rw [List.filter_cons_of_pos hq]; rfl
      | false => rw [List.filter_cons_of_neg (by rw [hq]; exact Bool.false_ne_true)]; rfl
    refine turn r (List.mem_of_getElem? hr) F' s0 H0 C cl fp σ H v Q S dv fun Γ2 σ2 z S2 w => k Γ2 σ2 ?_ S2 w
    intro s0 H0 C cl fp
    refine (z s0 H0 C cl fp).mono ?_
    intro c2 b hb
    cases b with
    | true =>
      rw [if_pos rfl] at hb
      rw [if_pos rfl]
      intro s0 H0 C cl fp
      refine SE.mono (hb s0 H0 C cl fp) ?_
      rintro c3 y ⟨hq, rfl, rfl⟩
      exact ⟨rfl, by rw [e, hq]; rfl⟩
    | false =>
      obtain ⟨rfl, hq⟩ := hb
      refine ⟨rfl, ?_⟩
      rw [e, hq]
      simp
  · rintro c' acc ⟨rfl, rfl⟩
    rw [List.length_map, List.take_length]
    exact p
/-- the end of a test in a filter: both ways at once -/
theorem filt_end {b : Bool} {A : Prop} {B : Prop} (h1 : b = true → A) (h2 : b = false → B) : if b = true then A else B := by
  cases b with
  | true => exact h1 rfl
  | false => exact h2 rfl
end
end D
end
section
set_option Elab.async false
set_option linter.all false
set_option maxRecDepth 100000
namespace D
open PySem L2 PyProof.Rows
section
variable {F : Fm} {X : Cx} {Γ : List Sl} {c c1 : Cells} {Φ : PEnds} {tg : Expr}
/-- a for over typed data: J tells of what is left -/
theorem for_t {α : Type} {enc : α → Dt} {l : List α} {body : List Stmt} (J : List α → List Sl → Cells → Prop) (h0 : J l Γ c1)
    (turn : ∀ pre r rest Γ' c', l = pre ++ r :: rest → J (r :: rest) Γ' c' → SG F X Γ' c' tg (enc r) fun Γ2 => SS F X Γ2 c' body { Φ with nx := J rest, ct := J rest, bk := Φ.nx })
    (done : ∀ Γ' c', J [] Γ' c' → Φ.nx Γ' c') :
    ∃ J : Nat → List Sl → Cells → Prop, J 0 Γ c1 ∧ (∀ i d Γ' c', (l.map enc)[i]? = some d → J i Γ' c' → SG F X Γ' c' tg d fun Γ2 => SS F X Γ2 c' body { Φ with nx := J (i + 1), ct := J (i + 1), bk := Φ.nx }) ∧ ∀ Γ' c', J (l.map enc).length Γ' c' → Φ.nx Γ' c' := by
  refine ⟨fun i => J (l.drop i), h0, fun i d Γ' c' hd hj => ?_, fun Γ' c' hj => done Γ' c' (by have hj : J (l.drop (l.map enc).length) Γ' c' := hj; rw [List.length_map, List.drop_length] at hj; exact hj)⟩
  rw [List.getElem?_map] at hd
  obtain ⟨r, hr, rfl⟩ := Option.map_eq_some_iff.mp hd
  have hl : i < l.length := (List.getElem?_eq_some_iff.mp hr).1
  have he : l.drop i = r :: l.drop (i + 1) := by
    rw [List.drop_eq_getElem_cons hl, (List.getElem?_eq_some_iff.mp hr).2]
  have hj : J (l.drop i) Γ' c' := hj
  rw [he] at hj
  exact turn (l.take i) r (l.drop (i + 1)) Γ' c' (by rw [← he, List.take_append_drop]) hj
end
def ixOf : List Str → Str → Nat
  | [], _ => 0
  | n :: N, x => if n == x then 0 else ixOf N x + 1
def ownOf (N : List Str) : Expr → List (Str × Nat)
  | .Name x _ => [(x, ixOf N x)]
  | .Tuple [.Name x _, .Name y _] _ _ => [(x, ixOf N x), (y, ixOf N y)]
  | _ => []
section
variable {F : Fm} {X : Cx} {Γ : List Sl} {c c1 : Cells} {P : Cells → Dt → Prop} {pos : Pos}
/-- what a map's turns give -/
def LcM (X : Cx) (Γ : List Sl) (scope : Scope) (vs : List Nat) (tg elt : Expr) (c1 : Cells) (ds : List Dt) (Q : List Dt → Prop) : Prop :=
  ∃ (α : Type) (enc : α → Dt) (l : List α) (g : α → Dt), ds = l.map enc ∧ l.length ≤ sizeLine ∧ (∀ r, r ∈ l → Turn0 X Γ scope vs tg elt (enc r) c1 fun c2 y => c2 = c1 ∧ y = g r) ∧ Q (l.map g)
def LcF (X : Cx) (Γ : List Sl) (scope : Scope) (vs : List Nat) (tg t elt : Expr) (c1 : Cells) (ds : List Dt) (Q : List Dt → Prop) : Prop :=
  ∃ (α : Type) (enc : α → Dt) (l : List α) (q : α → Bool) (g : α → Dt), ds = l.map enc ∧ l.length ≤ sizeLine ∧ (∀ r, r ∈ l → Turn1 X Γ scope vs tg t elt (enc r) c1 (fun c2 y => q r = true ∧ c2 = c1 ∧ y = g r) fun c2 => c2 = c1 ∧ q r = false) ∧ Q ((l.filter q).map g)
theorem lcM {α : Type} {enc : α → Dt} {l : List α} {scope : Scope} {vs : List Nat} {tg elt : Expr} {Q : List Dt → Prop} (g : α → Dt) (hz : l.length ≤ sizeLine) (turn : ∀ r, r ∈ l → Turn0 X Γ scope vs tg elt (enc r) c1 fun c2 y => c2 = c1 ∧ y = g r) (p : Q (l.map g)) : LcM X Γ scope vs tg elt c1 (l.map enc) Q :=
  ⟨α, enc, l, g, rfl, hz, turn, p⟩
theorem lcF {α : Type} {enc : α → Dt} {l : List α} {scope : Scope} {vs : List Nat} {tg t elt : Expr} {Q : List Dt → Prop} (q : α → Bool) (g : α → Dt) (hz : l.length ≤ sizeLine) (turn : ∀ r, r ∈ l → Turn1 X Γ scope vs tg t elt (enc r) c1 (fun c2 y => q r = true ∧ c2 = c1 ∧ y = g r) fun c2 => c2 = c1 ∧ q r = false) (p : Q ((l.filter q).map g)) : LcF X Γ scope vs tg t elt c1 (l.map enc) Q :=
  ⟨α, enc, l, q, g, rfl, hz, turn, p⟩
theorem sel_M {elt tg iter : Expr} {scope : Scope} {Pl : Cells → List Dt → Prop} (hc : X.calm = true) (hN : X.N.Nodup) (ok : BlkOk X.N X.env.scope scope (ownOf X.N tg))
    (h : SW F X Γ c tg iter fun c1 ds => LcM X Γ scope ((ownOf X.N tg).map (·.2)) tg elt c1 ds (Pl c1)) (hfs : ∀ x, foldedSetIterable iter X.env x = pure x := by intro _; rfl) : SEL F X Γ c (.ListComp elt [⟨tg, iter, [], 0⟩] scope pos) Pl :=
  sel_lc _ hc hN ok (.mk fun σ H R S k => h σ H R S fun J H' c' ds p S' => k J H' c' ds (by
    obtain ⟨α, enc, l, g, rfl, hz, turn, p⟩ := p
    exact map_t g hz turn p) S') hfs
theorem sel_F {elt tg iter t : Expr} {scope : Scope} {Pl : Cells → List Dt → Prop} (hc : X.calm = true) (hN : X.N.Nodup) (ok : BlkOk X.N X.env.scope scope (ownOf X.N tg))
    (h : SW F X Γ c tg iter fun c1 ds => LcF X Γ scope ((ownOf X.N tg).map (·.2)) tg t elt c1 ds (Pl c1)) (hfs : ∀ x, foldedSetIterable iter X.env x = pure x := by intro _; rfl) : SEL F X Γ c (.ListComp elt [⟨tg, iter, [t], 0⟩] scope pos) Pl :=
  sel_lcIf _ hc hN ok (.mk fun σ H R S k => h σ H R S fun J H' c' ds p S' => k J H' c' ds (by
    obtain ⟨α, enc, l, q, g, rfl, hz, turn, p⟩ := p
    exact filter_t q g hz turn p) S') hfs
theorem se_M {elt tg iter : Expr} {scope : Scope} (hc : X.calm = true) (hN : X.N.Nodup) (ok : BlkOk X.N X.env.scope scope (ownOf X.N tg))
    (h : SW F X Γ c tg iter fun c1 ds => LcM X Γ scope ((ownOf X.N tg).map (·.2)) tg elt c1 ds fun z => P c1 (.lst z)) (hfs : ∀ x, foldedSetIterable iter X.env x = pure x := by intro _; rfl) : SE F X Γ c (.ListComp elt [⟨tg, iter, [], 0⟩] scope pos) P := SEL.se (sel_M hc hN ok h hfs)
theorem se_F {elt tg iter t : Expr} {scope : Scope} (hc : X.calm = true) (hN : X.N.Nodup) (ok : BlkOk X.N X.env.scope scope (ownOf X.N tg))
    (h : SW F X Γ c tg iter fun c1 ds => LcF X Γ scope ((ownOf X.N tg).map (·.2)) tg t elt c1 ds fun z => P c1 (.lst z)) (hfs : ∀ x, foldedSetIterable iter X.env x = pure x := by intro _; rfl) : SE F X Γ c (.ListComp elt [⟨tg, iter, [t], 0⟩] scope pos) P := SEL.se (sel_F hc hN ok h hfs)
theorem se_any {p : Pos} {e : Expr} {es : List Expr} (hm : X.mg "any" = none) (h : SA F X Γ c (e :: es) fun c1 ds => ClV F X Γ c1 (.builtin "any") ds P) (hg : Gl X "any" := by rfl) (he : starEach (e :: es) X.env = (false, eval e X.env) :: starEach es X.env := by rfl) (hpl : (backTo pos (starEach es X.env)).any (·.1) = false := by rfl) : SE F X Γ c (.Call (.Name "any" p) (e :: es) [] pos) P := se_callB (id := "any") hm h (by decide +kernel) hg (by decide) (by decide) he hpl
theorem se_all {p : Pos} {e : Expr} {es : List Expr} (hm : X.mg "all" = none) (h : SA F X Γ c (e :: es) fun c1 ds => ClV F X Γ c1 (.builtin "all") ds P) (hg : Gl X "all" := by rfl) (he : starEach (e :: es) X.env = (false, eval e X.env) :: starEach es X.env := by rfl) (hpl : (backTo pos (starEach es X.env)).any (·.1) = false := by rfl) : SE F X Γ c (.Call (.Name "all" p) (e :: es) [] pos) P := se_callB (id := "all") hm h (by decide +kernel) hg (by decide) (by decide) he hpl
theorem se_len {p : Pos} {e : Expr} {es : List Expr} (hm : X.mg "len" = none) (h : SA F X Γ c (e :: es) fun c1 ds => ClV F X Γ c1 (.builtin "len") ds P) (hg : Gl X "len" := by rfl) (he : starEach (e :: es) X.env = (false, eval e X.env) :: starEach es X.env := by rfl) (hpl : (backTo pos (starEach es X.env)).any (·.1) = false := by rfl) : SE F X Γ c (.Call (.Name "len" p) (e :: es) [] pos) P := se_callB (id := "len") hm h (by decide +kernel) hg (by decide) (by decide) he hpl
theorem se_min {p : Pos} {e : Expr} {es : List Expr} (hm : X.mg "min" = none) (h : SA F X Γ c (e :: es) fun c1 ds => ClV F X Γ c1 (.builtin "min") ds P) (hg : Gl X "min" := by rfl) (he : starEach (e :: es) X.env = (false, eval e X.env) :: starEach es X.env := by rfl) (hpl : (backTo pos (starEach es X.env)).any (·.1) = false := by rfl) : SE F X Γ c (.Call (.Name "min" p) (e :: es) [] pos) P := se_callB (id := "min") hm h (by decide +kernel) hg (by decide) (by decide) he hpl
theorem se_max {p : Pos} {e : Expr} {es : List Expr} (hm : X.mg "max" = none) (h : SA F X Γ c (e :: es) fun c1 ds => ClV F X Γ c1 (.builtin "max") ds P) (hg : Gl X "max" := by rfl) (he : starEach (e :: es) X.env = (false, eval e X.env) :: starEach es X.env := by rfl) (hpl : (backTo pos (starEach es X.env)).any (·.1) = false := by rfl) : SE F X Γ c (.Call (.Name "max" p) (e :: es) [] pos) P := se_callB (id := "max") hm h (by decide +kernel) hg (by decide) (by decide) he hpl
theorem se_sorted {p : Pos} {e : Expr} {es : List Expr} (hm : X.mg "sorted" = none) (h : SA F X Γ c (e :: es) fun c1 ds => ClV F X Γ c1 (.builtin "sorted") ds P) (hg : Gl X "sorted" := by rfl) (he : starEach (e :: es) X.env = (false, eval e X.env) :: starEach es X.env := by rfl) (hpl : (backTo pos (starEach es X.env)).any (·.1) = false := by rfl) : SE F X Γ c (.Call (.Name "sorted" p) (e :: es) [] pos) P := se_callB (id := "sorted") hm h (by decide +kernel) hg (by decide) (by decide) he hpl
theorem se_isi {p : Pos} {e : Expr} {es : List Expr} (hm : X.mg "isinstance" = none) (h : SA F X Γ c (e :: es) fun c1 ds => ClV F X Γ c1 (.builtin "isinstance") ds P) (hg : Gl X "isinstance" := by rfl) (he : starEach (e :: es) X.env = (false, eval e X.env) :: starEach es X.env := by rfl) (hpl : (backTo pos (starEach es X.env)).any (·.1) = false := by rfl) : SE F X Γ c (.Call (.Name "isinstance" p) (e :: es) [] pos) P := se_callB (id := "isinstance") hm h (by decide +kernel) hg (by decide) (by decide) he hpl
theorem se_abs {p : Pos} {e : Expr} {es : List Expr} (hm : X.mg "abs" = none) (h : SA F X Γ c (e :: es) fun c1 ds => ClV F X Γ c1 (.builtin "abs") ds P) (hg : Gl X "abs" := by rfl) (he : starEach (e :: es) X.env = (false, eval e X.env) :: starEach es X.env := by rfl) (hpl : (backTo pos (starEach es X.env)).any (·.1) = false := by rfl) : SE F X Γ c (.Call (.Name "abs" p) (e :: es) [] pos) P := se_callB (id := "abs") hm h (by decide +kernel) hg (by decide) (by decide) he hpl
theorem se_sum {p : Pos} {e : Expr} {es : List Expr} (hm : X.mg "sum" = none) (h : SA F X Γ c (e :: es) fun c1 ds => ClV F X Γ c1 (.builtin "sum") ds P) (hg : Gl X "sum" := by rfl) (he : starEach (e :: es) X.env = (false, eval e X.env) :: starEach es X.env := by rfl) (hpl : (backTo pos (starEach es X.env)).any (·.1) = false := by rfl) : SE F X Γ c (.Call (.Name "sum" p) (e :: es) [] pos) P := se_callB (id := "sum") hm h (by decide +kernel) hg (by decide) (by decide) he hpl
theorem se_tupleC {p : Pos} {e : Expr} {es : List Expr} (hm : X.mg "tuple" = none) (h : SA F X Γ c (e :: es) fun c1 ds => ClV F X Γ c1 (.type "tuple") ds P) (hg : Gl X "tuple" := by rfl) (he : starEach (e :: es) X.env = (false, eval e X.env) :: starEach es X.env := by rfl) (hpl : (backTo pos (starEach es X.env)).any (·.1) = false := by rfl) : SE F X Γ c (.Call (.Name "tuple" p) (e :: es) [] pos) P := se_callT (id := "tuple") hm h (by decide +kernel) hg (by decide) (by decide) he hpl
theorem se_listC {p : Pos} {e : Expr} {es : List Expr} (hm : X.mg "list" = none) (h : SA F X Γ c (e :: es) fun c1 ds => ClV F X Γ c1 (.type "list") ds P) (hg : Gl X "list" := by rfl) (he : starEach (e :: es) X.env = (false, eval e X.env) :: starEach es X.env := by rfl) (hpl : (backTo pos (starEach es X.env)).any (·.1) = false := by rfl) : SE F X Γ c (.Call (.Name "list" p) (e :: es) [] pos) P := se_callT (id := "list") hm h (by decide +kernel) hg (by decide) (by decide) he hpl
end
section
variable {F : Fm} {X : Cx} {Γ : List Sl} {c c1 : Cells} {P : Cells → Dt → Prop} {pos : Pos} {vs : List Nat}
theorem sg_nm {x : Str} {d : Dt} {N : List Sl → Prop} (hN : X.N.Nodup) (p : N (Γ.set (ixOf X.N x) (.dat d))) (hi : X.N[ixOf X.N x]? = some x := by rfl) (hx : Loc X.env.scope x := by first | exact Or.inl rfl | exact Or.inr rfl)
    (hf : X.fn x = true ∨ X.env.scope.names.lookup x = some .local := by first | exact .inl rfl | exact .inr rfl) : SG F X Γ c (.Name x pos) d N := sg_name _ hN p hi hx hf
theorem sgb_nm {x : Str} {d : Dt} {N : List Sl → Prop} (hN : X.N.Nodup) (p : N (Γ.set (ixOf X.N x) (.dat d))) (hv : ixOf X.N x ∈ vs := by decide) (hi : X.N[ixOf X.N x]? = some x := by rfl) (hx : Loc X.env.scope x := by first | exact Or.inl rfl | exact Or.inr rfl)
    (hf : X.fn x = true ∨ X.env.scope.names.lookup x = some .local := by first | exact .inl rfl | exact .inr rfl) : SGb F X Γ c vs (.Name x pos) d N := sgb_name _ hN p hv hi hx hf
theorem vs_self {n : Nat} : n ∈ [n] := List.mem_singleton.mpr rfl
theorem vs_one {n m : Nat} : n ∈ [n, m] := List.mem_cons_self ..
theorem vs_two {n m : Nat} : m ∈ [n, m] := List.mem_cons_of_mem _ (List.mem_singleton.mpr rfl)
end
theorem abI {X : Cx} {scope : Scope} {φ : Cx → Prop} (h : ∀ (s0 : Shared) (H0 : Hp) (C : Addr) (cl : List (Str × Addr)) (fp : List Addr), φ (blk X scope s0 H0 C cl fp)) : AB X scope φ := h
theorem turn0I {X : Cx} {Γ : List Sl} {scope : Scope} {vs : List Nat} {tg elt : Expr} {d : Dt} {c' : Cells} {N : Cells → Dt → Prop} (h : ∀ (F' : Fm) (s0 : Shared) (H0 : Hp) (C : Addr) (cl : List (Str × Addr)) (fp : List Addr), SGb F' (blk X scope s0 H0 C cl fp) (wipeG Γ vs) c' vs tg d fun Γ2 => AB X scope fun Y => SE F' Y Γ2 c' elt N) : Turn0 X Γ scope vs tg elt d c' N := h
theorem turn1I {X : Cx} {Γ : List Sl} {scope : Scope} {vs : List Nat} {tg t elt : Expr} {d : Dt} {c' : Cells} {N : Cells → Dt → Prop} {N0 : Cells → Prop} (h : ∀ (F' : Fm) (s0 : Shared) (H0 : Hp) (C : Addr) (cl : List (Str × Addr)) (fp : List Addr), SGb F' (blk X scope s0 H0 C cl fp) (wipeG Γ vs) c' vs tg d fun Γ2 => AB X scope fun Y => ST F' Y Γ2 c' t fun c2 b => if b = true then AB X scope fun Y => SE F' Y Γ2 c2 elt N else N0 c2) : Turn1 X Γ scope vs tg t elt d c' N N0 := h
end D
end
section
set_option Elab.async false
set_option linter.all false
set_option maxRecDepth 100000
namespace D
open PySem L2 PyProof.Rows PyProof
theorem noI_tup : typeLookup (.type "tuple") (dunderI "add") = pure none := by rfl
section
variable {prog : Program} {w : World} {A : Around} {s : Shared} {E : Value → Shared → Prop}
theorem icat_tup {t b : Addr} {vs ws : List Value} {Q : Value → Shared → Prop} (ht : IsTup s.heap t vs.toArray) (hb : IsTup s.heap b ws.toArray)
    (h0 : vs = [] → Q (.ref b) s) (h1 : vs ≠ [] → ws = [] → Q (.ref t) s) (h2 : vs ≠ [] → ws ≠ [] → Q (.ref s.heap.objs.size) { s with heap := s.heap.push { cls := .type "tuple", data := .seq (vs ++ ws).toArray } })
    (hsz : vs.length + ws.length ≤ sizeLine) : wpAny (model prog w) A (inplaceOp .Add (.ref t) (.ref b)) Q E s := by
  obtain ⟨⟨cls, dd, data, sl⟩, ho, hc, n, hd⟩ := id ht
  obtain ⟨⟨cls2, dd2, data2, sl2⟩, ho2, hc2, n2, hd2⟩ := id hb
  simp only at hc hd hc2 hd2
  subst hc hd hc2 hd2
  have e : vs.toArray ++ ws.toArray = (vs ++ ws).toArray := by simp
  refine wpAny_inplaceOp_concat ⟨_, ho, rfl⟩ ⟨_, ho2, rfl⟩ noI_tup noFill_tuple_add seq_tuple_add ?_
  by_cases hv : vs = []
  · exact call_meets PySem.F.slot_tuple_add ⟨_, ho, rfl⟩ PySem.F.entry_tuple_add (PySem.F.args_tuple_add_2 _ _) (tuple_addW0 t b vs.toArray ws.toArray n n2 dd dd2 sl sl2 (by simp [hv])) ⟨ho, ho2, h0 hv⟩
  by_cases hw : ws = []
  · exact call_meets PySem.F.slot_tuple_add ⟨_, ho, rfl⟩ PySem.F.entry_tuple_add (PySem.F.args_tuple_add_2 _ _) (tuple_addW1 t b vs.toArray ws.toArray n n2 dd dd2 sl sl2 (by simpa using hv) (by simp [hw])) ⟨ho, ho2, h1 hv hw⟩
  · refine call_meets PySem.F.slot_tuple_add ⟨_, ho, rfl⟩ PySem.F.entry_tuple_add (PySem.F.args_tuple_add_2 _ _) (tuple_addW2 t b vs.toArray ws.toArray n n2 dd dd2 sl sl2 (by simpa using hv) (by simpa using hw) (by rw [List.size_toArray, List.size_toArray]; exact hsz)) ⟨ho, ho2, ?_⟩
    rw [e]
    exact h2 hv hw
end
section
variable {X : Cx}
theorem iop_catA : OpR X (inplaceOp .Add) (rCatF X.K) := by
  intro pins s σ H x y v u Q I rx ry h
  obtain ⟨a, b, xs, ys, rfl, rfl, ha, hb, hz, q0, q1, q2⟩ := h
  cases rx
  cases ry
  obtain ⟨its, r1, p1, _⟩ := I.tuple ha
  obtain ⟨its2, r2, p2, _⟩ := I.tuple hb
  refine icat_tup p1 p2 (fun z => ⟨.ref b, H, I, rfl, q0 (r1.nil_iff.mp z)⟩) (fun z z2 => ⟨.ref a, H, I, rfl, q1 (fun w => z (r1.nil_iff.mpr w)) (r2.nil_iff.mp z2)⟩) (fun z1 z => ?_) (by rw [← r1.length, ← r2.length]; exact hz)
  obtain ⟨o, ho, I2⟩ := laidF (t' := s.toks) (h' := s.heap) (xs := xs ++ ys) (us := its ++ its2) I (fun b u e => Heap.get?_push_of_some _ e) (Nat.le_refl _) (by rw [List.length_append]; exact hz) (r1.append r2)
  exact ⟨.ref s.heap.objs.size, _, I2, rfl, q2 (fun w => z1 (r1.nil_iff.mpr w)) (fun w => z (r2.nil_iff.mpr w)) _ o (I.hok.fresh (Nat.le_refl _)) ho⟩
end
section
variable {X : Cx} {tg : Expr}
def iSeq (K : PySem.W.Frag) (tl : TE) : TI := fun σ H R => tl σ H fun x H1 => (∃ a, x = .ref a ∧ (((∃ xs, SqL K H1 a xs) ∧ R (Itl K a) H1) ∨ ((∃ xs, SqT K H1 a xs) ∧ R (Itt K a) H1) ∨ ∃ o kvs, H1 a = some (.frz o (.dK kvs)) ∧ R (Itk a o kvs) H1)) ∨ ∃ z, x = .str z ∧ R (Its z) H1
theorem pi_seq {l : Expr} {tl : TE} (hl : PE X l tl) : PI X tg l (iSeq X.K tl) := ⟨fun pn sa sg HH RR I h => by
  refine thn (hl.run pn sa sg HH _ I h) fun v sb ⟨x, Hb, Ib, rb, qb⟩ => ?_
  rcases qb with ⟨a, e, z⟩ | ⟨z, e, q⟩
  · subst e
    cases rb
    have fpk : ∀ b, b ∈ [sb.heap.objs.size] → _ := fun b hb => by
      obtain rfl : b = sb.heap.objs.size := List.mem_singleton.mp hb
      exact Ib.fpOk (Nat.le_refl _) (Ib.hok.fresh (Nat.le_refl _))
    rcases z with ⟨⟨xs, hq⟩, q⟩ | ⟨⟨xs, hq⟩, q⟩ | ⟨o, kvs, hd, q⟩
    · obtain ⟨its, rv, p, hz⟩ := Ib.list hq
      exact wpAny_pyIter_list p.isList ⟨sb.heap.objs.size, [sb.heap.objs.size], _, _, Hb, rfl, Ib.kept (t' := sb.toks) fun b o e => Heap.get?_push_of_some _ e, turn_list a _, ⟨_, Heap.get?_push_size _ rfl, rfl, rfl⟩, fpk, q⟩
    · obtain ⟨its, rv, p, hz⟩ := Ib.tuple hq
      exact wpAny_pyIter_tuple (show sb.heap.IsTuple a its.toArray from p) ⟨sb.heap.objs.size, [sb.heap.objs.size], _, _, Hb, rfl, Ib.kept (t' := sb.toks) fun b o e => Heap.get?_push_of_some _ e, turn_tuple a _, ⟨_, Heap.get?_push_size _ rfl, rfl, rfl⟩, fpk, q⟩
    · obtain ⟨g1, g2, g3, es, ep, us, g4, g5, kv, hm⟩ := Ib.frzK hd
      exact iter_keys g1 g2 g3 g4 (pi_one (tk := sb.toks) Ib _ (turn_keys _ g4) ⟨_, Heap.get?_push_size _ rfl, rfl, by rw [g5] <;> rfl⟩ q)
  · subst e
    obtain ⟨t, rfl⟩ := rb
    cases ha : z.cps.all (· < 128)
    · exact wpAny_pyIter_wide ha (pi_one (tk := sb.toks) Ib _ (turn_str _ z t "str_iterator" (.inr rfl)) ⟨_, Heap.get?_push_size _ rfl, rfl, rfl⟩ q)
    · exact wpAny_pyIter_ascii ha (pi_one (tk := sb.toks) Ib _ (turn_str _ z t "str_ascii_iterator" (.inl rfl)) ⟨_, Heap.get?_push_size _ rfl, rfl, rfl⟩ q)⟩
end
/-- what a walk over a datum gives -/
def iterD : Dt → Option (List Dt)
  | .lst l => some l
  | .tup l => some l
  | .dct l => some (keysD l)
  | .str z => some (signs z)
  | _ => none
section
variable {F : Fm} {X : Cx} {Γ : List Sl} {c : Cells} {P : Cells → Dt → Prop} {Φ : PEnds} {pos : Pos}
theorem oi_add {i j : Int} (p : P c (.int (i + j))) : OpV F X Γ c (inplaceOp .Add) (.int i) (.int j) P := OpV.ints0 iop_add (fun _ => .int _) p
theorem oi_catT {l m : List Dt} (hz : l.length + m.length ≤ sizeLine) (p : P c (.tup (l ++ m))) : OpV F X Γ c (inplaceOp .Add) (.tup l) (.tup m) P :=
  OpV.of iop_catA fun σ H x y Q S h1 h2 k => by
    cases h1 with
    | tup a1 t1 => cases h2 with
      | tup a2 t2 =>
        refine ⟨_, _, _, _, rfl, rfl, (a1.mono (mask_ex _ _)).t, (a2.mono (mask_ex _ _)).t, by rw [t1.length, t2.length]; exact hz, fun e => ?_, fun e1 e2 => ?_, fun e1 e2 q o hq ho => k _ _ c _ p (S.new hq) (Kp.new (F := F) hq).hid (S.newT hq ho (t1.append t2))⟩
        · subst e
          cases t1
          exact k _ H c _ p S (Ex.refl _) (.tup a2 t2)
        · subst e2
          cases t2
          rw [List.append_nil] at p
          exact k _ H c _ p S (Ex.refl _) (.tup a1 t1)
theorem s_aug {x : Str} {e : Expr} {op : Operator} {pos' : Pos} {d0 : Dt} (hN : X.N.Nodup) (hs : getG X.N Γ x = some (.dat d0)) (h : SE F X Γ c e fun c1 d => OpV F X Γ c1 (inplaceOp op) d0 d fun c2 z => Φ.nx (Γ.set (ixOf X.N x) (.dat z)) c2)
    (hi : X.N[ixOf X.N x]? = some x := by rfl) (hg : Γ[ixOf X.N x]? = some (.dat d0) := by rfl) (hx : Loc X.env.scope x := by first | exact Or.inl rfl | exact Or.inr rfl) (hf : X.fn x = true ∨ X.env.scope.names.lookup x = some .local := by first | exact .inl rfl | exact .inr rfl) : S1 F X Γ c (.AugAssign (.Name x pos') op e pos) Φ :=
  S1.of (ps_aug (i := ixOf X.N x) (ti := rOp X (inplaceOp op)) hN hi hx pE opR hf) fun σ H D S E => by
    obtain ⟨v, h1, h2⟩ := S.sl _ _ hg
    refine ⟨v, h1, h σ H _ S fun w H1 c1 d q S1 e1 dv => ?_⟩
    obtain ⟨x, y, e2, r⟩ := q σ H1 [v, w] (fun z H2 => D.nx (σ.set (ixOf X.N x) (some z)) H2) S1 (.cons (h2.mono e1) (.cons dv .nil)) fun z H2 c2 d2 p S2 k2 dv2 => E.nx _ c2 _ H2 p (S2.setD dv2) (e1.trans k2)
    cases e2
    exact r
/-- x = e, by the name -/
theorem s_st {x : Str} {px : Pos} {e : Expr} (hN : X.N.Nodup) (h : SE F X Γ c e fun c1 d => Φ.nx (Γ.set (ixOf X.N x) (.dat d)) c1) (hi : X.N[ixOf X.N x]? = some x := by rfl) (hx : Loc X.env.scope x := by first | exact Or.inl rfl | exact Or.inr rfl)
    (hf : X.fn x = true ∨ X.env.scope.names.lookup x = some .local := by first | exact .inl rfl | exact .inr rfl) (hs : swapsWithSole [.Name x px] e pos.line X.env = pure false := by rfl) (hw : swappedStores [.Name x px] e X.env = pure none := by rfl) : S1 F X Γ c (.Assign [.Name x px] e pos) Φ :=
  s_asg (SE.mono h fun c1 d p => sg_name _ hN p hi hx hf) hs hw
theorem s_M {x : Str} {px lpos : Pos} {elt tg iter : Expr} {scope : Scope} (hc : X.calm = true) (hN : X.N.Nodup) (ok : BlkOk X.N X.env.scope scope (ownOf X.N tg))
    (h : SW F X Γ c tg iter fun c1 ds => LcM X Γ scope ((ownOf X.N tg).map (·.2)) tg elt c1 ds fun z => Φ.nx (Γ.set (ixOf X.N x) (.dat (.lst z))) c1)
    (hsw : swapsWith (.ListComp elt [⟨tg, iter, [], 0⟩] scope lpos) (some (.Name x px)) pos.line X.env = pure true := by exact sw_true rfl rfl rfl (by decide +kernel)) (hy : X.N[ixOf X.N x]? = some x := by rfl) (hyl : X.env.scope.names.lookup x = some .local := by rfl) (hfs : ∀ x, foldedSetIterable iter X.env x = pure x := by intro _; rfl) : S1 F X Γ c (.Assign [.Name x px] (.ListComp elt [⟨tg, iter, [], 0⟩] scope lpos) pos) Φ :=
  s_setT _ (ps_lc _ _ hc hN ok hsw hy hyl hfs) (lct_lc (.mk fun σ H R S k => h σ H R S fun J H' c' ds p S' => k J H' c' ds (by
    obtain ⟨α, enc, l, g, rfl, hz, turn, p⟩ := p
    exact map_t (Pl := fun c1 z => Φ.nx (Γ.set (ixOf X.N x) (.dat (.lst z))) c1) g hz turn p) S'))
theorem s_F {x : Str} {px lpos : Pos} {elt tg iter t : Expr} {scope : Scope} (hc : X.calm = true) (hN : X.N.Nodup) (ok : BlkOk X.N X.env.scope scope (ownOf X.N tg))
    (h : SW F X Γ c tg iter fun c1 ds => LcF X Γ scope ((ownOf X.N tg).map (·.2)) tg t elt c1 ds fun z => Φ.nx (Γ.set (ixOf X.N x) (.dat (.lst z))) c1)
    (hsw : swapsWith (.ListComp elt [⟨tg, iter, [t], 0⟩] scope lpos) (some (.Name x px)) pos.line X.env = pure true := by exact sw_true rfl rfl rfl (by decide +kernel)) (hy : X.N[ixOf X.N x]? = some x := by rfl) (hyl : X.env.scope.names.lookup x = some .local := by rfl) (hfs : ∀ x, foldedSetIterable iter X.env x = pure x := by intro _; rfl) : S1 F X Γ c (.Assign [.Name x px] (.ListComp elt [⟨tg, iter, [t], 0⟩] scope lpos) pos) Φ :=
  s_setT _ (ps_lcIf _ _ hc hN ok hsw hy hyl hfs) (lct_lcIf (.mk fun σ H R S k => h σ H R S fun J H' c' ds p S' => k J H' c' ds (by
    obtain ⟨α, enc, l, q, g, rfl, hz, turn, p⟩ := p
    exact filter_t (Pl := fun c1 z => Φ.nx (Γ.set (ixOf X.N x) (.dat (.lst z))) c1) q g hz turn p) S'))
theorem sw_seq {tg e : Expr} {P : Cells → List Dt → Prop} (h : SE F X Γ c e fun c1 d => ∃ l, iterD d = some l ∧ P c1 l) : SW F X Γ c tg e P := .mk fun σ H R S k => by
  refine ⟨_, pi_seq pE, h σ H _ S fun v H1 c1 d p S1 k1 dv => ?_⟩
  obtain ⟨l, e, p⟩ := p
  cases dv with
  | lst a t => cases e; exact .inl ⟨_, rfl, .inl ⟨⟨_, .inl (.inl (of_mask a).2)⟩, k _ H1 c1 l p S1 k1 (src_at walk_list (fun H e => .inl (.inl (e _ _ a))) t)⟩⟩
  | tup a t => cases e; exact .inl ⟨_, rfl, .inr (.inl ⟨⟨_, (a.mono (mask_ex _ _)).t⟩, k _ H1 c1 l p S1 k1 (src_at walk_tup (fun H e => (a.mono e).t) t)⟩)⟩
  | dct a t =>
    cases e
    refine .inl ⟨_, rfl, .inr (.inr ⟨_, _, (of_mask a).2, k _ H1 c1 _ p S1 k1 ?_⟩)⟩
    have hl : (keysD _).length = _ := (List.length_map _).trans t.p.length.symm
    refine ⟨_, _, hl.symm ▸ walk_keys, fun H e => e _ _ a, fun i Ha x Hb hi y _ => ?_⟩
    obtain ⟨h1, key, v, h2, rfl⟩ := y
    obtain ⟨d, h3, _⟩ := t.p.get h2
    refine ⟨kD key, ?_, .inl ⟨h1, kD_dv key⟩⟩
    rw [keysD_eq, List.getElem?_map, h3]
    rfl
  | str z => cases e; exact .inr ⟨_, rfl, k _ H1 c1 _ p S1 k1 src_str⟩
  | _ => cases e
theorem ov_eqB {a b : Bool} (p : P c (.bl (decide (a = b)))) : OpV F X Γ c (compareOp .Eq) (.bl a) (.bl b) P := ov_eqF (v1 := .bl a) (v2 := .bl b) (fun _ _ h => dv_bl h) (fun _ _ h => dv_bl h) rfl (by
  rw [show decide (V.bl a = V.bl b) = decide (a = b) by cases a <;> cases b <;> rfl]; exact p)
theorem ov_neB {a b : Bool} (p : P c (.bl (!decide (a = b)))) : OpV F X Γ c (compareOp .NotEq) (.bl a) (.bl b) P := ov_neF (v1 := .bl a) (v2 := .bl b) (fun _ _ h => dv_bl h) (fun _ _ h => dv_bl h) rfl (by
  rw [show decide (V.bl a = V.bl b) = decide (a = b) by cases a <;> cases b <;> rfl]; exact p)
end
end D
end
section
set_option Elab.async false
set_option linter.all false
set_option maxRecDepth 100000
namespace D
open PySem L2 PyProof.Rows
section
variable {F : Fm} {X : Cx} {Γ : List Sl} {c : Cells} {P : Cells → Dt → Prop} {Φ : PEnds} {pos : Pos}
theorem SE.nd {e : Expr} (h : (addrs c).Nodup → SE F X Γ c e P) : SE F X Γ c e P := .mk fun σ H Q S k => h S.nd σ H Q S k
theorem SE.ndP {e : Expr} (h : SE F X Γ c e fun c1 d => (addrs c1).Nodup → P c1 d) : SE F X Γ c e P := .mk fun σ H Q S k => h σ H Q S fun v H' c' d p S' => k v H' c' d (p S'.nd) S'
theorem SS.nd {ss : List Stmt} (h : (addrs c).Nodup → SS F X Γ c ss Φ) : SS F X Γ c ss Φ := .mk fun σ H D S E => h S.nd σ H D S E
theorem dvk_repl {K : PySem.W.Frag} {V : Hp} {key : Key} {a : Addr} {d : Dt} {M2 : List (Key × Dt)} (dv : DV K V (.ref a) d) : ∀ {L1 : List (Key × Dt)} {xs : List (Key × L2.V)}, DVk K V xs (L1 ++ (key, .raw (.ref a)) :: M2) → DVk K V xs (L1 ++ (key, d) :: M2)
  | [], _, .cons (.raw _) t => .cons dv t
  | _ :: L1, _, .cons h t => .cons h (dvk_repl dv (L1 := L1) t)
theorem ss_frIn {A a : Addr} {key : Key} {T1 T2 l : List (Key × Dt)} {rest : Cells} {ss : List Stmt} (h : SS F X Γ ((A, .dk (T1 ++ (key, .dct l) :: T2)) :: rest) ss Φ) : SS F X Γ ((A, .dk (T1 ++ (key, .raw (.ref a)) :: T2)) :: (a, .dk l) :: rest) ss Φ := .mk fun σ H D S E => by
  obtain ⟨xs, h1, h2⟩ := S.frD (j := 1) rfl
  refine tSts_lock h1 True.intro fun od => ?_
  obtain ⟨S2, e2, dv⟩ := h2 od
  have S2 : SI X.K F Γ ((A, .dk (T1 ++ (key, .raw (.ref a)) :: T2)) :: rest) σ (upd H a (.frz od (.dK xs))) := S2
  have e2 : Ex (Vw F ((A, .dk (T1 ++ (key, .raw (.ref a)) :: T2)) :: (a, .dk l) :: rest) H) (Vw F ((A, .dk (T1 ++ (key, .raw (.ref a)) :: T2)) :: rest) (upd H a (.frz od (.dK xs)))) := e2
  have dv : DV X.K (Vw F ((A, .dk (T1 ++ (key, .raw (.ref a)) :: T2)) :: rest) (upd H a (.frz od (.dK xs)))) (.ref a) (.dct l) := dv
  obtain ⟨ys, g1, g2⟩ := S2.cat (j := 0) rfl
  obtain ⟨S3, e3⟩ := S2.chg (j := 0) (q' := .dk (T1 ++ (key, .dct l) :: T2)) (H' := upd H a (.frz od (.dK xs))) rfl rfl (fun _ _ => rfl) ⟨ys, g1, dvk_repl dv g2⟩
  exact h σ _ D S3 (E.ext (e2.trans e3))
theorem ss_frAll {τ : Type} {A : Addr} (key : τ → Key) (ad : τ → Addr) (inn : τ → List (Key × Dt)) {rest : Cells} {ss : List Stmt} : ∀ (T : List τ) (T1 : List (Key × Dt)), SS F X Γ ((A, .dk (T1 ++ T.map fun t => (key t, .dct (inn t)))) :: rest) ss Φ →
    SS F X Γ ((A, .dk (T1 ++ T.map fun t => (key t, .raw (.ref (ad t))))) :: (T.map (fun t => (ad t, Cel.dk (inn t))) ++ rest)) ss Φ
  | [], T1, h => h
  | t :: T, T1, h => by
    refine ss_frIn ?_
    have e1 : T1 ++ (key t, Dt.dct (inn t)) :: T.map (fun t => (key t, .raw (.ref (ad t)))) = (T1 ++ [(key t, .dct (inn t))]) ++ T.map (fun t => (key t, .raw (.ref (ad t)))) := by simp
    rw [e1]
    refine ss_frAll key ad inn T _ ?_
    rw [List.append_assoc]
    exact h
theorem take_out {τ : Type} {α : Type} (f : τ → Addr × α) : ∀ {T : List τ} {c : List (Addr × α)}, (∀ t ∈ T, f t ∈ c) → (T.map fun t => (f t).1).Nodup → ∃ rest, c.Perm (T.map f ++ rest)
  | [], c, _, _ => ⟨c, .refl _⟩
  | t :: T, c, h, nd => by
    obtain ⟨s1, s2, rfl⟩ := List.append_of_mem (h t (List.mem_cons_self ..))
    have nd' := List.nodup_cons.mp nd
    obtain ⟨rest, hr⟩ := take_out f (T := T) (c := s1 ++ s2) (fun u hu => by
      have := h u (List.mem_cons_of_mem _ hu)
      have ne : f u ≠ f t := fun e => nd'.1 (by
        show (f t).1 ∈ _
        rw [← e]
        exact List.mem_map.mpr ⟨u, hu, rfl⟩)
      rcases List.mem_append.mp this with z | z
      · exact List.mem_append_left _ z
      · rcases List.mem_cons.mp z with z | z
        · exact absurd z ne
        · exact List.mem_append_right _ z) nd'.2
    exact ⟨rest, List.perm_middle.trans (.cons _ hr)⟩
theorem ss_clear {ss : List Stmt} : ∀ {c : Cells}, SS F X Γ [] ss Φ → SS F X Γ c ss Φ
  | [], h => h
  | p :: c, h => ss_dropC 0 rfl (ss_clear (c := c) h)
/-- the dict of dicts that the slot i holds is a datum from now on, and no other cell is kept -/
theorem ss_frzDD {τ : Type} {A : Addr} (key : τ → Key) (ad : τ → Addr) (inn : τ → List (Key × Dt)) (T : List τ) (i : Nat) {ss : List Stmt} (hi : Γ[i]? = some (.dat (.raw (.ref A)))) (hA : (A, Cel.dk (T.map fun t => (key t, .raw (.ref (ad t))))) ∈ c) (hT : ∀ t ∈ T, (ad t, Cel.dk (inn t)) ∈ c)
    (nd : (A :: T.map ad).Nodup) (h : SS F X (Γ.set i (.dat (.dct (T.map fun t => (key t, .dct (inn t)))))) [] ss Φ) : SS F X Γ c ss Φ := by
  obtain ⟨rest, hr⟩ := take_out (fun t : Option τ => match t with
    | none => (A, Cel.dk (T.map fun t => (key t, .raw (.ref (ad t)))))
    | some t => (ad t, Cel.dk (inn t))) (T := none :: T.map some) (c := c) (fun t ht => by
      rcases List.mem_cons.mp ht with e | ht
      · subst e; exact hA
      · obtain ⟨u, hu, rfl⟩ := List.mem_map.mp ht
        exact hT u hu) (by
      rw [List.map_cons, List.map_map]
      exact nd)
  rw [List.map_cons, List.map_map] at hr
  refine ss_perm hr ?_
  refine ss_frAll key ad inn T [] (rest := rest) ?_
  exact ss_freezeD i 0 hi rfl (ss_clear h)
theorem enumD_map {α : Type} (f : α → Dt) (l : List α) : enumD (l.map f) = l.zipIdx.map fun p => Dt.par [.int (p.2 : Nat), f p.1] := by
  unfold enumD
  refine List.ext_getElem? fun i => ?_
  rw [List.getElem?_map, List.getElem?_map, List.getElem?_zipIdx, List.length_map]
  by_cases h : i < l.length
  · rw [List.getElem?_range h, List.getElem?_eq_getElem h]
    simp [List.getD, h]
  · rw [List.getElem?_eq_none (by simpa using h), List.getElem?_eq_none (by simpa using h)]
    rfl
end
end D
namespace D
open PySem L2 PyProof.Rows
section
variable {F : Fm} {X : Cx} {Γ : List Sl} {c : Cells} {Φ : PEnds} {pos : Pos}
abbrev own2 (N : List Str) (ta tb : Expr) : List (Str × Nat) := ownOf N ta ++ ownOf N tb
theorem s_Dc2 {y : Str} {py spos ps : Pos} {kx vx ta ia tb ib : Expr} {sc : Scope} (hc : X.calm = true) (hN : X.N.Nodup) (ok : BlkOk X.N X.env.scope sc (own2 X.N ta tb))
    (h : SW F X Γ c ta ia fun c1 ds => ∃ Jv : Nat → Cells → List (Key × Dt) → Prop, Jv 0 c1 [] ∧
      (∀ i d c' acc, ds[i]? = some d → Jv i c' acc → ∀ F' : Fm, AB X sc fun Y => SGb F' Y (wipeG Γ ((own2 X.N ta tb).map (·.2))) c' ((own2 X.N ta tb).map (·.2)) ta d fun Γ2 => AB X sc fun Y => SW F' Y Γ2 c' tb ib fun c2 es => acc.length + es.length ≤ sizeLine ∧ ∃ Ji : Nat → Cells → List (Key × Dt) → Prop, Ji 0 c2 acc ∧
        (∀ j e c3 acc', es[j]? = some e → Ji j c3 acc' → ∀ F' : Fm, AB X sc fun Y => SGb F' Y (wipeG Γ2 ((ownOf X.N tb).map (·.2))) c3 ((ownOf X.N tb).map (·.2)) tb e fun Γ3 => AB X sc fun Y => SE F' Y Γ3 c3 kx fun c4 dk => ∃ k, dkey dk = some k ∧ AB X sc fun Y => SE F' Y Γ3 c4 vx fun c5 dv => Ji (j + 1) c5 (dput acc' k dv)) ∧
        ∀ c3 acc', Ji es.length c3 acc' → Jv (i + 1) c3 acc') ∧ ∀ c' acc, Jv ds.length c' acc → ∀ a, Φ.nx (Γ.set (ixOf X.N y) (.dat (.raw (.ref a)))) (c' ++ [(a, .dk acc)]))
    (hsw : swapsWith (.DictComp kx vx [⟨ta, ia, [], 0⟩, ⟨tb, ib, [], 0⟩] sc ps) (some (.Name y py)) spos.line X.env = pure true := by exact swD_true rfl rfl rfl (by decide +kernel))
    (hy : X.N[ixOf X.N y]? = some y := by rfl) (hyl : X.env.scope.names.lookup y = some .local := by rfl) (hs : ∀ z, foldedSetIterable ia X.env z = pure z := by intro _; rfl) (hs1 : ∀ env z, foldedSetIterable ib env z = pure z := by intro _ _; rfl) :
    S1 F X Γ c (.Assign [.Name y py] (.DictComp kx vx [⟨ta, ia, [], 0⟩, ⟨tb, ib, [], 0⟩] sc ps) spos) Φ :=
  s_setDT _ (ps_setDc2 (own := own2 X.N ta tb) (vs1 := (ownOf X.N tb).map (·.2)) (wi := wI X ta ia) (wi1 := wIb X sc tb ib) (g := tGb X sc ta) (g1 := tGb X sc tb) (tk := tEb X sc kx) (tv := tEb X sc vx) hc hN hy hyl hsw pI ok (fun i hi => by
    rw [List.map_append]; exact List.mem_append_right _ hi) (fun s0 H0 C cl fp => pGb s0 H0 C cl fp) (fun s0 H0 C cl fp => pEb s0 H0 C cl fp) (fun s0 H0 C cl fp => pEb s0 H0 C cl fp) (fun s0 H0 C cl fp => pIb s0 H0 C cl fp) (fun s0 H0 C cl fp => pGb s0 H0 C cl fp) hs hs1)
    (sdt_dc2 h)
end
end D
end
section
set_option Elab.async false
set_option linter.all false
set_option maxRecDepth 100000
namespace D
open PySem L2 PyProof.Rows PyProof
section
variable {X : Cx}
def rUpd : V → List V → Hp → VK → Prop := fun x vs H Q => ∃ a b kvs more, x = .ref a ∧ vs = [.ref b] ∧ a ≠ b ∧ H a = some (.dK kvs) ∧ H b = some (.dK more) ∧ kvs.length + more.length ≤ sizeLine ∧ Q .non (upd H a (.dK (mergeK kvs more)))
theorem mt_update : MtR X "dict.update" rUpd := fun pins s σ H x vs v us Q I rx rv ⟨a, b, kvs, more, ex, ev, ne, ea, eb, hl, q⟩ => by
  subst ex ev
  obtain rfl : v = Value.ref a := rx
  cases rv with
  | cons ry rv =>
    cases rv
    cases ry
    obtain ⟨z, hd, vs0, rel, dd⟩ := dk_of I.hok ea
    obtain ⟨z2, hd2, vs2, rel2, dd2⟩ := dk_of I.hok eb
    refine call_meetsIn PySem.F.slot_dict_update dd.typeIs PySem.F.entry_dict_update (PySem.F.args_dict_update_2 _ _) (meets_dict_update (mixKind X.prog X.w) a b ne hd2) ⟨vs0, vs2, dd, dd2, by rw [← rel.length, ← rel2.length]; exact hl, fun h' dd' _ hs => ?_⟩
    have hl2 : (mergeK kvs more).length ≤ sizeLine := Nat.le_trans (length_mergeK more kvs) hl
    exact (⟨.non, _, d_write (t' := s.toks) I (by rw [ea]; exact True.intro) hs (let ⟨q, _, _, hq, _⟩ := dd'; ⟨q, hq⟩) (dk_new hl2 hd (KV.merge rel2 rel) dd'), rfl, q⟩ : EP X pins σ Q _ _)
end
theorem DVk.merge {K : PySem.W.Frag} {H : Hp} : ∀ {ys : List (Key × V)} {m : List (Key × Dt)} {xs : List (Key × V)} {l : List (Key × Dt)}, DVk K H xs l → DVk K H ys m → DVk K H (mergeK xs ys) (m.foldl (fun acc kv => dput acc kv.1 kv.2) l)
  | _, _, _, _, t, .nil => t
  | _, _, _, _, t, .cons (k := k) h u => by
    have := DVk.merge ((t.p.put k h).k) u
    exact this
section
variable {F : Fm} {X : Cx} {Γ : List Sl} {c : Cells} {P : Cells → Dt → Prop} {Φ : PEnds} {pos : Pos}
/-- d.update({..}): the argument is a new dict, and is forgotten -/
theorem se_update {o e : Expr} {apos : Pos} (h : SE F X Γ c o fun c1 d0 => ∃ a j l0, d0 = .raw (.ref a) ∧ c1[j]? = some (a, .dk l0) ∧ SE F X Γ c1 e fun c2 d2 => ∃ b c3 l m, d2 = .raw (.ref b) ∧ c2 = c3 ++ [(b, .dk m)] ∧ c3[j]? = some (a, .dk l) ∧ l.length + m.length ≤ sizeLine ∧
      P (c3.set j (a, .dk (m.foldl (fun acc kv => dput acc kv.1 kv.2) l))) .non)
    (hbase : attributeBase o "update" X.env (eval o X.env) = eval o X.env := by rfl)
    (hfew : ((backTo pos (starEach [e] X.env)).all (fun x => !x.1) && (backToKw pos (keywordEach [] X.env)).all (fun x => x.1.isSome)
      && decide ([e].length + ([] : List Keyword).length + (if ([] : List Keyword).isEmpty then 0 else 1) < 30)) = true := by rfl)
    (hline : (apos.endLine == pos.line) = true := by rfl) (hs : starEach [e] X.env = (false, eval e X.env) :: starEach [] X.env := by rfl) (hplain : (backTo pos (starEach [] X.env)).any (·.1) = false := by rfl) :
    SE F X Γ c (.Call (.Attribute o "update" apos) [e] [] pos) P :=
  SE.of (pe_dm PySem.F.slot_dict_update PySem.F.type_dict_update mt_update pE pAs hbase hfew hline hs hplain) fun σ H Q S k => h σ H _ S fun v H1 c1 d0 p S1 e1 dv => by
    obtain ⟨a, j, l0, rfl, hj0, p⟩ := p
    cases dv
    obtain ⟨xs0, ha0, _⟩ := S1.cat hj0
    have pa : SA F X Γ c1 [e] fun c2 ds => ∃ d2, ds = [d2] ∧ ∃ b c3 l m, d2 = .raw (.ref b) ∧ c2 = c3 ++ [(b, .dk m)] ∧ c3[j]? = some (a, .dk l) ∧ l.length + m.length ≤ sizeLine ∧ P (c3.set j (a, .dk (m.foldl (fun acc kv => dput acc kv.1 kv.2) l))) .non :=
      sa_cons (p.mono fun c2 d2 q => sa_nil ⟨_, rfl, q⟩) hs
    refine ⟨a, rfl, .inl ⟨_, .inl ha0⟩, pa σ H1 _ S1 fun vs H2 c2 ds p2 S2 e2 dvs => ?_⟩
    obtain ⟨d2, rfl, b, c3, l, m, rfl, rfl, hj, hz, q⟩ := p2
    cases dvs with
    | cons dv2 t =>
      cases t
      cases dv2
      have hl3 : j < c3.length := (List.getElem?_eq_some_iff.mp hj).1
      have hj' : (c3 ++ [(b, Cel.dk m)])[j]? = some (a, .dk l) := by rw [List.getElem?_append_left hl3]; exact hj
      have hb' : (c3 ++ [(b, Cel.dk m)])[c3.length]? = some (b, .dk m) := by simp
      obtain ⟨xs, ha, t⟩ := S2.cat hj'
      obtain ⟨ys, hb, u⟩ := S2.cat hb'
      have ne : a ≠ b := fun z => by
        have := addrs_apart (x := a) S2.nd hj' hb' (by omega) (List.mem_cons_self ..)
        exact this (by rw [z]; exact List.mem_cons_self ..)
      refine ⟨a, b, xs, ys, rfl, rfl, ne, ha, hb, by rw [t.p.length, u.p.length]; exact hz, ?_⟩
      obtain ⟨S3, e3⟩ := S2.updC (q' := .dk (m.foldl (fun acc kv => dput acc kv.1 kv.2) l)) (o := .dK (mergeK xs ys)) hj' rfl rfl ⟨_, upd_same, DVk.merge t u⟩
      rw [List.set_append_left _ _ hl3] at S3 e3
      have hb3 : (c3.set j (a, Cel.dk (m.foldl (fun acc kv => dput acc kv.1 kv.2) l)) ++ [(b, Cel.dk m)])[c3.length]? = some (b, .dk m) := by simp
      obtain ⟨S4, e4, _⟩ := S3.letGo (H' := upd H2 a (.dK (mergeK xs ys))) hb3 (fun _ _ => rfl) ((S3.cat hb3).live)
      have er : (c3.set j (a, Cel.dk (m.foldl (fun acc kv => dput acc kv.1 kv.2) l)) ++ [(b, Cel.dk m)]).eraseIdx c3.length = c3.set j (a, Cel.dk (m.foldl (fun acc kv => dput acc kv.1 kv.2) l)) := by
        rw [List.eraseIdx_append_of_length_le (by simp)]; simp
      rw [er] at S4 e4
      exact k _ _ _ _ q S4 (((e1.trans e2).trans e3).trans e4) .non
def LcD (X : Cx) (Γ : List Sl) (sc : Scope) (vs : List Nat) (tg kx vx : Expr) (c1 : Cells) (ds : List Dt) (Q : List (Key × Dt) → Prop) : Prop :=
  ∃ (α : Type) (enc : α → Dt) (l : List α) (kf : α → Key) (g : α → Dt), ds = l.map enc ∧ l.length ≤ sizeLine ∧ (∀ r, r ∈ l → TurnD X Γ sc vs tg kx vx (enc r) c1 fun c2 k y => c2 = c1 ∧ k = kf r ∧ y = g r) ∧ Q ((l.map fun r => (kf r, g r)).foldl (fun acc kv => dput acc kv.1 kv.2) [])
theorem lcD {α : Type} {enc : α → Dt} {l : List α} {sc : Scope} {vs : List Nat} {tg kx vx : Expr} {c1 : Cells} {Q : List (Key × Dt) → Prop} (kf : α → Key) (g : α → Dt) (hz : l.length ≤ sizeLine) (turn : ∀ r, r ∈ l → TurnD X Γ sc vs tg kx vx (enc r) c1 fun c2 k y => c2 = c1 ∧ k = kf r ∧ y = g r)
    (p : Q ((l.map fun r => (kf r, g r)).foldl (fun acc kv => dput acc kv.1 kv.2) [])) : LcD X Γ sc vs tg kx vx c1 (l.map enc) Q := ⟨α, enc, l, kf, g, rfl, hz, turn, p⟩
theorem turnDI {sc : Scope} {vs : List Nat} {tg kx vx : Expr} {d : Dt} {c' : Cells} {N : Cells → Key → Dt → Prop} (h : ∀ (F' : Fm) (s0 : Shared) (H0 : Hp) (C : Addr) (cl : List (Str × Addr)) (fp : List Addr), SGb F' (blk X sc s0 H0 C cl fp) (wipeG Γ vs) c' vs tg d fun Γ2 => AB X sc fun Y => SE F' Y Γ2 c' kx fun c2 dk => ∃ k, dkey dk = some k ∧ AB X sc fun Y => SE F' Y Γ2 c2 vx fun c3 dv => N c3 k dv) : TurnD X Γ sc vs tg kx vx d c' N := h
theorem dmap_t {α : Type} {kx vx tg : Expr} {sc : Scope} {vs : List Nat} {enc : α → Dt} {l : List α} {Pl : Cells → List (Key × Dt) → Prop} (kf : α → Key) (g : α → Dt) (hz : l.length ≤ sizeLine)
    (turn : ∀ r, r ∈ l → TurnD X Γ sc vs tg kx vx (enc r) c fun c2 k y => c2 = c ∧ k = kf r ∧ y = g r) (p : Pl c ((l.map fun r => (kf r, g r)).foldl (fun acc kv => dput acc kv.1 kv.2) [])) :
    (l.map enc).length ≤ sizeLine ∧ ∃ Jv : Nat → Cells → List (Key × Dt) → Prop, Jv 0 c [] ∧ (∀ i d c' acc, (l.map enc)[i]? = some d → Jv i c' acc → TurnD X Γ sc vs tg kx vx d c' fun c2 k y => Jv (i + 1) c2 (dput acc k y)) ∧ ∀ c' acc, Jv (l.map enc).length c' acc → Pl c' acc := by
  refine ⟨by rw [List.length_map]; exact hz, fun i c' acc => c' = c ∧ acc = ((l.take i).map fun r => (kf r, g r)).foldl (fun acc kv => dput acc kv.1 kv.2) [], ⟨rfl, by simp⟩, ?_, ?_⟩
  · rintro i d c' acc hd ⟨rfl, rfl⟩ F' s0 H0 C cl fp
    refine .mk fun σ H v Q S dv k => ?_
    rw [List.getElem?_map] at hd
    obtain ⟨r, hr, rfl⟩ := Option.map_eq_some_iff.mp hd
    refine turn r (List.mem_of_getElem? hr) F' s0 H0 C cl fp σ H v Q S dv fun Γ2 σ2 q S2 w => k Γ2 σ2 ?_ S2 w
    intro s0 H0 C cl fp
    refine (q s0 H0 C cl fp).mono ?_
    rintro c2 dk ⟨key, hk, q2⟩
    refine ⟨key, hk, fun s0 H0 C cl fp => (q2 s0 H0 C cl fp).mono ?_⟩
    rintro c3 y ⟨rfl, rfl, rfl⟩
    refine ⟨rfl, ?_⟩
    rw [List.take_add_one, hr, Option.toList_some, List.map_append, List.foldl_append]
    rfl
  · rintro c' acc ⟨rfl, rfl⟩
    rw [List.length_map, List.take_length]
    exact p
theorem se_Dc {kx vx tg iter : Expr} {sc : Scope} (hc : X.calm = true) (hN : X.N.Nodup) (ok : BlkOk X.N X.env.scope sc (ownOf X.N tg))
    (h : SW F X Γ c tg iter fun c1 ds => LcD X Γ sc ((ownOf X.N tg).map (·.2)) tg kx vx c1 ds fun z => ∀ a, P (c1 ++ [(a, .dk z)]) (.raw (.ref a))) (hfs : ∀ x, foldedSetIterable iter X.env x = pure x := by intro _; rfl) : SE F X Γ c (.DictComp kx vx [⟨tg, iter, [], 0⟩] sc pos) P :=
  SDt.se (pe_dc (own := ownOf X.N tg) (g := tGb X sc tg) (tt := tYes) (tk := tEb X sc kx) (tv := tEb X sc vx) hc hN pI ok (fun s0 H0 C cl fp => pGb s0 H0 C cl fp) (fun _ _ _ _ _ => pts_nil) (fun s0 H0 C cl fp => pEb s0 H0 C cl fp) (fun s0 H0 C cl fp => pEb s0 H0 C cl fp) hfs)
    (sdt_dc (.mk fun σ H R S k => h σ H R S fun J H' c' ds p S' => k J H' c' ds (by
      obtain ⟨α, enc, l, kf, g, rfl, hz, turn, p⟩ := p
      exact dmap_t (Pl := fun c1 z => ∀ a, P (c1 ++ [(a, .dk z)]) (.raw (.ref a))) kf g hz turn p) S'))
theorem s_Dc {y : Str} {py spos : Pos} {kx vx tg iter : Expr} {sc : Scope} (hc : X.calm = true) (hN : X.N.Nodup) (ok : BlkOk X.N X.env.scope sc (ownOf X.N tg))
    (h : SW F X Γ c tg iter fun c1 ds => LcD X Γ sc ((ownOf X.N tg).map (·.2)) tg kx vx c1 ds fun z => ∀ a, Φ.nx (Γ.set (ixOf X.N y) (.dat (.raw (.ref a)))) (c1 ++ [(a, .dk z)]))
    (hsw : swapsWith (.DictComp kx vx [⟨tg, iter, [], 0⟩] sc pos) (some (.Name y py)) spos.line X.env = pure true := by exact swD_true rfl rfl rfl (by decide +kernel))
    (hy : X.N[ixOf X.N y]? = some y := by rfl) (hyl : X.env.scope.names.lookup y = some .local := by rfl) (hfs : ∀ x, foldedSetIterable iter X.env x = pure x := by intro _; rfl) : S1 F X Γ c (.Assign [.Name y py] (.DictComp kx vx [⟨tg, iter, [], 0⟩] sc pos) spos) Φ :=
  s_setDT _ (ps_setDc (own := ownOf X.N tg) (g := tGb X sc tg) (tt := tYes) (tk := tEb X sc kx) (tv := tEb X sc vx) hc hN hy hyl hsw pI ok (fun s0 H0 C cl fp => pGb s0 H0 C cl fp) (fun _ _ _ _ _ => pts_nil) (fun s0 H0 C cl fp => pEb s0 H0 C cl fp) (fun s0 H0 C cl fp => pEb s0 H0 C cl fp) hfs)
    (sdt_dc (.mk fun σ H R S k => h σ H R S fun J H' c' ds p S' => k J H' c' ds (by
      obtain ⟨α, enc, l, kf, g, rfl, hz, turn, p⟩ := p
      exact dmap_t (Pl := fun c1 z => ∀ a, Φ.nx (Γ.set (ixOf X.N y) (.dat (.raw (.ref a)))) (c1 ++ [(a, .dk z)])) kf g hz turn p) S'))
end
end D
end
section
set_option Elab.async false
set_option linter.all false
set_option maxRecDepth 100000
namespace D
open PySem L2 PyProof.Rows PyProof
open PySem.W (AlikeAll minD dataLt alike min_list_data readsAll_at reads_keeps dataLt_str dataLt_int)
theorem zip_ext {α β : Type} : ∀ {l m : List (α × β)}, l.map (·.1) = m.map (·.1) → l.map (·.2) = m.map (·.2) → l = m
  | [], [], _, _ => rfl
  | [], _ :: _, h, _ => by cases h
  | _ :: _, [], h, _ => by cases h
  | p :: l, q :: m, h, k => by
    rw [List.map_cons, List.map_cons] at h k
    have h1 := List.cons.inj h
    have k1 := List.cons.inj k
    rw [zip_ext h1.2 k1.2, Prod.ext h1.1 k1.1]
mutual
theorem reads_one {h : Heap} : ∀ {v : Value} {d : PyData} {as : List Addr}, Reads h v d as → ∀ {d' : PyData} {as' : List Addr}, Reads h v d' as' → d = d'
  | _, _, _, .none, _, _, .none => rfl
  | _, _, _, .bool b, _, _, .bool _ => rfl
  | _, _, _, .int i t, _, _, .int _ _ => rfl
  | _, _, _, .str x t, _, _, .str _ _ => rfl
  | _, _, _, .list h1 h2 h3 h4, _, _, r => by
    cases r with
    | list g1 g2 g3 g4 => rw [h1] at g1; cases g1; rw [h3] at g3; cases g3; rw [reads_ones h4 g4]
    | tuple g1 g2 g3 g4 => rw [h1] at g1; cases g1; rw [h2] at g2; exact absurd g2 (by decide)
    | dict g1 g2 g3 g4 g5 => rw [h1] at g1; cases g1; rw [h2] at g2; exact absurd g2 (by decide)
  | _, _, _, .tuple h1 h2 h3 h4, _, _, r => by
    cases r with
    | list g1 g2 g3 g4 => rw [h1] at g1; cases g1; rw [h2] at g2; exact absurd g2 (by decide)
    | tuple g1 g2 g3 g4 => rw [h1] at g1; cases g1; rw [h3] at g3; cases g3; rw [reads_ones h4 g4]
    | dict g1 g2 g3 g4 g5 => rw [h1] at g1; cases g1; rw [h2] at g2; exact absurd g2 (by decide)
  | _, _, _, .dict h1 h2 h3 h4 h5, _, _, r => by
    cases r with
    | list g1 g2 g3 g4 => rw [h1] at g1; cases g1; rw [h2] at g2; exact absurd g2 (by decide)
    | tuple g1 g2 g3 g4 => rw [h1] at g1; cases g1; rw [h2] at g2; exact absurd g2 (by decide)
    | dict g1 g2 g3 g4 g5 =>
      rw [h1] at g1; cases g1; rw [h3] at g3; cases g3
      have e1 := reads_ones h4 g4
      have e2 := reads_ones h5 g5
      congr 1
      exact zip_ext e1 e2
theorem reads_ones {h : Heap} : ∀ {vs : List Value} {ds : List PyData} {as : List Addr}, ReadsAll h vs ds as → ∀ {ds' : List PyData} {as' : List Addr}, ReadsAll h vs ds' as' → ds = ds'
  | _, _, _, .nil, _, _, .nil => rfl
  | _, _, _, .cons r rs, _, _, .cons q qs => by rw [reads_one r q, reads_ones rs qs]
end
theorem vals_back : ∀ {xs : List V} {us : List Value} {i : Nat} {u : Value}, Vals xs us → us[i]? = some u → ∃ x, xs[i]? = some x ∧ RelV x u := fun {xs us i u} r e => by
  cases h : xs[i]? with
  | none => rw [r.none_of h] at e; cases e
  | some x =>
    obtain ⟨u', h1, h2⟩ := r.get h
    rw [h1] at e; cases e
    exact ⟨x, rfl, h2⟩
section
variable {X : Cx}
def rMinD (X : Cx) : List V → Hp → VK → Prop := fun vs H Q => ∃ (a : Addr) (xs : List V) (d : PyData) (ds : List PyData), vs = [.ref a] ∧ SqL X.K H a xs ∧ DpAll X.K H xs (d :: ds) ∧ AlikeAll (d :: ds) ∧ X.A.units + 1 + PyData.depthAll (d :: ds) < cLine ∧ ∀ (i : Nat) (x : V), xs[i]? = some x → (d :: ds)[i]? = some (minD d ds) → Q x H
theorem cr_minD (hc : X.calm = true) : CallR X (.builtin "min") (rMinD X) := by
  intro pins s σ H vs us Q I r h
  obtain ⟨a, xs, d, ds, rfl, hs, hdp, hal, hu, q⟩ := h
  obtain ⟨its, rv, hl, _⟩ := I.list hs
  rw [Vals.ref1 r]
  obtain ⟨as, hra⟩ := Dp.readsAll I _ _ _ hdp rv
  refine min_list_data (I.ok.hd hc) hl.isList hra hal hu fun i v h' tk bs hv hr hk => ?_
  have hv' : its[i]? = some v := by simpa using hv
  obtain ⟨x, hx, rx⟩ := vals_back rv hv'
  obtain ⟨cs, r2, hi, _, _⟩ := readsAll_at hra i v (by simpa using hv)
  have e := reads_one hr (reads_keeps hk r2)
  refine ⟨x, H, I.kept hk, rx, q i x hx ?_⟩
  rw [e, List.getD_eq_getElem?_getD, List.getElem?_eq_getElem hi]
  rfl
end
mutual
theorem py_inj : ∀ {d e : Dt}, plain d = true → plain e = true → py d = py e → d = e
  | .non, e, _, p, h => by cases e <;> first | rfl | (cases h; done) | (cases p; done)
  | .bl b, e, _, p, h => by cases e <;> first | (cases h; rfl) | (cases h; done) | (cases p; done)
  | .int b, e, _, p, h => by cases e <;> first | (cases h; rfl) | (cases h; done) | (cases p; done)
  | .str b, e, _, p, h => by cases e <;> first | (cases h; rfl) | (cases h; done) | (cases p; done)
  | .lst l, e, q, p, h => by
    cases e with
    | lst m => rw [pys_inj (l := l) (m := m) q p (PyData.list.inj h)]
    | _ => first | (cases h; done) | (cases p; done)
  | .tup l, e, q, p, h => by
    cases e with
    | tup m => rw [pys_inj (l := l) (m := m) q p (PyData.tuple.inj h)]
    | _ => first | (cases h; done) | (cases p; done)
  | .par _, _, q, _, _ => by cases q
  | .dct _, _, q, _, _ => by cases q
  | .dcu _, _, q, _, _ => by cases q
  | .fzl _, _, q, _, _ => by cases q
  | .exc _ _ _, _, q, _, _ => by cases q
  | .raw _, _, q, _, _ => by cases q
theorem pys_inj : ∀ {l m : List Dt}, plains l = true → plains m = true → pys l = pys m → l = m
  | [], [], _, _, _ => rfl
  | [], _ :: _, _, _, h => by cases h
  | _ :: _, [], _, _, h => by cases h
  | d :: l, e :: m, q, p, h => by
    have q' := Bool.and_eq_true_iff.mp (show (plain d && plains l) = true from q)
    have p' := Bool.and_eq_true_iff.mp (show (plain e && plains m) = true from p)
    have h' := List.cons.inj (show py d :: pys l = py e :: pys m from h)
    rw [py_inj q'.1 p'.1 h'.1, pys_inj q'.2 p'.2 h'.2]
end
/-- the least of some, the first of them -/
def minBy {α : Type} (lt : α → α → Bool) (x : α) (xs : List α) : α := xs.foldl (fun a y => if lt y a = true then y else a) x
theorem minBy_mem {α : Type} (lt : α → α → Bool) : ∀ (xs : List α) (x : α), minBy lt x xs ∈ x :: xs
  | [], x => List.mem_singleton.mpr rfl
  | y :: xs, x => by
    show minBy lt (if lt y x = true then y else x) xs ∈ _
    have := minBy_mem lt xs (if lt y x = true then y else x)
    rcases List.mem_cons.mp this with h | h
    · rw [h]; split
      · exact List.mem_cons_of_mem _ (List.mem_cons_self ..)
      · exact List.mem_cons_self ..
    · exact List.mem_cons_of_mem _ (List.mem_cons_of_mem _ h)
theorem minD_enc {α : Type} (enc : α → Dt) (lt : α → α → Bool) (h : ∀ a b, dataLt (py (enc a)) (py (enc b)) = lt a b) : ∀ (xs : List α) (x : α), minD (py (enc x)) (xs.map fun y => py (enc y)) = py (enc (minBy lt x xs))
  | [], x => rfl
  | y :: xs, x => by
    show minD (if dataLt (py (enc y)) (py (enc x)) then py (enc y) else py (enc x)) (xs.map fun y => py (enc y)) = py (enc (minBy lt (if lt y x = true then y else x) xs))
    rw [h]
    cases lt y x with
    | true => exact minD_enc enc lt h xs y
    | false => exact minD_enc enc lt h xs x
section
variable {F : Fm} {X : Cx} {Γ : List Sl} {c : Cells} {P : Cells → Dt → Prop}
theorem cv_minF {α : Type} {enc : α → Dt} (lt : α → α → Bool) {x : α} {xs : List α} (hc : X.calm = true) (hu : X.A.units + 65 < cLine) (hlt : ∀ a b, dataLt (py (enc a)) (py (enc b)) = lt a b) (hf : ∀ a, Fit 64 (enc a)) (hal : ∀ a b, alike (py (enc a)) (py (enc b)) = true) (hnn : ∀ a, py (enc a) ≠ .none)
    (p : P c (enc (minBy lt x xs))) : ClV F X Γ c (.builtin "min") [.lst (enc x :: xs.map enc)] P :=
  ClV.of (cr_minD hc) fun σ H vs Q S dvs k => by
    cases dvs with
    | cons dv t =>
      cases t
      cases dv with
      | lst a t =>
        have hfit := fits_all (n := 64) (l := (x :: xs).map enc) fun d hd => by obtain ⟨y, _, rfl⟩ := List.mem_map.mp hd; exact hf y
        have hpl : ∀ y, plain (enc y) = true := fun y => (hf y).pl
        refine ⟨_, _, py (enc x), xs.map fun y => py (enc y), rfl, .inl (.inl (of_mask a).2), ?_, ⟨?_, ?_⟩, ?_, fun i v hv hi => ?_⟩
        · have h1 := DVs.dp (t.mono (mask_ex _ _)) hfit.1
          have e : pys (enc x :: xs.map enc) = py (enc x) :: xs.map fun y => py (enc y) := by rw [pys_map, List.map_cons, List.map_map]; rfl
          rw [e] at h1
          exact h1
        · intro u hu' v hv'
          have key : ∀ u, u ∈ (py (enc x) :: xs.map fun y => py (enc y)) → ∃ y, u = py (enc y) := fun u hu => by
            rcases List.mem_cons.mp hu with e | hu
            · exact ⟨x, e⟩
            · obtain ⟨y, _, rfl⟩ := List.mem_map.mp hu; exact ⟨y, rfl⟩
          obtain ⟨y, rfl⟩ := key u hu'
          obtain ⟨z, rfl⟩ := key v hv'
          exact hal y z
        · intro u hu'
          rcases List.mem_cons.mp hu' with e | hu'
          · rw [e]; exact hnn x
          · obtain ⟨y, _, rfl⟩ := List.mem_map.mp hu'; exact hnn y
        · have h2 := hfit.2.2
          have e : pys ((x :: xs).map enc) = py (enc x) :: xs.map fun y => py (enc y) := by rw [pys_map, List.map_cons, List.map_cons, List.map_map]; rfl
          rw [e] at h2
          omega
        · obtain ⟨d, hd, dv⟩ := t.getV hv
          have e2 : (((x :: xs).map enc).map py)[i]? = some (minD (py (enc x)) (xs.map fun y => py (enc y))) := by
            rw [← hi]; rw [List.map_map]; rfl
          rw [List.getElem?_map] at e2
          have hd' : ((x :: xs).map enc)[i]? = some d := hd
          rw [hd', minD_enc enc lt hlt] at e2
          have e3 : py d = py (enc (minBy lt x xs)) := by simpa using e2
          obtain ⟨y, hy, rfl⟩ := List.mem_map.mp (List.mem_of_getElem? hd')
          have := py_inj (hpl y) (hpl _) e3
          rw [← this] at p
          exact k _ H c _ p S (Ex.refl _) dv
/-- names -/
def ltN (a b : Nm) : Bool := decide (a.1.cps.toList < b.1.cps.toList)
def minN (x : Nm) (xs : List Nm) : Nm := minBy ltN x xs
theorem cv_minN {x : Nm} {xs : List Nm} (hc : X.calm = true) (hu : X.A.units + 65 < cLine) (p : P c (nD (minN x xs))) : ClV F X Γ c (.builtin "min") [.lst (nD x :: xs.map nD)] P :=
  cv_minF ltN hc hu (fun a b => dataLt_str a.1 b.1) (fun a => fit_n a) (fun _ _ => rfl) (fun _ => by intro z; cases z) p
def ltI (a b : Int) : Bool := decide (a < b)
theorem cv_minI {x : Int} {xs : List Int} (hc : X.calm = true) (hu : X.A.units + 65 < cLine) (p : P c (.int (minBy ltI x xs))) : ClV F X Γ c (.builtin "min") [.lst (.int x :: xs.map Dt.int)] P :=
  cv_minF (enc := Dt.int) ltI hc hu (fun a b => dataLt_int a b) (fun a => fit_int) (fun _ _ => rfl) (fun _ => by intro z; cases z) p
end
end D
end
section
set_option Elab.async false
set_option linter.all false
set_option maxRecDepth 100000
namespace D
open PySem L2 PyProof.Rows
section
variable {K : PySem.W.Frag} {F : Fm} {X : Cx} {Γ : List Sl} {c : Cells} {P : Cells → List Dt → Prop} {tg : Expr} {pos : Pos}
theorem src_stepC {V0 : Hp} {n : Nat} {lo st : Int} : Src K V0 (Itc lo st n) ((List.range n).map fun (i : Nat) => Dt.int (lo + (i : Int) * st)) := by
  have hl : ((List.range n).map fun (i : Nat) => Dt.int (lo + (i : Int) * st)).length = n := by rw [List.length_map, List.length_range]
  refine ⟨fun _ => True, YFn fun i => .int (lo + (i : Nat) * st), by rw [hl]; exact walk_rangeC, fun _ _ => True.intro, fun i H1 x H2 hi y _ => ?_⟩
  obtain ⟨h1, h2⟩ := y
  rw [hl] at hi
  refine ⟨.int (lo + (i : Int) * st), ?_, .inl ⟨h1, ?_⟩⟩
  · rw [List.getElem?_map, List.getElem?_range hi]
    rfl
  · rw [h2]; exact .int _
/-- range(a, b, -1) -/
theorem sw_down {a b s : Expr} {p : Pos} (hm : X.mg "range" = none) (h : SA F X Γ c [a, b, s] fun c1 ds => ∃ i j : Int, ds = [.int i, .int j, .int (-1)] ∧ -(2 ^ 62) ≤ i ∧ i < 2 ^ 62 ∧ -(2 ^ 62) ≤ j ∧ j < 2 ^ 62 ∧ P c1 ((List.range (i - j).toNat).map fun (k : Nat) => Dt.int (i + (k : Int) * (-1)))) (hg : Gl X "range" := by rfl)
    (hs : starEach [a, b, s] X.env = (false, eval a X.env) :: starEach [b, s] X.env := by rfl) (hpl : (backTo pos (starEach [b, s] X.env)).any (·.1) = false := by rfl) : SW F X Γ c tg (.Call (.Name "range" p) [a, b, s] [] pos) P := .mk fun σ H R S k =>
  ⟨_, pi_range3 hg hm pAs hs hpl, h σ H _ S fun vs H1 c1 ds p S1 k1 dvs => by
    obtain ⟨i, j, rfl, h1, h2, h3, h4, p⟩ := p
    cases dvs with
    | cons d1 t => cases t with
      | cons d2 t => cases t with
        | cons d3 t =>
          cases t; cases d1; cases d2; cases d3
          exact ⟨i, j, -1, (i - j).toNat, rfl, RgC.neg h1 h2 h3 h4, k _ H1 c1 _ p S1 k1 src_stepC⟩⟩
end
section
variable {F : Fm} {X : Cx} {Γ : List Sl} {c : Cells} {P : Cells → Dt → Prop} {pos : Pos}
theorem cv_sum {ns : List Int} (hc : X.calm = true) (p : P c (.int ns.sum)) : ClV F X Γ c (.builtin "sum") [.lst (ns.map Dt.int)] P :=
  ClV.of (cr_sum hc) fun σ H vs Q S dvs k => by
    cases dvs with
    | cons dv t =>
      cases t
      cases dv with
      | lst a t => exact ⟨_, ns, rfl, .inl (.inl (by rw [← DVs.of_ints t]; exact (of_mask a).2)), k _ H c _ p S (Ex.refl _) (.int _)⟩
end
end D
end
section
set_option Elab.async false
set_option linter.all false
set_option maxRecDepth 100000
namespace D
open PySem L2 PyProof.Rows RZ
theorem walk_zipT {K : PySem.W.Frag} {a b : Addr} {xs ys : List V} {n : Nat} (hn : n = min xs.length ys.length) : Walk (ItzT K a b) n (fun H => SqT K H a xs ∧ SqT K H b ys) (YPair (fun i => xs[i]?) (fun i => ys[i]?)) := by
  subst hn
  refine ⟨fun i _ hi q => ?_, fun _ q => ⟨xs, ys, q.1, q.2, by omega⟩, fun i H v H' _ q y => ?_⟩
  · exact ⟨xs, ys, xs[i]'(by omega), ys[i]'(by omega), q.1, q.2, by simp [show i < xs.length by omega], by simp [show i < ys.length by omega]⟩
  · obtain ⟨T, x, z, h1, h2, h3, h4, h5⟩ := y
    exact ⟨T, x, z, h1, h2, h3, h4 xs q.1, h5 ys q.2⟩
section
variable {K : PySem.W.Frag} {F : Fm} {X : Cx} {Γ : List Sl} {c : Cells} {pos : Pos}
theorem src_zipT {V0 : Hp} {a b : Addr} {xs ys : List V} {l m : List Dt} (h1 : SqT K V0 a xs) (h2 : SqT K V0 b ys) (t : DVs K V0 xs l) (u : DVs K V0 ys m) : Src K V0 (ItzT K a b) (zipD l m) := by
  have hl : (zipD l m).length = min xs.length ys.length := by unfold zipD; rw [List.length_map, List.length_zip, t.length, u.length]
  refine ⟨_, _, hl.symm ▸ walk_zipT (K := K) (a := a) (b := b) (xs := xs) (ys := ys) rfl, fun H e => ⟨ex_t e h1, ex_t e h2⟩, fun i H1 x H2 hi y _ => ?_⟩
  obtain ⟨T, x1, x2, g1, g2, g3, g4, g5⟩ := y
  obtain ⟨d1, e1, dv1⟩ := t.getV g4
  obtain ⟨d2, e2, dv2⟩ := u.getV g5
  refine ⟨.par [d1, d2], ?_, .inr ⟨T, x1, x2, d1, d2, g1, g2, g3, rfl, dv1, dv2⟩⟩
  unfold zipD
  rw [List.getElem?_map, List.getElem?_zip_eq_some (z := (d1, d2)) |>.mpr ⟨e1, e2⟩]
  rfl
theorem sw_zipT {e e2 : Expr} {p : Pos} {elts : List Expr} {kk : Nat} {tpos : Pos} {P : Cells → List Dt → Prop} (hm : X.mg "zip" = none) (h : SA F X Γ c [e, e2] fun c1 ds => ∃ l m, ds = [.tup l, .tup m] ∧ P c1 (zipD l m)) (hg : Gl X "zip" := by rfl)
    (hs : starEach [e, e2] X.env = (false, eval e X.env) :: starEach [e2] X.env := by rfl) (hpl : (backTo pos (starEach [e2] X.env)).any (·.1) = false := by rfl) : SW F X Γ c (.Tuple elts kk tpos) (.Call (.Name "zip" p) [e, e2] [] pos) P := .mk fun σ H R S k =>
  ⟨_, pi_zipA hg hm pAs hs hpl, h σ H _ S fun vs H1 c1 ds p S1 k1 dvs => by
    obtain ⟨l, m, rfl, p⟩ := p
    cases dvs with
    | cons d1 t => cases t with
      | cons d2 t =>
        cases t
        cases d1 with
        | tup a1 t1 => cases d2 with
          | tup a2 t2 => exact ⟨_, _, _, _, rfl, .inr ⟨(a1.mono (mask_ex _ _)).t, (a2.mono (mask_ex _ _)).t, k _ H1 c1 _ p S1 k1 (src_zipT a1.t a2.t t1 t2)⟩⟩⟩
theorem zipD_map {α β : Type} (f : α → Dt) (g : β → Dt) (l : List α) (m : List β) : zipD (l.map f) (m.map g) = (l.zip m).map fun p => Dt.par [f p.1, g p.2] := by
  unfold zipD; rw [List.zip_map, List.map_map]; rfl
theorem se_indexT {o e : Expr} {apos : Pos} {P : Cells → Dt → Prop} (h : SE F X Γ c o fun c1 dl => ∃ ys : List Str, dl = .tup (ys.map Dt.str) ∧ SE F X Γ c1 e fun c2 d => ∃ z j, d = .str z ∧ ys[j]? = some z ∧ (∀ m, m < j → ys[m]? ≠ some z) ∧ P c2 (.int (j : Nat)))
    (hb : attributeBase o "index" X.env (eval o X.env) = eval o X.env := by rfl)
    (hall : (((backTo pos (starEach [e] X.env)).all (fun x => !x.1)) && ((backToKw pos (keywordEach [] X.env)).all (fun x => x.1.isSome)) && decide ([e].length + ([] : List Keyword).length + (if ([] : List Keyword).isEmpty = true then 0 else 1) < 30)) = true := by rfl)
    (hline : (apos.endLine == pos.line) = true := by rfl) (hst : starEach [e] X.env = (false, eval e X.env) :: starEach [] X.env := by rfl) (hpl : (backTo pos (starEach [] X.env)).any (·.1) = false := by rfl) : SE F X Γ c (.Call (.Attribute o "index" apos) [e] [] pos) P :=
  SE.of (pe_tm PySem.F.slot_tuple_index PySem.F.type_tuple_index mt_tup_index pE (pa_cons pE pa_nil hst) hb hall hline hst hpl) fun σ H Q S k => h σ H _ S fun v H1 c1 d p S1 e1 dv => by
    obtain ⟨ys, rfl, p⟩ := p
    cases id dv with
    | tup a t =>
      have et := DVs.of_strs t
      subst et
      refine ⟨_, _, rfl, a.mono (mask_ex _ _), p σ H1 _ S1 fun w H2 c2 d2 p2 S2 e2 dv2 => ?_⟩
      obtain ⟨z, j, rfl, hj, hm, p2⟩ := p2
      cases dv2
      exact ⟨_, ys, z, j, rfl, rfl, (a.mono (e2.trans (mask_ex _ _))).t, hj, hm, k _ H2 c2 _ p2 S2 (e1.trans e2) (.int _)⟩
end
end D
end
section
set_option Elab.async false
set_option linter.all false
set_option maxRecDepth 100000
namespace D
open PySem L2 PyProof.Rows
def ixN : List Nm → Nm → Nat
  | [], _ => 0
  | y :: r, x => if y = x then 0 else ixN r x + 1
theorem ixN_at : ∀ {r : List Nm} {x : Nm}, x ∈ r → r[ixN r x]? = some x ∧ ∀ m, m < ixN r x → r[m]? ≠ some x
  | y :: r, x, h => by
    unfold ixN
    by_cases e : y = x
    · rw [if_pos e]; exact ⟨by simp [e], fun m hm => absurd hm (Nat.not_lt_zero _)⟩
    · rw [if_neg e]
      obtain ⟨h1, h2⟩ := ixN_at (r := r) (x := x) ((List.mem_cons.mp h).resolve_left fun z => e z.symm)
      refine ⟨by simpa using h1, fun m hm => ?_⟩
      cases m with
      | zero => simpa using e
      | succ m => simpa using h2 m (by omega)
section
variable {F : Fm} {X : Cx} {Γ : List Sl} {c : Cells} {P : Cells → Dt → Prop} {pos : Pos}
theorem se_indexN {o e : Expr} {apos : Pos} (h : SE F X Γ c o fun c1 dl => ∃ r : List Nm, dl = nT r ∧ SE F X Γ c1 e fun c2 d => ∃ x : Nm, d = nD x ∧ x ∈ r ∧ P c2 (.int (ixN r x : Nat)))
    (hb : attributeBase o "index" X.env (eval o X.env) = eval o X.env := by rfl)
    (hall : (((backTo pos (starEach [e] X.env)).all (fun x => !x.1)) && ((backToKw pos (keywordEach [] X.env)).all (fun x => x.1.isSome)) && decide ([e].length + ([] : List Keyword).length + (if ([] : List Keyword).isEmpty = true then 0 else 1) < 30)) = true := by rfl)
    (hline : (apos.endLine == pos.line) = true := by rfl) (hst : starEach [e] X.env = (false, eval e X.env) :: starEach [] X.env := by rfl) (hpl : (backTo pos (starEach [] X.env)).any (·.1) = false := by rfl) : SE F X Γ c (.Call (.Attribute o "index" apos) [e] [] pos) P :=
  se_indexT (h.mono fun c1 dl ⟨r, e1, q⟩ => ⟨r.map (·.1), by rw [e1, List.map_map]; rfl, q.mono fun c2 d ⟨x, e2, hx, p⟩ => by
    obtain ⟨h1, h2⟩ := ixN_at hx
    refine ⟨x.1, ixN r x, e2, by rw [List.getElem?_map, h1]; rfl, fun m hm z => ?_, p⟩
    rw [List.getElem?_map] at z
    obtain ⟨y, hy, e⟩ := Option.map_eq_some_iff.mp z
    exact h2 m hm (by rw [hy, Subtype.ext e])⟩) hb hall hline hst hpl
theorem se_tyTuple (hm : X.mg "tuple" = none) (p : P c (.raw (.ty "tuple"))) (hg : Gl X "tuple" := by rfl) : SE F X Γ c (.Name "tuple" pos) P := se_ty (T := "tuple") hm p (by decide +kernel) hg
theorem se_tyStr (hm : X.mg "str" = none) (p : P c (.raw (.ty "str"))) (hg : Gl X "str" := by rfl) : SE F X Γ c (.Name "str" pos) P := se_ty (T := "str") hm p (by decide +kernel) hg
theorem se_tyInt (hm : X.mg "int" = none) (p : P c (.raw (.ty "int"))) (hg : Gl X "int" := by rfl) : SE F X Γ c (.Name "int" pos) P := se_ty (T := "int") hm p (by decide +kernel) hg
theorem se_tyBool (hm : X.mg "bool" = none) (p : P c (.raw (.ty "bool"))) (hg : Gl X "bool" := by rfl) : SE F X Γ c (.Name "bool" pos) P := se_ty (T := "bool") hm p (by decide +kernel) hg
end
end D
end
section
set_option Elab.async false
set_option linter.all false
set_option maxRecDepth 100000
namespace D
open PySem L2 PyProof.Rows
section
variable {F : Fm} {X : Cx} {Γ : List Sl} {c : Cells} {P : Cells → Dt → Prop} {Φ : PEnds} {pos : Pos}
/-- xs[i], xs a cell -/
theorem iv_lcel (j : Nat) {a : Addr} {l : List Dt} {i : Int} {d : Dt} (hj : c[j]? = some (a, .lst l)) (h : atI l i = some d) (p : P c d) : IxV F X Γ c (.raw (.ref a)) (.int i) P :=
  IxV.of ix_list fun σ H x y Q S h1 h2 k => by
    cases h1
    cases h2
    obtain ⟨xs, ha, t⟩ := S.cat hj
    obtain ⟨v, e, dv⟩ := atI_dvs t h
    exact ⟨_, _, i, v, rfl, rfl, .inl (.inl ha), e, k v H c d p S (Ex.refl _) dv⟩
/-- len(xs), xs a cell -/
theorem cv_lenC (j : Nat) {a : Addr} {l : List Dt} (hj : c[j]? = some (a, .lst l)) (p : P c (.int l.length)) : ClV F X Γ c (.builtin "len") [.raw (.ref a)] P :=
  ClV.of call_len_seq fun σ H vs Q S dvs k => by
    cases dvs with
    | cons dv t =>
      cases t
      cases dv
      obtain ⟨xs, ha, t⟩ := S.cat hj
      exact ⟨_, xs, rfl, .inl (.inl (.inl ha)), by rw [t.length]; exact k _ H c _ p S (Ex.refl _) (.int _)⟩
/-- xs[i] = e, xs a cell -/
theorem s_lput {o ix e : Expr} {sp : Pos} (h : SE F X Γ c e fun c1 d => SE F X Γ c1 o fun c2 d0 => ∃ a, d0 = .raw (.ref a) ∧ SE F X Γ c2 ix fun c3 d1 => ∃ j l i k, c3[j]? = some (a, .lst l) ∧ d1 = .int i ∧ L2.ixN l.length i = some k ∧ Φ.nx Γ (c3.set j (a, .lst (l.set k d))))
    (hs : swapsWithSole [.Subscript o ix sp] e pos.line X.env = pure false := by rfl) (hw : swappedStores [.Subscript o ix sp] e X.env = pure none := by rfl)
    (ha : ∀ v, assign (.Subscript o ix sp) X.env v = (do
      let ov ← holding [v] (eval o X.env)
      let iv ← holding [v, ov] (eval ix X.env)
      standAt sp
      holding [v, ov, iv] (setItem ov iv v)
      release [v, ov, iv] []) := by intro _; rfl) : S1 F X Γ c (.Assign [.Subscript o ix sp] e pos) Φ :=
  S1.of (ps_asg pE (pg_sub pE pE set_list ha) hs hw) fun σ H D S E => h σ H _ S fun v H1 c1 d p S1 e1 dv => p σ H1 _ S1 fun w H2 c2 d0 p2 S2 e2 dw => by
    obtain ⟨a, rfl, p2⟩ := p2
    cases dw
    refine p2 σ H2 _ S2 fun y H3 c3 d1 p3 S3 e3 dy => ?_
    obtain ⟨j, l, i, k, hj, rfl, hk, p3⟩ := p3
    cases dy
    obtain ⟨xs, ha, t⟩ := S3.cat hj
    obtain ⟨S4, e4⟩ := S3.updC (q' := .lst (l.set k d)) (o := .lst (xs.set k v)) hj rfl rfl ⟨_, upd_same, t.set (dv.mono (e2.trans e3)) k⟩
    exact ⟨a, xs, i, k, rfl, rfl, ha, by rw [t.length]; exact hk, E.nx _ _ _ _ p3 S4 (((e1.trans e2).trans e3).trans e4)⟩
/-- xs.pop(i), xs a cell -/
theorem se_popAt {o e : Expr} {apos : Pos} (h : SE F X Γ c o fun c0 d0 => ∃ a j l0, d0 = .raw (.ref a) ∧ c0[j]? = some (a, .lst l0) ∧ SE F X Γ c0 e fun c1 d => ∃ l i k x, c1[j]? = some (a, .lst l) ∧ d = .int i ∧ L2.ixN l.length i = some k ∧ -(2 ^ 63) ≤ i ∧ i < 2 ^ 63 ∧ l[k]? = some x ∧ P (c1.set j (a, .lst (l.eraseIdx k))) x)
    (hb : attributeBase o "pop" X.env (eval o X.env) = eval o X.env := by rfl)
    (hall : (((backTo pos (starEach [e] X.env)).all (fun x => !x.1)) && ((backToKw pos (keywordEach [] X.env)).all (fun x => x.1.isSome)) && decide ([e].length + ([] : List Keyword).length + (if ([] : List Keyword).isEmpty = true then 0 else 1) < 30)) = true := by rfl)
    (hline : (apos.endLine == pos.line) = true := by rfl) (hst : starEach [e] X.env = (false, eval e X.env) :: starEach [] X.env := by rfl) (hpl : (backTo pos (starEach [] X.env)).any (·.1) = false := by rfl) : SE F X Γ c (.Call (.Attribute o "pop" apos) [e] [] pos) P :=
  SE.of (pe_bm PySem.F.plainAttrs_list PySem.F.slot_list_pop PySem.F.type_list_pop mt_popAt pE (pa_cons pE pa_nil hst) hb hall hline hst hpl) fun σ H Q S k => by
    refine h σ H _ S fun v0 H0 c0 d0 p0 S0 e0 dv0 => ?_
    obtain ⟨a, j, l0, rfl, hj0, p0⟩ := p0
    cases dv0
    obtain ⟨xs, h1, _⟩ := S0.cat hj0
    refine ⟨Or.inl ⟨rfl, xs, .inl (.inl h1)⟩, p0 σ H0 _ S0 fun v H' c' d p S' e' dv => ?_⟩
    obtain ⟨l, i, kk, x, hj, rfl, hk, b1, b2, hx, p⟩ := p
    cases dv
    obtain ⟨ys, h2, h3⟩ := S'.cat hj
    obtain ⟨y, hy, dy⟩ := h3.get hx
    obtain ⟨S2, e2⟩ := S'.updC (q' := .lst (l.eraseIdx kk)) (o := .lst (ys.eraseIdx kk)) hj rfl rfl ⟨_, upd_same, h3.eraseIdx kk⟩
    exact ⟨a, ys, i, kk, y, rfl, rfl, h2, b1, b2, (ixN_seq (by rw [h3.length]; exact hk)).1, hy, k _ _ _ _ p S2 ((e0.trans e').trans e2) (dy.mono e2)⟩
theorem ss_openBag (j : Nat) {b : Addr} {n : Nat} {ss : List Stmt} (hj : c[j]? = some (b, .bag n)) (h : ∀ d s k : Int, 0 ≤ d → 0 ≤ s → s < 2147483647 → 0 ≤ k → k ≤ n → SS F X Γ (c.set j (b, .lst [.int d, .int s, .int k])) ss Φ) : SS F X Γ c ss Φ := .mk fun σ H D S E => by
  obtain ⟨d, s, k, ha, h1, h2, h3, h4, h5⟩ := S.cat hj
  obtain ⟨S2, e2⟩ := S.chg (q' := .lst [.int d, .int s, .int k]) (H' := H) hj rfl (fun _ _ => rfl) ⟨_, ha, .cons (.int _) (.cons (.int _) (.cons (.int _) .nil))⟩
  exact h d s k h1 h2 h3 h4 h5 σ H D S2 (E.ext e2)
theorem SE.closeBag {e : Expr} (h : SE F X Γ c e fun c1 z => ∃ j b d s k n, c1[j]? = some (b, .lst [.int d, .int s, .int k]) ∧ 0 ≤ d ∧ 0 ≤ s ∧ s < 2147483647 ∧ 0 ≤ k ∧ k ≤ ((n : Nat) : Int) ∧ P (c1.set j (b, .bag n)) z) : SE F X Γ c e P := .mk fun σ H Q S kk => h σ H Q S fun v H' c' z p S' e' dv => by
  obtain ⟨j, b, d, s, k, n, hj, h1, h2, h3, h4, h5, p⟩ := p
  obtain ⟨xs, ha, t⟩ := S'.cat hj
  have et : xs = [.int d, .int s, .int k] := DVs.of_ints (l := [d, s, k]) t
  subst et
  obtain ⟨S2, e2⟩ := S'.chg (q' := .bag n) (H' := H') hj rfl (fun _ _ => rfl) ⟨d, s, k, ha, h1, h2, h3, h4, h5⟩
  exact kk v H' _ z p S2 (e'.trans e2) (dv.mono e2)
end
end D
end
section
set_option Elab.async false
set_option linter.all false
set_option maxRecDepth 100000
namespace D
open PySem L2 PyProof.Rows
section
variable {F : Fm} {X : Cx} {Γ : List Sl} {c : Cells} {Φ : PEnds} {pos : Pos}
/-- what turns that change something give: J tells of the cells and of what is made so far -/
def LcJ (X : Cx) (Γ : List Sl) (scope : Scope) (vs : List Nat) (tg elt : Expr) (c1 : Cells) (ds : List Dt) (Q : Cells → List Dt → Prop) : Prop :=
  ∃ (α β : Type) (enc : α → Dt) (dec : β → Dt) (l : List α) (J : Nat → Cells → List β → Prop), ds = l.map enc ∧ l.length ≤ sizeLine ∧ J 0 c1 [] ∧
    (∀ i r c' acc, l[i]? = some r → J i c' acc → Turn0 X Γ scope vs tg elt (enc r) c' fun c2 y => ∃ b, y = dec b ∧ J (i + 1) c2 (acc ++ [b])) ∧ ∀ c' acc, J l.length c' acc → Q c' (acc.map dec)
theorem lcJ {α β : Type} {enc : α → Dt} {l : List α} {scope : Scope} {vs : List Nat} {tg elt : Expr} {c1 : Cells} {Q : Cells → List Dt → Prop} (dec : β → Dt) (J : Nat → Cells → List β → Prop) (hz : l.length ≤ sizeLine) (h0 : J 0 c1 [])
    (turn : ∀ i r c' acc, l[i]? = some r → J i c' acc → Turn0 X Γ scope vs tg elt (enc r) c' fun c2 y => ∃ b, y = dec b ∧ J (i + 1) c2 (acc ++ [b])) (done : ∀ c' acc, J l.length c' acc → Q c' (acc.map dec)) : LcJ X Γ scope vs tg elt c1 (l.map enc) Q :=
  ⟨α, β, enc, dec, l, J, rfl, hz, h0, turn, done⟩
theorem jm_t {elt tg : Expr} {scope : Scope} {vs : List Nat} {ds : List Dt} {Pl : Cells → List Dt → Prop} (h : LcJ X Γ scope vs tg elt c ds Pl) :
    ds.length ≤ sizeLine ∧ ∃ Jv : Nat → Cells → List Dt → Prop, Jv 0 c [] ∧ (∀ i d c' acc, ds[i]? = some d → Jv i c' acc → Turn0 X Γ scope vs tg elt d c' fun c2 y => Jv (i + 1) c2 (acc ++ [y])) ∧ ∀ c' acc, Jv ds.length c' acc → Pl c' acc := by
  obtain ⟨α, β, enc, dec, l, J, rfl, hz, h0, turn, done⟩ := h
  refine ⟨by rw [List.length_map]; exact hz, fun i c' acc => ∃ bs, acc = bs.map dec ∧ J i c' bs, ⟨[], rfl, h0⟩, ?_, ?_⟩
  · rintro i d c' acc hd ⟨bs, rfl, hj⟩ F' s0 H0 C cl fp
    refine .mk fun σ H v Q S dv k => ?_
    rw [List.getElem?_map] at hd
    obtain ⟨r, hr, rfl⟩ := Option.map_eq_some_iff.mp hd
    refine turn i r c' bs hr hj F' s0 H0 C cl fp σ H v Q S dv fun Γ2 σ2 q S2 w => k Γ2 σ2 ?_ S2 w
    intro s0 H0 C cl fp
    refine (q s0 H0 C cl fp).mono ?_
    rintro c2 y ⟨b, rfl, hj2⟩
    exact ⟨bs ++ [b], by rw [List.map_append]; rfl, hj2⟩
  · rintro c' acc ⟨bs, rfl, hj⟩
    rw [List.length_map] at hj
    exact done c' bs hj
theorem se_J {elt tg iter : Expr} {scope : Scope} {P : Cells → Dt → Prop} (hc : X.calm = true) (hN : X.N.Nodup) (ok : BlkOk X.N X.env.scope scope (ownOf X.N tg))
    (h : SW F X Γ c tg iter fun c1 ds => LcJ X Γ scope ((ownOf X.N tg).map (·.2)) tg elt c1 ds fun c2 z => P c2 (.lst z)) (hfs : ∀ x, foldedSetIterable iter X.env x = pure x := by intro _; rfl) : SE F X Γ c (.ListComp elt [⟨tg, iter, [], 0⟩] scope pos) P :=
  SEL.se (sel_lc _ hc hN ok (.mk fun σ H R S k => h σ H R S fun J H' c' ds p S' => k J H' c' ds (jm_t p) S') hfs)
theorem s_J {x : Str} {px lpos : Pos} {elt tg iter : Expr} {scope : Scope} (hc : X.calm = true) (hN : X.N.Nodup) (ok : BlkOk X.N X.env.scope scope (ownOf X.N tg))
    (h : SW F X Γ c tg iter fun c1 ds => LcJ X Γ scope ((ownOf X.N tg).map (·.2)) tg elt c1 ds fun c2 z => Φ.nx (Γ.set (ixOf X.N x) (.dat (.lst z))) c2)
    (hsw : swapsWith (.ListComp elt [⟨tg, iter, [], 0⟩] scope lpos) (some (.Name x px)) pos.line X.env = pure true := by exact sw_true rfl rfl rfl (by decide +kernel)) (hy : X.N[ixOf X.N x]? = some x := by rfl) (hyl : X.env.scope.names.lookup x = some .local := by rfl) (hfs : ∀ x, foldedSetIterable iter X.env x = pure x := by intro _; rfl) : S1 F X Γ c (.Assign [.Name x px] (.ListComp elt [⟨tg, iter, [], 0⟩] scope lpos) pos) Φ :=
  s_setT _ (ps_lc _ _ hc hN ok hsw hy hyl hfs) (lct_lc (.mk fun σ H R S k => h σ H R S fun J H' c' ds p S' => k J H' c' ds (jm_t (Pl := fun c2 z => Φ.nx (Γ.set (ixOf X.N x) (.dat (.lst z))) c2) p) S'))
theorem idxs_eq (n : Nat) : idxs n = (List.range n).map fun (i : Nat) => Dt.int (i : Int) := rfl
end
end D
end
section
set_option Elab.async false
set_option linter.all false
set_option maxRecDepth 100000
namespace D
open PySem L2 PyProof.Rows
theorem strs_of_vals {ks : List Str} {its : List Value} (rv : Vals (ks.map V.str) its) : StrsAre its ks := by
  have hl := rv.length
  rw [List.length_map] at hl
  refine strs_at hl.symm fun j v e => ?_
  obtain ⟨x, hx, rx⟩ := vals_back rv e
  rw [List.getElem?_map] at hx
  obtain ⟨y, hy, rfl⟩ := Option.map_eq_some_iff.mp hx
  obtain ⟨t, rfl⟩ := rx
  exact ⟨y, t, hy, rfl⟩
section
variable {X : Cx}
def rSortT (K : PySem.W.Frag) : List V → Hp → VK → Prop := fun xs H Q => ∃ (a : Addr) (ks : List Str), xs = [.ref a] ∧ SqT K H a (ks.map V.str) ∧ ks.length < 64 ∧ ∀ (ys : List Str) (p : Addr), ys.Perm ks → sortedS ys = true → H p = none → Q (.ref p) (upd H p (.lst (ys.map V.str)))
theorem call_sortedT : CallR X (.builtin "sorted") (rSortT X.K) := fun pn sa sg HH xs us QQ I r ⟨a, ks, ex, hq, h64, q⟩ => by
  subst ex
  rw [Vals.ref1 r]
  obtain ⟨its, rv, ⟨o, ho, hc, n, hd⟩, hz⟩ := I.tuple hq
  have hS := strs_of_vals rv
  have hal : its.length = ks.length := by have := rv.length; rw [List.length_map] at this; exact this.symm
  refine Calls.call_function_entry PyProof.Rows.kind_sorted PyProof.Rows.plain_sorted PyProof.Rows.entry_sorted (PyProof.Rows.args_sorted1 _) ?_
  unfold Builtin.«sorted»
  refine wpAny_bind (wpAny_pure ?_)
  refine wpAny_bind (wpAny_collect_seq a (.inr rfl) ho hc hd (fun h' hk => ?_) (by rw [List.size_toArray, hal, sizeLine_eq]; omega))
  have I1 : Inv X pn sg HH { sa with heap := h' } := I.kept (t' := sa.toks) hk
  refine wpAny_bind (wpAny_newList ?_ (by show its.length ≤ _; rw [hal, sizeLine_eq]; omega))
  have hoL : (h'.push (seqObj "list" its.toArray 0)).get? h'.objs.size = some (seqObj "list" its.toArray 0) := Heap.get?_push_size _ rfl
  show wpAny _ _ _ _ _ { sa with heap := h'.push (seqObj "list" its.toArray 0) }
  refine wpAny_bind (wpAny_holding (wpAny_call_entry PyProof.Rows.slot_list_sort ⟨_, hoL, rfl⟩ PyProof.Rows.entry_list_sort
    (list_sort_treeK strKind_oneLt (s := { sa with heap := h'.push (seqObj "list" its.toArray 0) }) hoL hS.keysOf (fun v₁ v₂ rest e => keyKind_strs (by rw [← e]; exact hS)) (by rw [hal]; exact h64) fun st' hp hs => ⟨_, rfl, ?_⟩)
    (PyProof.Rows.args_list_sort _)))
  obtain ⟨ys, g1, g2, g3⟩ := sorted_out_str hS hp hs
  obtain ⟨e', he'⟩ := PyProof.Rows.sortedHeap_at (vs := its) (out := (arrOf st').map (·.2)) hoL
  have hlen : (ys.map V.str).length ≤ sizeLine := by
    rw [List.length_map, g2.length_eq]
    exact Nat.le_trans (Nat.le_of_lt h64) (by decide)
  refine wpAny_pure ⟨_, rfl, .ref h'.objs.size, upd HH h'.objs.size (.lst (ys.map V.str)), I1.laid (t' := sa.toks) (fun b u e => ?_) (Nat.le_refl _)
    (show ObjOk X.prog X.w _ _ _ (.lst (ys.map V.str)) from ⟨hlen, ((arrOf st').map (·.2)).toList, e', vals_of_strs g1, by rw [Array.toArray_toList]; exact he'⟩), rfl, q ys _ g2 g3 (I1.hok.fresh (Nat.le_refl _))⟩
  have hb : b < h'.objs.size := Heap.lt_size e
  rw [PyProof.Rows.sortedHeap_old (Nat.ne_of_lt hb) (by rw [size_push']; exact Nat.lt_succ_of_lt hb)]
  exact Heap.get?_push_of_some _ e
end
def backN (s : Str) : Option Nm := if h : nameC s = true then some ⟨s, h⟩ else none
theorem back_map : ∀ l : List Nm, (l.map (·.1)).filterMap backN = l
  | [] => rfl
  | x :: l => by
    have e : backN x.1 = some x := by unfold backN; rw [dif_pos x.2]
    rw [List.map_cons, List.filterMap_cons_some e, back_map l]
theorem perm_lift : ∀ {ys : List Str} {l : List Nm}, ys.Perm (l.map (·.1)) → ∃ zs : List Nm, zs.Perm l ∧ ys = zs.map (·.1) := fun {ys l} h => by
  have hn : ∀ y ∈ ys, nameC y = true := fun y hy => by
    obtain ⟨x, _, rfl⟩ := List.mem_map.mp (h.mem_iff.mp hy)
    exact x.2
  refine ⟨ys.attach.map fun y => ⟨y.1, hn y.1 y.2⟩, ?_, ?_⟩
  · have e : ys = (ys.attach.map fun y => (⟨y.1, hn y.1 y.2⟩ : Nm)).map (·.1) := by rw [List.map_map]; exact (List.attach_map_subtype_val ys).symm
    rw [e] at h
    have := h.filterMap backN
    rw [back_map, back_map] at this
    exact this
  · rw [List.map_map]; exact (List.attach_map_subtype_val ys).symm
def sortedN (l : List Nm) : Prop := sortedS (l.map (·.1)) = true
section
variable {F : Fm} {X : Cx} {Γ : List Sl} {c : Cells} {P : Cells → Dt → Prop}
theorem cv_sortedNT {l : List Nm} (h64 : l.length < 64) (p : ∀ ys : List Nm, ys.Perm l → sortedN ys → P c (nL ys)) : ClV F X Γ c (.builtin "sorted") [nT l] P :=
  ClV.of call_sortedT fun σ H vs Q S dvs k => by
    cases dvs with
    | cons dv t =>
      cases t
      cases dv with
      | tup a t =>
        have e : l.map nD = (l.map (·.1)).map Dt.str := by rw [List.map_map]; rfl
        rw [e] at t
        have et := DVs.of_strs t
        subst et
        refine ⟨_, l.map (·.1), rfl, (a.mono (mask_ex _ _)).t, by rw [List.length_map]; exact h64, fun ys q hp hs hq => ?_⟩
        obtain ⟨zs, h1, rfl⟩ := perm_lift hp
        have e2 : (zs.map (·.1)).map Dt.str = zs.map nD := by rw [List.map_map]; rfl
        have dvs := DVs.strs (K := X.K) (H := mask (hid F c) H) (zs.map (·.1))
        rw [e2] at dvs
        exact k _ _ c _ (p zs h1 hs) (S.new hq) (Kp.new (F := F) hq).hid (S.newL hq dvs)
theorem cv_sortedDC (j : Nat) {a : Addr} {f : Nm → Dt} {l : List Nm} (hc : X.calm = true) (hj : c[j]? = some (a, .dk (l.map fun x => (.inr x.1, f x)))) (h64 : l.length < 64) (p : ∀ ys : List Nm, ys.Perm l → sortedN ys → P c (nL ys)) : ClV F X Γ c (.builtin "sorted") [.raw (.ref a)] P :=
  ClV.of (call_sortedD hc) fun σ H vs Q S dvs k => by
    cases dvs with
    | cons dv t =>
      cases t
      cases dv
      obtain ⟨xs, ha, t⟩ := S.cat hj
      have hk := t.p.keys
      refine ⟨a, xs, l.map (·.1), rfl, .inl ha, by rw [hk, List.map_map, List.map_map]; rfl, by rw [List.length_map]; exact h64, fun ys q hp hs hq => ?_⟩
      obtain ⟨zs, h1, rfl⟩ := perm_lift hp
      have e2 : (zs.map (·.1)).map Dt.str = zs.map nD := by rw [List.map_map]; rfl
      have dvs := DVs.strs (K := X.K) (H := mask (hid F c) H) (zs.map (·.1))
      rw [e2] at dvs
      exact k _ _ c _ (p zs h1 hs) (S.new hq) (Kp.new (F := F) hq).hid (S.newL hq dvs)
end
end D
end
section
set_option Elab.async false
set_option linter.all false
set_option maxRecDepth 100000
namespace D
open PySem L2 PyProof.Rows PyProof
theorem isTup_ne {P : Program} {w : World} {h : Heap} {a b : Addr} {its : Array Value} {acc : List (Key × Value)} (ht : IsTup h b its) (hd : h.DictOf (mixKind P w) a acc) : b ≠ a := fun e => by
  subst e
  obtain ⟨o, h1, h2, _⟩ := ht
  obtain ⟨o', _, _, g1, g2, _⟩ := hd
  rw [h1] at g1; cases g1
  have g3 := g2.1
  rw [h2] at g3
  exact absurd g3 (by decide)
section
variable {prog : Program} {w : World} {A : Around} {E : Value → Shared → Prop} {s : Shared}
theorem upd_pairs {S l : Addr} {ol : Obj} {items : Array Value} {n : Nat} {acc prs : List (Key × Value)} {Q : Value → Shared → Prop} (hh : A.handled = none) (hm : s.heap.DictOf (mixKind prog w) S acc) (hl : s.heap.get? l = some ol) (hc : ol.cls = .type "list") (hd : ol.dict = none)
    (hdat : ol.data = .seq items n) (hsz : items.size = prs.length) (hln : acc.length + prs.length ≤ sizeLine)
    (ht : ∀ (j : Nat) (q : Key × Value), prs[j]? = some q → ∃ (b : Addr) (u : Value), items[j]? = some (.ref b) ∧ IsTup s.heap b #[u, q.2] ∧ keyIs q.1 u = true)
    (h : ∀ h' tk, h'.DictOf (mixKind prog w) S (merged acc prs) → (∀ b o, b ≠ S → s.heap.get? b = some o → h'.get? b = some o) → Q .none { s with heap := h', toks := tk }) :
    wpAny (model prog w) A (call (.builtin "dict.update") [.ref S, .ref l]) Q E s := by
  have hSl : S ≠ l := fun e => by
    subst e
    obtain ⟨o', g1, g2⟩ := hm.typeIs
    rw [hl] at g1; cases g1
    rw [hc] at g2; exact absurd g2 (by decide)
  have hSlt : S < s.heap.objs.size := by obtain ⟨o', g1, _⟩ := hm.typeIs; exact Heap.lt_size g1
  refine call_meetsIn PySem.F.slot_dict_update hm.typeIs PySem.F.entry_dict_update (PySem.F.args_dict_update_2 _ _)
    (S := fun A' R s' => A' = A ∧ s' = s ∧ ∀ h' tk, h'.DictOf (mixKind prog w) S (merged acc prs) → (∀ b o, b ≠ S → s.heap.get? b = some o → h'.get? b = some o) → R (.ok (.ret .none)) { s with heap := h', toks := tk })
    (fun A' R s' hS => ?_) ⟨rfl, rfl, fun h' tk h1 h2 => h h' tk h1 h2⟩
  obtain ⟨rfl, rfl, hq⟩ := hS
  unfold Builtin.«dict.update»
  refine wpAny_bind ?_
  unfold Builtin.Dict.selfAndRest
  refine wpAny_bind (wpAny_notOrdered_dict hm.typeIs ?_)
  show wpAny _ _ (pure (S, [Value.ref l])) _ _ _
  refine wpAny_pure ?_
  show wpAny _ _ (Builtin.Dict.updateFrom "dict.update" S (.ref l) [] .none) _ _ _
  unfold Builtin.Dict.updateFrom
  refine wpAny_bind (wpAny_typeOf (T := "list") ⟨ol, hl, hc⟩ ?_)
  rw [if_pos (by first | decide | rfl | simp)]
  refine wpAny_bind (miss_list hl hc hdat hd hh fun h1 tk1 hk1 => ?_)
  rw [if_pos (show (none : Option Value).isNone = true from rfl)]
  refine wpAny_bind (wpAny_rule ?_)
  have hl1 : h1.IsList l items := ⟨ol, hk1 _ _ hl, hc, n, hdat⟩
  refine wpAny_bind (wpAny_pyIter_list hl1 ?_)
  have k2 : ∀ b o, h1.get? b = some o → (h1.push { cls := .type "list_iterator", data := .fields #[.ref l, .int 0 0] }).get? b = some o := fun b o e => Heap.get?_push_of_some _ e
  have hlt1 : l < h1.objs.size := Heap.lt_size (hk1 _ _ hl)
  have hS1 : S < h1.objs.size := by obtain ⟨o', g1, _⟩ := hm.typeIs; exact Heap.lt_size (hk1 _ _ g1)
  have key := upd_loop (prog := prog) (w := w) (A := A') (R := R) (S := S) (I := h1.objs.size) (l := l) (items := items) (res := Value.none) hh
    (Nat.ne_of_lt hlt1) (Nat.ne_of_lt hS1) hSl prs 0 acc 0 0
    { s' with heap := h1.push { cls := .type "list_iterator", data := .fields #[.ref l, .int 0 0] }, toks := tk1 } (by rw [hsz, Nat.zero_add]) hln
    (fun j q e => by
      obtain ⟨b, u, e1, e2, e3⟩ := ht j q e
      have hb : b < h1.objs.size := by obtain ⟨o', g1, _⟩ := e2; exact Heap.lt_size (hk1 _ _ g1)
      exact ⟨b, u, by rw [Nat.zero_add]; exact e1, isTup_ne e2 hm, Nat.ne_of_lt hb, e2.keeps fun c o z => k2 _ _ (hk1 _ _ z), e3⟩)
    ⟨_, Heap.get?_push_size _ rfl, rfl, rfl⟩ (hl1.at fun o e => k2 _ _ e) ((hm.at fun o e => hk1 _ _ e).at fun o e => k2 _ _ e)
    (fun h' tk hd' k => hq h' tk hd' fun b o hb e => k b o hb (Nat.ne_of_lt (Heap.lt_size (hk1 _ _ e))) (k2 _ _ (hk1 _ _ e)))
  first
    | exact wpAny_pure ⟨plainId_quiet ud_plain _, key⟩
    | exact wpAny_bind (wpAny_pure (wpAny_pure ⟨plainId_quiet ud_plain _, key⟩))
end
section
variable {X : Cx}
def rUpdL (K : PySem.W.Frag) : V → List V → Hp → VK → Prop := fun x vs H Q => ∃ a b kvs ps more, x = .ref a ∧ vs = [.ref b] ∧ H a = some (.dK kvs) ∧ SqL K H b (ps.map V.ref) ∧ Paired (fun p kv => SqT K H p [kV kv.1, kv.2]) ps more ∧ kvs.length + more.length ≤ sizeLine ∧ Q .non (upd H a (.dK (mergeK kvs more)))
theorem mt_updateL (hcalm : X.calm = true) : MtR X "dict.update" (rUpdL X.K) := fun pins s σ H x vs v us Q I rx rv ⟨a, b, kvs, ps, more, ex, ev, ea, hq, hp, hl, q⟩ => by
  subst ex ev
  obtain rfl : v = Value.ref a := rx
  cases rv with
  | cons ry rv =>
    cases rv
    cases ry
    obtain ⟨z, hd, vs0, rel, dd⟩ := dk_of I.hok ea
    obtain ⟨its, rv, pl, hz⟩ := I.list hq
    have ei := refs_at rv
    subst ei
    obtain ⟨prs, rel2, hlp, hpr⟩ := pairs_of I hp
    obtain ⟨o, n, ho, hc, hd2, hdat⟩ := pl
    refine upd_pairs (acc := vs0) (prs := prs) (I.ok.hd hcalm) dd ho hc hd2 hdat (by simp [hlp]) (by rw [← rel.length, ← rel2.length]; exact hl) (fun j q' e => ?_) fun h' tk hd' k => ?_
    · obtain ⟨b, u, e1, e2, e3⟩ := hpr j q' e
      exact ⟨b, u, by simp [e1], e2, e3⟩
    · have hl2 : (mergeK kvs more).length ≤ sizeLine := Nat.le_trans (length_mergeK more kvs) hl
      exact (⟨.non, _, I.write (x := a) (e := a) (t' := tk) (by rw [ea]; exact True.intro) (.inl rfl) (fun b q hb z => k b q hb z) (let ⟨q, _, _, hq, _⟩ := hd'; ⟨q, hq⟩) (dk_new hl2 hd (KV.merge rel2 rel) hd'), rfl, q⟩ : EP X pins σ Q _ _)
end
section
variable {F : Fm} {X : Cx} {Γ : List Sl} {c : Cells} {P : Cells → Dt → Prop} {pos : Pos}
theorem dvs_pairs {K : PySem.W.Frag} {H : Hp} {α : Type} (k : α → Key) (f : α → Dt) (kd : ∀ x v, DV K H v (kD (k x)) → v = kV (k x)) : ∀ {l : List α} {xs : List V}, DVs K H xs (l.map fun x => .tup [kD (k x), f x]) → ∃ (ps : List Addr) (more : List (Key × V)), xs = ps.map V.ref ∧ Paired (fun p kv => SqT K H p [kV kv.1, kv.2]) ps more ∧ DVk K H more (l.map fun x => (k x, f x))
  | [], _, .nil => ⟨[], [], rfl, .nil, .nil⟩
  | x :: l, _, .cons h t => by
    obtain ⟨ps, more, e, p, d⟩ := dvs_pairs k f kd t
    cases h with
    | tup a u =>
      cases u with
      | cons h1 u => cases u with
        | cons h2 u =>
          cases u
          have := kd x _ h1
          subst this
          exact ⟨_ :: ps, _ :: more, by rw [e]; rfl, .cons a.t p, .cons h2 d⟩
/-- d.update([(k, v), ..]), d a cell -/
theorem se_updateL {o e : Expr} {apos : Pos} {α : Type} (k : α → Key) (f : α → Dt) (hc : X.calm = true) (h : SE F X Γ c o fun c1 d0 => ∃ a j l0, d0 = .raw (.ref a) ∧ c1[j]? = some (a, .dk l0) ∧ SE F X Γ c1 e fun c2 d2 => ∃ (l : List (Key × Dt)) (m : List α), d2 = .lst (m.map fun x => .tup [kD (k x), f x]) ∧ c2[j]? = some (a, .dk l) ∧ l.length + m.length ≤ sizeLine ∧
      P (c2.set j (a, .dk ((m.map fun x => (k x, f x)).foldl (fun acc kv => dput acc kv.1 kv.2) l))) .non)
    (hbase : attributeBase o "update" X.env (eval o X.env) = eval o X.env := by rfl)
    (hfew : ((backTo pos (starEach [e] X.env)).all (fun x => !x.1) && (backToKw pos (keywordEach [] X.env)).all (fun x => x.1.isSome)
      && decide ([e].length + ([] : List Keyword).length + (if ([] : List Keyword).isEmpty then 0 else 1) < 30)) = true := by rfl)
    (hline : (apos.endLine == pos.line) = true := by rfl) (hs : starEach [e] X.env = (false, eval e X.env) :: starEach [] X.env := by rfl) (hplain : (backTo pos (starEach [] X.env)).any (·.1) = false := by rfl) :
    SE F X Γ c (.Call (.Attribute o "update" apos) [e] [] pos) P :=
  SE.of (pe_dm PySem.F.slot_dict_update PySem.F.type_dict_update (mt_updateL hc) pE pAs hbase hfew hline hs hplain) fun σ H Q S kk => h σ H _ S fun v H1 c1 d0 p S1 e1 dv => by
    obtain ⟨a, j, l0, rfl, hj0, p⟩ := p
    cases dv
    obtain ⟨xs0, ha0, _⟩ := S1.cat hj0
    have pa : SA F X Γ c1 [e] fun c2 ds => ∃ d2, ds = [d2] ∧ ∃ (l : List (Key × Dt)) (m : List α), d2 = .lst (m.map fun x => .tup [kD (k x), f x]) ∧ c2[j]? = some (a, .dk l) ∧ l.length + m.length ≤ sizeLine ∧ P (c2.set j (a, .dk ((m.map fun x => (k x, f x)).foldl (fun acc kv => dput acc kv.1 kv.2) l))) .non :=
      sa_cons (p.mono fun c2 d2 q => sa_nil ⟨_, rfl, q⟩) hs
    refine ⟨a, rfl, .inl ⟨_, .inl ha0⟩, pa σ H1 _ S1 fun vs H2 c2 ds p2 S2 e2 dvs => ?_⟩
    obtain ⟨d2, rfl, l, m, rfl, hj, hz, q⟩ := p2
    cases dvs with
    | cons dv2 t =>
      cases t
      cases dv2 with
      | lst b t =>
        obtain ⟨ps, more, rfl, hp, hd⟩ := dvs_pairs k f (fun x v hv => by
          cases hk : k x with
          | inl i => rw [hk] at hv; cases hv; rfl
          | inr s => rw [hk] at hv; cases hv; rfl) t
        obtain ⟨xs, ha, t0⟩ := S2.cat hj
        have hp' : Paired (fun p kv => SqT X.K H2 p [kV kv.1, kv.2]) ps more := Paired.mono (fun p kv z => ex_t (mask_ex _ _) z) hp
        have hlen : more.length = m.length := by rw [hd.p.length, List.length_map]
        refine ⟨a, _, xs, ps, more, rfl, rfl, ha, .inl (.inl (of_mask b).2), hp', by rw [t0.p.length, hlen]; exact hz, ?_⟩
        obtain ⟨S3, e3⟩ := S2.updC (q' := .dk ((m.map fun x => (k x, f x)).foldl (fun acc kv => dput acc kv.1 kv.2) l)) (o := .dK (mergeK xs more)) hj rfl rfl ⟨_, upd_same, DVk.merge t0 hd⟩
        exact kk _ _ _ _ q S3 ((e1.trans e2).trans e3) .non
end
end D
end
section
set_option Elab.async false
set_option linter.all false
set_option maxRecDepth 100000
namespace W
open PySem L2 D PyProof.Rows
def top (i : Nat) : Stmt := PySem.Challenge.pw_openlines_k05_whole_merges.main.body.getD i (.Pass ⟨0, 0, 0, 0⟩)
abbrev s_NoMerge___init__ : Stmt := inClass (top 1) 0
abbrev n_NoMerge___init__ : List Str := ["self", "ring"]
theorem sc_NoMerge___init__ : FnScope n_NoMerge___init__ ["self", "ring"] (defScope s_NoMerge___init__) := ⟨rfl, rfl, rfl, by decide +kernel, rfl, by decide +kernel, by decide +kernel⟩
abbrev s_is_integer : Stmt := top 3
abbrev n_is_integer : List Str := ["thing"]
theorem sc_is_integer : FnScope n_is_integer ["thing"] (defScope s_is_integer) := ⟨rfl, rfl, rfl, by decide +kernel, rfl, by decide +kernel, by decide +kernel⟩
abbrev s_next_name : Stmt := top 4
abbrev n_next_name : List Str := ["rows", "row", "other"]
theorem sc_next_name : FnScope n_next_name ["rows"] (defScope s_next_name) := ⟨rfl, rfl, rfl, by decide +kernel, rfl, by decide +kernel, by decide +kernel⟩
abbrev s_earliest_demands : Stmt := top 5
abbrev n_earliest_demands : List Str := ["lists", "found", "at", "row", "spot", "name", "other"]
theorem sc_earliest_demands : FnScope n_earliest_demands ["lists"] (defScope s_earliest_demands) := ⟨rfl, rfl, rfl, by decide +kernel, rfl, by decide +kernel, by decide +kernel⟩
abbrev s_distances_to : Stmt := top 6
abbrev n_distances_to : List Str := ["demands", "goal", "found", "level", "steps", "name", "after"]
theorem sc_distances_to : FnScope n_distances_to ["demands", "goal"] (defScope s_distances_to) := ⟨rfl, rfl, rfl, by decide +kernel, rfl, by decide +kernel, by decide +kernel⟩
abbrev s_least_road : Stmt := top 7
abbrev n_least_road : List Str := ["demands", "start", "goal", "distances", "road", "name", "left", "nearer", "other"]
theorem sc_least_road : FnScope n_least_road ["demands", "start", "goal"] (defScope s_least_road) := ⟨rfl, rfl, rfl, by decide +kernel, rfl, by decide +kernel, by decide +kernel⟩
abbrev s_least_ring : Stmt := top 8
abbrev n_least_ring : List Str := ["lists", "demands", "sizes", "least", "start", "name", "size"]
theorem sc_least_ring : FnScope n_least_ring ["lists"] (defScope s_least_ring) := ⟨rfl, rfl, rfl, by decide +kernel, rfl, by decide +kernel, by decide +kernel⟩
abbrev s_merge_or_none : Stmt := top 9
abbrev n_merge_or_none : List Str := ["lists", "rows", "found", "name", "row", "other"]
theorem sc_merge_or_none : FnScope n_merge_or_none ["lists"] (defScope s_merge_or_none) := ⟨rfl, rfl, rfl, by decide +kernel, rfl, by decide +kernel, by decide +kernel⟩
abbrev s_merge_or_ring : Stmt := top 10
abbrev n_merge_or_ring : List Str := ["lists", "found"]
theorem sc_merge_or_ring : FnScope n_merge_or_ring ["lists"] (defScope s_merge_or_ring) := ⟨rfl, rfl, rfl, by decide +kernel, rfl, by decide +kernel, by decide +kernel⟩
abbrev s_merged : Stmt := top 11
abbrev n_merged : List Str := ["lists", "found", "ring"]
theorem sc_merged : FnScope n_merged ["lists"] (defScope s_merged) := ⟨rfl, rfl, rfl, by decide +kernel, rfl, by decide +kernel, by decide +kernel⟩
abbrev s_is_demand : Stmt := top 12
abbrev n_is_demand : List Str := ["lists", "thing", "first", "second", "at", "row"]
theorem sc_is_demand : FnScope n_is_demand ["lists", "thing"] (defScope s_is_demand) := ⟨rfl, rfl, rfl, by decide +kernel, rfl, by decide +kernel, by decide +kernel⟩
abbrev s_is_road : Stmt := top 13
abbrev n_is_road : List Str := ["lists", "thing", "one", "other"]
theorem sc_is_road : FnScope n_is_road ["lists", "thing"] (defScope s_is_road) := ⟨rfl, rfl, rfl, by decide +kernel, rfl, by decide +kernel, by decide +kernel⟩
abbrev s_is_ring : Stmt := top 14
abbrev n_is_ring : List Str := ["lists", "thing"]
theorem sc_is_ring : FnScope n_is_ring ["lists", "thing"] (defScope s_is_ring) := ⟨rfl, rfl, rfl, by decide +kernel, rfl, by decide +kernel, by decide +kernel⟩
abbrev s__law_bag : Stmt := top 16
abbrev n__law_bag : List Str := ["_law_script", "_law_at", "_law_cell", "_law_digits"]
theorem sc__law_bag : FnScope n__law_bag ["_law_script", "_law_at"] (defScope s__law_bag) := ⟨rfl, rfl, rfl, by decide +kernel, rfl, by decide +kernel, by decide +kernel⟩
abbrev s__law_take : Stmt := top 17
abbrev n__law_take : List Str := ["_law_bag_here", "_law_many", "_law_digit"]
theorem sc__law_take : FnScope n__law_take ["_law_bag_here", "_law_many"] (defScope s__law_take) := ⟨rfl, rfl, rfl, by decide +kernel, rfl, by decide +kernel, by decide +kernel⟩
abbrev s__law_names : Stmt := top 18
abbrev n__law_names : List Str := ["_law_bag_here", "_law_many", "_law_letters", "_law_size", "_law_spot", "_law_first", "_law_base", "_law_own", "_law_k", "_law_one"]
theorem sc__law_names : FnScope n__law_names ["_law_bag_here", "_law_many"] (defScope s__law_names) := ⟨rfl, rfl, rfl, by decide +kernel, rfl, by decide +kernel, by decide +kernel⟩
abbrev s__law_some : Stmt := top 19
abbrev n__law_some : List Str := ["_law_bag_here", "_law_things", "_law_most", "_law_left", "_law_found", "_law_turn"]
theorem sc__law_some : FnScope n__law_some ["_law_bag_here", "_law_things", "_law_most"] (defScope s__law_some) := ⟨rfl, rfl, rfl, by decide +kernel, rfl, by decide +kernel, by decide +kernel⟩
abbrev s__law_open : Stmt := top 20
abbrev n__law_open : List Str := ["_law_lists", "_law_left", "_law_turn", "_law_every", "_law_row", "_law_free", "_law_name"]
theorem sc__law_open : FnScope n__law_open ["_law_lists"] (defScope s__law_open) := ⟨rfl, rfl, rfl, by decide +kernel, rfl, by decide +kernel, by decide +kernel⟩
abbrev s__law_told : Stmt := top 21
abbrev n__law_told : List Str := ["_law_lists", "e"]
theorem sc__law_told : FnScope n__law_told ["_law_lists"] (defScope s__law_told) := ⟨rfl, rfl, rfl, by decide +kernel, rfl, by decide +kernel, by decide +kernel⟩
abbrev s__law_keeps : Stmt := top 22
abbrev n__law_keeps : List Str := ["_law_whole", "_law_row", "_law_name"]
theorem sc__law_keeps : FnScope n__law_keeps ["_law_whole", "_law_row"] (defScope s__law_keeps) := ⟨rfl, rfl, rfl, by decide +kernel, rfl, by decide +kernel, by decide +kernel⟩
abbrev s_law : Stmt := top 23
abbrev n_law : List Str := ["_law_script", "_law_k", "_law_bag_here", "_law_names_here", "_law_order", "_law_turn", "_law_lists", "_law_word", "_law_found", "_law_every", "_law_row", "_law_at", "_law_fewer", "_law_parts", "_law_again", "_law_name", "_law_some_here"]
theorem sc_law : FnScope n_law ["_law_script"] (defScope s_law) := ⟨rfl, rfl, rfl, by decide +kernel, rfl, by decide +kernel, by decide +kernel⟩
end W
end
section
set_option Elab.async false
set_option linter.all false
set_option maxRecDepth 100000
set_option maxHeartbeats 4000000
open PySem L2 D PyProof.Rows
local macro_rules
  | `(tactic| fail "z") => `(tactic| ((try simp only [List.length_map, List.length_cons, List.length_nil, List.length_append, List.length_drop, List.length_take]); have := big_line; omega))
local macro_rules
  | `(tactic| fail) => `(tactic| first
    | (refine (?_ : SE _ _ _ _ _ _); first | refine se_nm rfl ?_ | refine se_tyTuple (by assumption) ?_ | refine se_tyStr (by assumption) ?_ | refine se_tyInt (by assumption) ?_ | refine se_tyBool (by assumption) ?_ | refine se_int ?_ | refine se_str ?_ | refine se_non ?_ | refine se_bl ?_ | refine se_cmp ?_ | refine se_bin ?_ | refine se_ix ?_ | refine se_slice ?_ | refine se_tup ?_ | refine se_lst ?_ | (refine (?_ : SE _ _ _ _ (.Call _ _ _ _) _); first | refine se_any (by assumption) ?_ | refine se_all (by assumption) ?_ | refine se_len (by assumption) ?_ | refine se_min (by assumption) ?_ | refine se_max (by assumption) ?_ | refine se_sorted (by assumption) ?_ | refine se_isi (by assumption) ?_ | refine se_abs (by assumption) ?_ | refine se_sum (by assumption) ?_ | refine se_tupleC (by assumption) ?_ | refine se_listC (by assumption) ?_) | refine se_M rfl (by assumption) (blkOk_by rfl) ?_ | refine se_F rfl (by assumption) (blkOk_by rfl) ?_ | refine se_Dc rfl (by assumption) (blkOk_by rfl) ?_ | refine se_chain ?_ | refine se_indexN ?_ | refine se_not ?_ | refine se_if ?_ | refine se_one ?_ | refine se_and ?_ | refine se_or ?_ | refine se_neg ?_)
    | (refine (?_ : ST _ _ _ _ _ _); first | refine st_cmp ?_ | refine st_chain ?_ | refine st_not ?_ | refine st_w (sw_and ?_) | refine st_w (sw_or ?_) | refine st_val ?_)
    | (refine (?_ : SWt _ _ _ _ _ _); first | refine sw_and ?_ | refine sw_and1 ?_ | refine sw_or ?_ | refine sw_or1 ?_)
    | (refine (?_ : SA _ _ _ _ _ _); first | refine sa_cons ?_ | refine sa_nil ?_)
    | (refine (?_ : SO _ _ _ _ _ _); first | refine so_none ?_ | refine so_some ?_)
    | (refine (?_ : SS _ _ _ _ _ _); first | refine ss_one ?_ | refine ss_cons ?_)
    | (refine (?_ : S1 _ _ _ _ _ _); first | refine s_ret ?_ | refine s_if ?_ | refine s_M rfl (by assumption) (blkOk_by rfl) ?_ | refine s_F rfl (by assumption) (blkOk_by rfl) ?_ | refine s_Dc rfl (by assumption) (blkOk_by rfl) ?_ | refine s_st (by assumption) ?_ | refine s_aug (by assumption) rfl ?_ | refine s_asg ?_ | refine s_expr ?_)
    | (refine (?_ : SG _ _ _ _ _ _ _); first | refine sg_nm (by assumption) ?_ | refine sg_par rfl ?_ | refine sg_tup rfl ?_)
    | (refine (?_ : SGs _ _ _ _ _ _ _); first | refine sgs_cons ?_ | refine sgs_nil ?_)
    | (refine (?_ : SGb _ _ _ _ _ _ _ _); first | refine sgb_nm (by assumption) ?_ (by first | exact vs_self | exact vs_one | exact vs_two) | refine sgb_par rfl ?_ | refine sgb_tup rfl ?_)
    | (refine (?_ : SGbs _ _ _ _ _ _ _ _); first | refine sgbs_cons ?_ | refine sgbs_nil ?_)
    | (refine (?_ : SW _ _ _ _ _ _ _); first | refine sw_vals ?_ | refine sw_zipT (by assumption) ?_ | refine sw_range (by assumption) ?_ | refine sw_seq ?_)
    | (refine (?_ : OpV _ _ _ _ _ _ _ _); first | refine ov_eqN ?_ | refine ov_neN ?_ | refine ov_inN ?_ | refine ov_ninN ?_ | refine ov_inNT ?_ | refine ov_ninNT ?_ | refine oi_add ?_ | refine oi_catT (by fail "z") ?_ | refine ov_cat (by fail "z") ?_ | refine ov_catT (by fail "z") ?_ | refine ov_add ?_ | refine ov_sub ?_ | refine ov_lt ?_ | refine ov_le ?_ | refine ov_gt ?_ | refine ov_ge ?_ | refine ov_eqI ?_ | refine ov_neI ?_ | refine ov_eqS ?_ | refine ov_neS ?_ | refine ov_eqB ?_ | refine ov_neB ?_)
    | (refine (?_ : IxV _ _ _ _ _ _ _); first | refine iv_cons ?_ | refine iv_consT ?_)
    | (refine (?_ : SlV _ _ _ _ _ _ _ _); first | refine sv_fromL (by decide) ?_ | refine sv_fromT (by decide) ?_ | refine sv_toL (by decide) ?_ | refine sv_toT (by decide) ?_)
    | (refine (?_ : ClV _ _ _ _ _ _ _); first | refine cv_anyM rfl ?_ | refine cv_allM rfl ?_ | refine cv_len rfl ?_ | refine cv_tuple rfl ?_ | refine cv_list rfl ?_ | refine cv_abs ?_ | refine cv_isStr rfl ?_ | refine cv_isTup rfl ?_ | refine cv_isInt rfl ?_ | refine cv_isBool rfl ?_ | refine cv_sum rfl ?_)
    | refine turn0I (fun _ _ _ _ _ _ => ?_) | refine turn1I (fun _ _ _ _ _ _ => ?_) | refine turnDI (fun _ _ _ _ _ _ => ?_) | refine abI (fun _ _ _ _ _ => ?_) | refine iteT ?_ | refine iteF ?_ | refine And.intro (show _ ≤ sizeLine by fail "z") ?_ | refine ⟨_, rfl, ?_⟩)
namespace W
open PySem L2 D PyProof.Rows
structure Txt (mg : Str → Option Value) : Prop where
  any : mg "any" = none
  all : mg "all" = none
  len : mg "len" = none
  min : mg "min" = none
  max : mg "max" = none
  abs : mg "abs" = none
  isi : mg "isinstance" = none
  tuple : mg "tuple" = none
  list : mg "list" = none
  sorted : mg "sorted" = none
  sum : mg "sum" = none
  str : mg "str" = none
  int : mg "int" = none
  bool : mg "bool" = none
  range : mg "range" = none
  enumerate : mg "enumerate" = none
  zip : mg "zip" = none
abbrev rowD (r : List Nm) : Dt := nL r
def freeIn (R : List (List Nm)) (x : Nm) : Bool := !(R.any fun o => decide (x ∈ o.drop 1))
def nextFrom (R : List (List Nm)) : List (List Nm) → Option Nm
  | [] => none
  | [] :: rest => nextFrom R rest
  | (x :: _) :: rest => if freeIn R x = true then some x else nextFrom R rest
def optD : Option Nm → Dt
  | none => .non
  | some x => nD x
section
variable {P : Program} {w : World} {K : PySem.W.Frag} {mg : Str → Option Value} {base : Heap}
abbrev RowsOk (R : List (List Nm)) : Prop := R.length ≤ 100 ∧ ∀ r ∈ R, r.length ≤ 100
abbrev sp_next_name (K : PySem.W.Frag) : Sp := spP K (fun R : List (List Nm) => [.lst (R.map rowD)]) RowsOk (fun R d => d = optD (nextFrom R R))
theorem ok_next_name {f : Addr} {fd : FuncData} (Fu : Fun K "next_name" "next_name" s_next_name f fd) (T : Txt mg) : FnOk P w K mg base (L2.CX P w) 1 f fd ["rows"] (sp_next_name K) := by
  refine fn_P Fu sc_next_name (fun a => rfl) (fun cdv A outer s H E F R hp hr => ?_)
  have nd := sc_next_name.nd
  have hany := T.any
  obtain ⟨hp1, hp2⟩ := hp
  refine ss_cons ?_
  refine s_for (passes_of rfl) rfl ?_
  refine sw_lst ?_
  repeat fail
  refine for_t (fun rest Γ c => (∃ u, Γ = [.dat (.lst (R.map rowD)), u, .un] ∧ c = []) ∧ nextFrom R rest = nextFrom R R) ⟨⟨_, rfl, rfl⟩, rfl⟩ ?_ ?_
  · rintro pre r rest Γ c hl ⟨⟨u, rfl, rfl⟩, hn⟩
    refine sg_name 1 sc_next_name.nd ?_
    repeat fail
    refine ov_neNil hr.units (fit_nL r) ?_
    repeat fail
    refine ite2 (fun h => ?_) (fun h => ?_)
    · cases r with
      | nil => cases h
      | cons x r =>
        repeat fail
        apply lcM
        · fail "z"
        · intro o ho
          repeat fail
          exact ⟨rfl, rfl⟩
        repeat fail
        refine ite2 (fun h => ?_) (fun h => ?_)
        · repeat fail
          refine ⟨rfl, ?_⟩
          rw [← hn]; unfold nextFrom; rw [if_pos (show freeIn R x = true from h)]; rfl
        · refine ss_nil ⟨⟨_, rfl, rfl⟩, ?_⟩
          rw [← hn]; conv => rhs; unfold nextFrom; rw [if_neg (show ¬ freeIn R x = true from h)]
    · repeat fail
      refine ss_nil  ?_
      refine ⟨⟨_, rfl, rfl⟩, ?_⟩
      cases r with
      | nil => rw [← hn]; rfl
      | cons x r => exact absurd rfl h
  · rintro Γ c ⟨⟨u, rfl, rfl⟩, hn⟩
    repeat fail
    exact ⟨rfl, by rw [← hn]; rfl⟩
end
end W
end
section
set_option Elab.async false
set_option linter.all false
set_option maxRecDepth 100000
set_option maxHeartbeats 4000000
open PySem L2 D PyProof.Rows
local macro_rules
  | `(tactic| fail "z") => `(tactic| ((try simp only [List.length_map, List.length_cons, List.length_nil, List.length_append, List.length_drop, List.length_take]); have := big_line; omega))
local macro_rules
  | `(tactic| fail) => `(tactic| first
    | (refine (?_ : SE _ _ _ _ _ _); first | refine se_nm rfl ?_ | refine se_tyTuple (by assumption) ?_ | refine se_tyStr (by assumption) ?_ | refine se_tyInt (by assumption) ?_ | refine se_tyBool (by assumption) ?_ | refine se_int ?_ | refine se_str ?_ | refine se_non ?_ | refine se_bl ?_ | refine se_cmp ?_ | refine se_bin ?_ | refine se_ix ?_ | refine se_slice ?_ | refine se_tup ?_ | refine se_lst ?_ | (refine (?_ : SE _ _ _ _ (.Call _ _ _ _) _); first | refine se_any (by assumption) ?_ | refine se_all (by assumption) ?_ | refine se_len (by assumption) ?_ | refine se_min (by assumption) ?_ | refine se_max (by assumption) ?_ | refine se_sorted (by assumption) ?_ | refine se_isi (by assumption) ?_ | refine se_abs (by assumption) ?_ | refine se_sum (by assumption) ?_ | refine se_tupleC (by assumption) ?_ | refine se_listC (by assumption) ?_) | refine se_M rfl (by assumption) (blkOk_by rfl) ?_ | refine se_F rfl (by assumption) (blkOk_by rfl) ?_ | refine se_Dc rfl (by assumption) (blkOk_by rfl) ?_ | refine se_chain ?_ | refine se_indexN ?_ | refine se_not ?_ | refine se_if ?_ | refine se_one ?_ | refine se_and ?_ | refine se_or ?_ | refine se_neg ?_)
    | (refine (?_ : ST _ _ _ _ _ _); first | refine st_cmp ?_ | refine st_chain ?_ | refine st_not ?_ | refine st_w (sw_and ?_) | refine st_w (sw_or ?_) | refine st_val ?_)
    | (refine (?_ : SWt _ _ _ _ _ _); first | refine sw_and ?_ | refine sw_and1 ?_ | refine sw_or ?_ | refine sw_or1 ?_)
    | (refine (?_ : SA _ _ _ _ _ _); first | refine sa_cons ?_ | refine sa_nil ?_)
    | (refine (?_ : SO _ _ _ _ _ _); first | refine so_none ?_ | refine so_some ?_)
    | (refine (?_ : SS _ _ _ _ _ _); first | refine ss_one ?_ | refine ss_cons ?_)
    | (refine (?_ : S1 _ _ _ _ _ _); first | refine s_ret ?_ | refine s_if ?_ | refine s_M rfl (by assumption) (blkOk_by rfl) ?_ | refine s_F rfl (by assumption) (blkOk_by rfl) ?_ | refine s_Dc rfl (by assumption) (blkOk_by rfl) ?_ | refine s_st (by assumption) ?_ | refine s_aug (by assumption) rfl ?_ | refine s_asg ?_ | refine s_expr ?_)
    | (refine (?_ : SG _ _ _ _ _ _ _); first | refine sg_nm (by assumption) ?_ | refine sg_par rfl ?_ | refine sg_tup rfl ?_)
    | (refine (?_ : SGs _ _ _ _ _ _ _); first | refine sgs_cons ?_ | refine sgs_nil ?_)
    | (refine (?_ : SGb _ _ _ _ _ _ _ _); first | refine sgb_nm (by assumption) ?_ (by first | exact vs_self | exact vs_one | exact vs_two) | refine sgb_par rfl ?_ | refine sgb_tup rfl ?_)
    | (refine (?_ : SGbs _ _ _ _ _ _ _ _); first | refine sgbs_cons ?_ | refine sgbs_nil ?_)
    | (refine (?_ : SW _ _ _ _ _ _ _); first | refine sw_vals ?_ | refine sw_zipT (by assumption) ?_ | refine sw_range (by assumption) ?_ | refine sw_seq ?_)
    | (refine (?_ : OpV _ _ _ _ _ _ _ _); first | refine ov_eqN ?_ | refine ov_neN ?_ | refine ov_inN ?_ | refine ov_ninN ?_ | refine ov_inNT ?_ | refine ov_ninNT ?_ | refine oi_add ?_ | refine oi_catT (by fail "z") ?_ | refine ov_cat (by fail "z") ?_ | refine ov_catT (by fail "z") ?_ | refine ov_add ?_ | refine ov_sub ?_ | refine ov_lt ?_ | refine ov_le ?_ | refine ov_gt ?_ | refine ov_ge ?_ | refine ov_eqI ?_ | refine ov_neI ?_ | refine ov_eqS ?_ | refine ov_neS ?_ | refine ov_eqB ?_ | refine ov_neB ?_)
    | (refine (?_ : IxV _ _ _ _ _ _ _); first | refine iv_cons ?_ | refine iv_consT ?_)
    | (refine (?_ : SlV _ _ _ _ _ _ _ _); first | refine sv_fromL (by decide) ?_ | refine sv_fromT (by decide) ?_ | refine sv_toL (by decide) ?_ | refine sv_toT (by decide) ?_)
    | (refine (?_ : ClV _ _ _ _ _ _ _); first | refine cv_anyM rfl ?_ | refine cv_allM rfl ?_ | refine cv_len rfl ?_ | refine cv_tuple rfl ?_ | refine cv_list rfl ?_ | refine cv_abs ?_ | refine cv_isStr rfl ?_ | refine cv_isTup rfl ?_ | refine cv_isInt rfl ?_ | refine cv_isBool rfl ?_ | refine cv_sum rfl ?_)
    | refine turn0I (fun _ _ _ _ _ _ => ?_) | refine turn1I (fun _ _ _ _ _ _ => ?_) | refine turnDI (fun _ _ _ _ _ _ => ?_) | refine abI (fun _ _ _ _ _ => ?_) | refine iteT ?_ | refine iteF ?_ | refine And.intro (show _ ≤ sizeLine by fail "z") ?_ | refine ⟨_, rfl, ?_⟩)
namespace W
open PySem L2 D PyProof.Rows
def total (R : List (List Nm)) : Nat := (R.map List.length).sum
def without (R : List (List Nm)) (x : Nm) : List (List Nm) := R.map fun r => r.filter fun o => !decide (o = x)
def mergeF : Nat → List (List Nm) → List Nm → Option (List Nm)
  | 0, _, acc => some acc
  | n + 1, R, acc => if (R.any fun r => !r.isEmpty) = true then match nextFrom R R with
      | none => none
      | some x => mergeF n (without R x) (acc ++ [x]) else some acc
def merge (R : List (List Nm)) : Option (List Nm) := mergeF (total R + 1) R []
def optT : Option (List Nm) → Dt
  | none => .non
  | some l => nT l
theorem total_without_le (R : List (List Nm)) (x : Nm) : total (without R x) ≤ total R := by
  induction R with
  | nil => exact Nat.le_refl _
  | cons r R ih =>
    have h1 : (r.filter fun o => !decide (o = x)).length ≤ r.length := List.length_filter_le _ _
    show (r.filter fun o => !decide (o = x)).length + total (without R x) ≤ r.length + total R
    omega
theorem filter_lt {α : Type} {q : α → Bool} {a : α} : ∀ {l : List α}, a ∈ l → q a = false → (l.filter q).length < l.length
  | b :: l, h, hq => by
    rcases List.mem_cons.mp h with e | h
    · subst e
      rw [List.filter_cons_of_neg (by rw [hq]; exact Bool.false_ne_true)]
      have := List.length_filter_le q l
      simp; omega
    · have := filter_lt h hq
      by_cases e : q b = true
      · rw [List.filter_cons_of_pos e]; exact Nat.succ_lt_succ this
      · rw [List.filter_cons_of_neg e]; simp; omega
theorem total_without_lt {R : List (List Nm)} {x : Nm} {r : List Nm} (hr : r ∈ R) (hx : x ∈ r) : total (without R x) < total R := by
  induction R with
  | nil => cases hr
  | cons r' R ih =>
    show (r'.filter fun o => !decide (o = x)).length + total (without R x) < r'.length + total R
    rcases List.mem_cons.mp hr with e | h
    · subst e
      have h1 := filter_lt (q := fun o => !decide (o = x)) hx (by simp)
      have h2 := total_without_le R x
      omega
    · have h1 : (r'.filter fun o => !decide (o = x)).length ≤ r'.length := List.length_filter_le _ _
      have h2 := ih h
      omega
theorem nextFrom_some {R : List (List Nm)} {x : Nm} : ∀ {S : List (List Nm)}, nextFrom R S = some x → (∃ r, (x :: r) ∈ S) ∧ freeIn R x = true
  | [], h => by cases h
  | [] :: S, h => by
    obtain ⟨⟨r, h1⟩, h2⟩ := nextFrom_some (S := S) h
    exact ⟨⟨r, List.mem_cons_of_mem _ h1⟩, h2⟩
  | (y :: r) :: S, h => by
    unfold nextFrom at h
    by_cases e : freeIn R y = true
    · rw [if_pos e] at h; cases h
      exact ⟨⟨r, List.mem_cons_self ..⟩, e⟩
    · rw [if_neg e] at h
      obtain ⟨⟨r, h1⟩, h2⟩ := nextFrom_some (S := S) h
      exact ⟨⟨r, List.mem_cons_of_mem _ h1⟩, h2⟩
theorem nextFrom_none {R : List (List Nm)} : ∀ {S : List (List Nm)}, nextFrom R S = none → ∀ x r, (x :: r) ∈ S → freeIn R x = false
  | [] :: S, h, x, r, hm => by
    rcases List.mem_cons.mp hm with e | hm
    · cases e
    · exact nextFrom_none (S := S) h x r hm
  | (y :: r') :: S, h, x, r, hm => by
    unfold nextFrom at h
    by_cases e : freeIn R y = true
    · rw [if_pos e] at h; cases h
    · rw [if_neg e] at h
      rcases List.mem_cons.mp hm with z | hm
      · cases z; simpa using e
      · exact nextFrom_none (S := S) h x r hm
theorem ok_without {R : List (List Nm)} (h : RowsOk R) (x : Nm) : RowsOk (without R x) := by
  refine ⟨by unfold without; rw [List.length_map]; exact h.1, fun r hr => ?_⟩
  obtain ⟨r', h1, rfl⟩ := List.mem_map.mp hr
  exact Nat.le_trans (List.length_filter_le _ _) (h.2 r' h1)
theorem total_le {n : Nat} : ∀ {R : List (List Nm)}, (∀ r ∈ R, r.length ≤ n) → total R ≤ R.length * n
  | [], _ => Nat.zero_le _
  | r :: R, h => by
    have h1 := h r (List.mem_cons_self ..)
    have h2 := total_le (R := R) fun r hr => h r (List.mem_cons_of_mem _ hr)
    show r.length + total R ≤ (R.length + 1) * n
    rw [Nat.add_mul]; omega
theorem total_ok {R : List (List Nm)} (h : RowsOk R) : total R ≤ 10000 := by
  have := total_le h.2
  have := Nat.mul_le_mul_right 100 h.1
  omega
theorem mergeF_add (k : Nat) : ∀ {n : Nat} {R : List (List Nm)} {acc : List Nm}, total R < n → mergeF (n + k) R acc = mergeF n R acc := by
  intro n
  induction n with
  | zero => intro R acc h; omega
  | succ n ih =>
    intro R acc h
    rw [show n + 1 + k = n + k + 1 by omega]
    unfold mergeF
    cases hn : nextFrom R R with
    | none => rfl
    | some x =>
      obtain ⟨⟨r, hr⟩, _⟩ := nextFrom_some hn
      have hlt := total_without_lt hr (List.mem_cons_self ..)
      show (if _ then mergeF (n + k) (without R x) (acc ++ [x]) else _) = if _ then mergeF n (without R x) (acc ++ [x]) else _
      rw [ih (by omega)]
theorem mergeF_fuel {n : Nat} {R : List (List Nm)} {acc : List Nm} (h : total R < n) : mergeF n R acc = mergeF (total R + 1) R acc := by
  rw [show n = total R + 1 + (n - (total R + 1)) by omega]
  exact mergeF_add _ (by omega)
section
variable {P : Program} {w : World} {K : PySem.W.Frag} {mg : Str → Option Value} {base : Heap}
abbrev lisD (L : List (List Nm)) : Dt := .tup (L.map nT)
abbrev rowsD (L : List (List Nm)) : Dt := .lst (L.map rowD)
abbrev D_next_name (P : Program) (w : World) (K : PySem.W.Frag) (mg : Str → Option Value) (base : Heap) : Prop := DefOk P w K mg base 1 "next_name" ["rows"] (sp_next_name K)
abbrev sp_merge_or_none (K : PySem.W.Frag) : Sp := spP K (fun L : List (List Nm) => [lisD L]) RowsOk (fun L d => d = optT (merge L))
theorem ok_merge_or_none {f : Addr} {fd : FuncData} (Fu : Fun K "merge_or_none" "merge_or_none" s_merge_or_none f fd) (T : Txt mg) (Dn : D_next_name P w K mg base) : FnOk P w K mg base (L2.CX P w) 2 f fd ["lists"] (sp_merge_or_none K) := by
  refine fn_P Fu sc_merge_or_none (fun a => rfl) (fun cdv A outer s H E F L hp hr => ?_)
  have nd := sc_merge_or_none.nd
  have hany := T.any
  have hlist := T.list
  have hok := hp
  obtain ⟨hp1, hp2⟩ := hp
  repeat fail
  apply lcM
  · fail "z"
  · intro o ho
    repeat fail
    exact ⟨rfl, rfl⟩
  repeat fail
  refine s_while (passes_of rfl) (fun m Γ c => ∃ d1 d2 u3 u4 u5, (Γ = [.dat (lisD L), .dat d1, .dat d2, u3, u4, u5] ∧ c = []) ∧ ∃ R acc, d1 = rowsD R ∧ d2 = nT acc ∧ m = total R ∧ RowsOk R ∧ acc.length + total R ≤ 10000 ∧ mergeF (m + 1) R acc = merge L) (total L) ⟨_, _, _, _, _, ⟨rfl, rfl⟩, L, [], rfl, rfl, rfl, hok, by have := total_ok hok; simpa using this, rfl⟩ ?_
  rintro m Γ c ⟨_, _, u3, u4, u5, ⟨rfl, rfl⟩, R, acc, rfl, rfl, rfl, hR, hz, hm⟩
  have hR1 := hR.1
  repeat fail
  apply lcM
  · fail "z"
  · intro r hr'
    repeat fail
    refine ov_neNil hr.units (fit_nL r) ?_
    exact ⟨rfl, rfl⟩
  repeat fail
  refine ite2 (fun h => ?_) (fun h => ?_)
  · unfold mergeF at hm
    rw [if_pos h] at hm
    refine ss_cons (s_st nd (se_fP Dn (hr.mono (by decide)) ?_))
    repeat fail
    refine ⟨hR, ?_⟩
    rintro _ rfl
    repeat fail
    refine ov_isN (by cases nextFrom R R <;> exact fun _ z => nomatch z) ?_
    repeat fail
    cases hn : nextFrom R R with
    | none =>
      rw [hn] at hm
      repeat fail
      exact ⟨rfl, by rw [← hm]; rfl⟩
    | some x =>
      rw [hn] at hm
      obtain ⟨⟨r, hr1⟩, hf⟩ := nextFrom_some hn
      have hlt := total_without_lt hr1 (List.mem_cons_self ..)
      repeat fail
      refine ss_nil ?_
      repeat fail
      apply lcM
      · fail "z"
      · intro r' hr'
        repeat fail
        apply lcF
        · have := hR.2 r' hr'
          fail "z"
        · intro o ho
          repeat fail
          refine filt_end (fun h => ?_) (fun h => ?_)
          · repeat fail
            exact ⟨h, rfl, rfl⟩
          · exact ⟨rfl, h⟩
        repeat fail
        exact ⟨rfl, rfl⟩
      
      refine ⟨_, hlt, _, _, _, _, _, ⟨rfl, rfl⟩, without R x, acc ++ [x], ?_, ?_, rfl, ok_without hR x, ?_, ?_⟩
      · unfold without; rw [rowsD, List.map_map]; rfl
      · rw [nT, List.map_append]; rfl
      · rw [List.length_append]; show acc.length + 1 + _ ≤ _; omega
      · rw [← hm]; exact (mergeF_fuel (by omega)).symm
  · unfold mergeF at hm
    rw [if_neg h] at hm
    repeat fail
    exact ⟨rfl, by rw [← hm]; rfl⟩
end
end W
end
section
set_option Elab.async false
set_option linter.all false
set_option maxRecDepth 100000
set_option maxHeartbeats 4000000
open PySem L2 D PyProof.Rows
local macro_rules
  | `(tactic| fail "z") => `(tactic| ((try simp only [List.length_map, List.length_cons, List.length_nil, List.length_append, List.length_drop, List.length_take]); have := big_line; omega))
local macro_rules
  | `(tactic| fail) => `(tactic| first
    | (refine (?_ : SE _ _ _ _ _ _); first | refine se_nm rfl ?_ | refine se_tyTuple (by assumption) ?_ | refine se_tyStr (by assumption) ?_ | refine se_tyInt (by assumption) ?_ | refine se_tyBool (by assumption) ?_ | refine se_int ?_ | refine se_str ?_ | refine se_non ?_ | refine se_bl ?_ | refine se_cmp ?_ | refine se_bin ?_ | refine se_ix ?_ | refine se_slice ?_ | refine se_tup ?_ | refine se_lst ?_ | (refine (?_ : SE _ _ _ _ (.Call _ _ _ _) _); first | refine se_any (by assumption) ?_ | refine se_all (by assumption) ?_ | refine se_len (by assumption) ?_ | refine se_min (by assumption) ?_ | refine se_max (by assumption) ?_ | refine se_sorted (by assumption) ?_ | refine se_isi (by assumption) ?_ | refine se_abs (by assumption) ?_ | refine se_sum (by assumption) ?_ | refine se_tupleC (by assumption) ?_ | refine se_listC (by assumption) ?_) | refine se_M rfl (by assumption) (blkOk_by rfl) ?_ | refine se_F rfl (by assumption) (blkOk_by rfl) ?_ | refine se_Dc rfl (by assumption) (blkOk_by rfl) ?_ | refine se_chain ?_ | refine se_indexN ?_ | refine se_not ?_ | refine se_if ?_ | refine se_one ?_ | refine se_and ?_ | refine se_or ?_ | refine se_neg ?_)
    | (refine (?_ : ST _ _ _ _ _ _); first | refine st_cmp ?_ | refine st_chain ?_ | refine st_not ?_ | refine st_w (sw_and ?_) | refine st_w (sw_or ?_) | refine st_val ?_)
    | (refine (?_ : SWt _ _ _ _ _ _); first | refine sw_and ?_ | refine sw_and1 ?_ | refine sw_or ?_ | refine sw_or1 ?_)
    | (refine (?_ : SA _ _ _ _ _ _); first | refine sa_cons ?_ | refine sa_nil ?_)
    | (refine (?_ : SO _ _ _ _ _ _); first | refine so_none ?_ | refine so_some ?_)
    | (refine (?_ : SS _ _ _ _ _ _); first | refine ss_one ?_ | refine ss_cons ?_)
    | (refine (?_ : S1 _ _ _ _ _ _); first | refine s_ret ?_ | refine s_if ?_ | refine s_M rfl (by assumption) (blkOk_by rfl) ?_ | refine s_F rfl (by assumption) (blkOk_by rfl) ?_ | refine s_Dc rfl (by assumption) (blkOk_by rfl) ?_ | refine s_st (by assumption) ?_ | refine s_aug (by assumption) rfl ?_ | refine s_asg ?_ | refine s_expr ?_)
    | (refine (?_ : SG _ _ _ _ _ _ _); first | refine sg_nm (by assumption) ?_ | refine sg_par rfl ?_ | refine sg_tup rfl ?_)
    | (refine (?_ : SGs _ _ _ _ _ _ _); first | refine sgs_cons ?_ | refine sgs_nil ?_)
    | (refine (?_ : SGb _ _ _ _ _ _ _ _); first | refine sgb_nm (by assumption) ?_ (by first | exact vs_self | exact vs_one | exact vs_two) | refine sgb_par rfl ?_ | refine sgb_tup rfl ?_)
    | (refine (?_ : SGbs _ _ _ _ _ _ _ _); first | refine sgbs_cons ?_ | refine sgbs_nil ?_)
    | (refine (?_ : SW _ _ _ _ _ _ _); first | refine sw_vals ?_ | refine sw_zipT (by assumption) ?_ | refine sw_range (by assumption) ?_ | refine sw_seq ?_)
    | (refine (?_ : OpV _ _ _ _ _ _ _ _); first | refine ov_eqN ?_ | refine ov_neN ?_ | refine ov_inN ?_ | refine ov_ninN ?_ | refine ov_inNT ?_ | refine ov_ninNT ?_ | refine oi_add ?_ | refine oi_catT (by fail "z") ?_ | refine ov_cat (by fail "z") ?_ | refine ov_catT (by fail "z") ?_ | refine ov_add ?_ | refine ov_sub ?_ | refine ov_lt ?_ | refine ov_le ?_ | refine ov_gt ?_ | refine ov_ge ?_ | refine ov_eqI ?_ | refine ov_neI ?_ | refine ov_eqS ?_ | refine ov_neS ?_ | refine ov_eqB ?_ | refine ov_neB ?_)
    | (refine (?_ : IxV _ _ _ _ _ _ _); first | refine iv_cons ?_ | refine iv_consT ?_)
    | (refine (?_ : SlV _ _ _ _ _ _ _ _); first | refine sv_fromL (by decide) ?_ | refine sv_fromT (by decide) ?_ | refine sv_toL (by decide) ?_ | refine sv_toT (by decide) ?_)
    | (refine (?_ : ClV _ _ _ _ _ _ _); first | refine cv_anyM rfl ?_ | refine cv_allM rfl ?_ | refine cv_len rfl ?_ | refine cv_tuple rfl ?_ | refine cv_list rfl ?_ | refine cv_abs ?_ | refine cv_isStr rfl ?_ | refine cv_isTup rfl ?_ | refine cv_isInt rfl ?_ | refine cv_isBool rfl ?_ | refine cv_sum rfl ?_)
    | refine turn0I (fun _ _ _ _ _ _ => ?_) | refine turn1I (fun _ _ _ _ _ _ => ?_) | refine turnDI (fun _ _ _ _ _ _ => ?_) | refine abI (fun _ _ _ _ _ => ?_) | refine iteT ?_ | refine iteF ?_ | refine And.intro (show _ ≤ sizeLine by fail "z") ?_ | refine ⟨_, rfl, ?_⟩)
namespace W
open PySem L2 D PyProof.Rows
def addK (acc : List Nm) (x : Nm) : List Nm := if x ∈ acc then acc else acc ++ [x]
def keysOf (l : List Nm) : List Nm := l.foldl addK []
def setDef (l : List (Nm × Nat)) (y : Nm) (i : Nat) : List (Nm × Nat) := if (l.any fun p => decide (p.1 = y)) = true then l else l ++ [(y, i)]
abbrev Dem := List (Nm × List (Nm × Nat))
def demPut (E : Dem) (x y : Nm) (i : Nat) : Dem := E.map fun p => if p.1 = x then (p.1, setDef p.2 y i) else p
def demPuts (i : Nat) (x : Nm) (E : Dem) (r : List Nm) : Dem := r.foldl (fun E y => demPut E x y i) E
def demRow (i : Nat) : Dem → List Nm → Dem
  | E, [] => E
  | E, x :: r => demRow i (demPuts i x E r) r
def initE (L : List (List Nm)) : Dem := (keysOf L.flatten).map fun x => (x, [])
def demRows : Dem → List (List Nm × Nat) → Dem
  | E, [] => E
  | E, (r, i) :: R => demRows (demRow i E r) R
def earliest (L : List (List Nm)) : Dem := demRows (initE L) L.zipIdx
abbrev nK (x : Nm) : Key := .inr x.1
abbrev inE (l : List (Nm × Nat)) : List (Key × Dt) := l.map fun q => (nK q.1, .int (q.2 : Nat))
abbrev demD (E : Dem) : Dt := .dct (E.map fun p => (nK p.1, .dct (inE p.2)))
theorem nK_inj {x y : Nm} : nK x = nK y ↔ x = y := ⟨fun h => Subtype.ext (Sum.inr.inj h), fun h => by rw [h]⟩
theorem dval_map {α : Type} (f : α → Dt) (k : α → Nm) (x : Nm) : ∀ l : List α, dval (l.map fun p => (nK (k p), f p)) (nK x) = (l.find? fun p => decide (k p = x)).map f
  | [] => rfl
  | p :: l => by
    rw [List.map_cons, List.find?_cons]
    by_cases h : k p = x
    · rw [dval_pos (by rw [h]), decide_eq_true h]; rfl
    · rw [dval_neg (fun z => h (nK_inj.mp z)), decide_eq_false h]; exact dval_map f k x l
theorem any_nK {α : Type} (f : α → Dt) (k : α → Nm) (x : Nm) (l : List α) : ((l.map fun p => (nK (k p), f p)).any fun kv => decide (kv.1 = nK x)) = l.any fun p => decide (k p = x) := by
  rw [List.any_map]
  congr 1
  funext p
  show decide (nK (k p) = nK x) = _
  by_cases h : k p = x
  · rw [h]; simp
  · have : ¬ nK (k p) = nK x := fun z => h (nK_inj.mp z)
    simp [this, h]
theorem dput_map {α : Type} (f : α → Dt) (k : α → Nm) (x : Nm) (d : Dt) (l : List α) : dput (l.map fun p => (nK (k p), f p)) (nK x) d = if (l.any fun p => decide (k p = x)) = true then l.map (fun p => if k p = x then (nK (k p), d) else (nK (k p), f p)) else (l.map fun p => (nK (k p), f p)) ++ [(nK x, d)] := by
  unfold dput
  rw [any_nK]
  split
  · rw [List.map_map]
    refine List.map_congr_left fun p _ => ?_
    show (if nK (k p) = nK x then _ else _) = _
    by_cases h : k p = x
    · rw [if_pos (by rw [h]), if_pos h]
    · rw [if_neg (fun z => h (nK_inj.mp z)), if_neg h]
  · rfl
theorem inE_put (l : List (Nm × Nat)) (y : Nm) (i : Nat) (h : (l.any fun p => decide (p.1 = y)) = false) : dput (inE l) (nK y) (.int (i : Nat)) = inE (setDef l y i) := by
  rw [inE, dput_map (fun q : Nm × Nat => .int (q.2 : Nat)) (fun q => q.1), h]
  unfold setDef
  rw [h]
  simp [inE]
theorem inE_any (l : List (Nm × Nat)) (y : Nm) : (dval (inE l) (nK y)).isSome = l.any fun p => decide (p.1 = y) := by
  rw [← dval_any, inE, any_nK (fun q : Nm × Nat => .int (q.2 : Nat)) (fun q => q.1)]
theorem keysOf_snoc (l : List Nm) (x : Nm) : keysOf (l ++ [x]) = addK (keysOf l) x := by
  unfold keysOf; rw [List.foldl_append]; rfl
/-- the cells of a dict of dicts -/
structure Nest (A : Addr) (E : Dem) (c : Cells) : Prop where
  ex : ∃ ad : Nm → Addr, (A, Cel.dk (E.map fun p => (nK p.1, .raw (.ref (ad p.1))))) ∈ c ∧ (∀ p ∈ E, (ad p.1, Cel.dk (inE p.2)) ∈ c) ∧ (A :: E.map fun p => ad p.1).Nodup
  nd : (E.map (·.1)).Nodup
theorem mem_addK {acc : List Nm} {x y : Nm} : y ∈ addK acc x ↔ y ∈ acc ∨ y = x := by
  unfold addK
  split
  · exact ⟨.inl, fun h => h.elim id fun e => by rw [e]; assumption⟩
  · rw [List.mem_append, List.mem_singleton]
theorem mem_keysOf (l : List Nm) (y : Nm) : y ∈ keysOf l ↔ y ∈ l := by
  have : ∀ (l acc : List Nm), y ∈ l.foldl addK acc ↔ y ∈ acc ∨ y ∈ l := by
    intro l
    induction l with
    | nil => intro acc; simp
    | cons x l ih => intro acc; rw [List.foldl_cons, ih, mem_addK, List.mem_cons, or_assoc]
  unfold keysOf; rw [this]; simp
theorem nodup_addK {acc : List Nm} (h : acc.Nodup) (x : Nm) : (addK acc x).Nodup := by
  unfold addK
  split
  · exact h
  · exact List.nodup_append.mpr ⟨h, by simp, fun a ha b hb e => by rw [List.mem_singleton.mp hb] at e; subst e; contradiction⟩
theorem nodup_keysOf (l : List Nm) : (keysOf l).Nodup := by
  have : ∀ (l acc : List Nm), acc.Nodup → (l.foldl addK acc).Nodup := by
    intro l
    induction l with
    | nil => intro acc h; exact h
    | cons x l ih => intro acc h; exact ih _ (nodup_addK h x)
  exact this l [] .nil
theorem mem_addrs_of {a : Addr} {q : Cel} {c : Cells} (h : (a, q) ∈ c) : a ∈ addrs c := mem_addrs h (List.mem_cons_self ..)
/-- while the dict of dicts is made -/
def Mk (done : List Nm) (c : Cells) (acc : List (Key × Dt)) : Prop :=
  ∃ ad : Nm → Addr, acc = (keysOf done).map (fun x => (nK x, .raw (.ref (ad x)))) ∧ (∀ x ∈ keysOf done, (ad x, Cel.dk []) ∈ c) ∧ ((keysOf done).map ad).Nodup
theorem map_nodup_upd {l : List Nm} {ad : Nm → Addr} {x : Nm} {a : Addr} (hl : l.Nodup) (h : (l.map ad).Nodup) (ha : ∀ y ∈ l, ad y ≠ a) : (l.map fun y => if y = x then a else ad y).Nodup := by
  rw [List.Nodup, List.pairwise_map] at *
  refine (hl.and h).imp_of_mem ?_
  rintro p q hp hq ⟨h1, h2⟩
  by_cases e1 : p = x
  · rw [if_pos e1, if_neg (fun e => h1 (e1.trans e.symm))]
    exact fun e => ha q hq e.symm
  · rw [if_neg e1]
    by_cases e2 : q = x
    · rw [if_pos e2]; exact ha p hp
    · rw [if_neg e2]; exact h2
theorem Mk.step {done : List Nm} {c : Cells} {acc : List (Key × Dt)} (h : Mk done c acc) (x : Nm) (a : Addr) (nd : (addrs (c ++ [(a, Cel.dk [])])).Nodup) : Mk (done ++ [x]) (c ++ [(a, Cel.dk [])]) (dput acc (nK x) (.raw (.ref a))) := by
  obtain ⟨ad, rfl, h2, h3⟩ := h
  have fresh : ∀ y ∈ keysOf done, ad y ≠ a := fun y hy e => by
    have h1 := mem_addrs_of (h2 y hy)
    rw [addrs_app] at nd
    exact (List.nodup_append.mp nd).2.2 _ h1 a (by show a ∈ [a] ++ _; simp) e
  refine ⟨fun y => if y = x then a else ad y, ?_, ?_, ?_⟩
  · rw [dput_map (fun y => .raw (.ref (ad y))) (fun y => y) x, keysOf_snoc]
    unfold addK
    by_cases hx : x ∈ keysOf done
    · rw [if_pos hx, if_pos (by rw [List.any_eq_true]; exact ⟨x, hx, by simp⟩)]
      refine List.map_congr_left fun y _ => ?_
      dsimp only
      by_cases e : y = x
      · rw [if_pos e, if_pos e]
      · rw [if_neg e, if_neg e]
    · rw [if_neg hx, if_neg (by rw [List.any_eq_true]; rintro ⟨y, hy, e⟩; exact hx (by rw [← of_decide_eq_true e]; exact hy)), List.map_append]
      congr 1
      · refine List.map_congr_left fun y hy => ?_
        have ne : ¬ y = x := fun e => hx (by rw [← e]; exact hy)
        dsimp only
        rw [if_neg ne]
      · simp
  · intro y hy
    rw [keysOf_snoc, mem_addK] at hy
    dsimp only
    by_cases e : y = x
    · rw [if_pos e]; simp
    · rw [if_neg e]
      exact List.mem_append_left _ (h2 y (hy.resolve_right e))
  · rw [keysOf_snoc]
    unfold addK
    split
    · exact map_nodup_upd (nodup_keysOf _) h3 fresh
    · rename_i hx
      rw [List.map_append]
      refine List.nodup_append.mpr ⟨map_nodup_upd (nodup_keysOf _) h3 fresh, by simp, fun p hp q hq e => ?_⟩
      obtain ⟨y, hy, rfl⟩ := List.mem_map.mp hp
      have ne : ¬ y = x := fun e => hx (by rw [← e]; exact hy)
      rw [List.map_singleton, List.mem_singleton] at hq
      try dsimp only at hq e
      rw [if_pos rfl] at hq
      rw [if_neg ne] at e
      exact fresh y hy (e.trans hq)
theorem Mk.nest {L : List (List Nm)} {c : Cells} {acc : List (Key × Dt)} (h : Mk L.flatten c acc) (A : Addr) (nd : (addrs (c ++ [(A, Cel.dk acc)])).Nodup) : Nest A (initE L) (c ++ [(A, Cel.dk acc)]) := by
  obtain ⟨ad, rfl, h2, h3⟩ := h
  refine ⟨⟨ad, ?_, ?_, ?_⟩, ?_⟩
  · refine List.mem_append_right _ (List.mem_singleton.mpr ?_)
    unfold initE; rw [List.map_map]; rfl
  · intro p hp
    obtain ⟨x, hx, rfl⟩ := List.mem_map.mp hp
    exact List.mem_append_left _ (h2 x hx)
  · unfold initE
    rw [List.map_map]
    refine List.nodup_cons.mpr ⟨fun hA => ?_, h3⟩
    obtain ⟨x, hx, e⟩ := List.mem_map.mp hA
    have h1 := mem_addrs_of (h2 x hx)
    rw [addrs_app] at nd
    exact (List.nodup_append.mp nd).2.2 _ h1 A (by show A ∈ [A] ++ _; simp) e
  · unfold initE; rw [List.map_map, show ((fun x : Nm × List (Nm × Nat) => x.1) ∘ fun x => (x, [])) = id from rfl, List.map_id]; exact nodup_keysOf L.flatten
theorem mem_set_ne {c : Cells} {j : Nat} {q r r' : Addr × Cel} (hq : q ∈ c) (hj : c[j]? = some r) (ne : q.1 ≠ r.1) : q ∈ c.set j r' := by
  obtain ⟨i, hi⟩ := List.getElem?_of_mem hq
  refine List.mem_of_getElem? (i := i) ?_
  rw [List.getElem?_set_ne, hi]
  intro e
  subst e
  rw [hj] at hi; cases hi; exact ne rfl
theorem find_key {E : Dem} {x : Nm} (nd : (E.map (·.1)).Nodup) {p : Nm × List (Nm × Nat)} (hp : p ∈ E) (e : p.1 = x) : (E.find? fun p => decide (p.1 = x)) = some p := by
  induction E with
  | nil => cases hp
  | cons q E ih =>
    rw [List.find?_cons]
    rcases List.mem_cons.mp hp with z | z
    · subst z; rw [decide_eq_true e]
    · have nd' := List.nodup_cons.mp nd
      rw [decide_eq_false]
      · exact ih nd'.2 z
      · intro w
        exact nd'.1 (List.mem_map.mpr ⟨p, z, e.trans w.symm⟩)
theorem demPut_same {E : Dem} {x y : Nm} {i : Nat} (nd : (E.map (·.1)).Nodup) {p : Nm × List (Nm × Nat)} (hp : p ∈ E) (e : p.1 = x) (h : (p.2.any fun q => decide (q.1 = y)) = true) : demPut E x y i = E := by
  unfold demPut
  conv => rhs; rw [← List.map_id E]
  refine List.map_congr_left fun q hq => ?_
  by_cases w : q.1 = x
  · rw [if_pos w]
    have : q = p := by
      have h1 := find_key nd hq w
      have h2 := find_key nd hp e
      rw [h1] at h2; exact Option.some.inj h2
    subst this
    unfold setDef
    rw [if_pos h]; rfl
  · rw [if_neg w]; rfl
theorem Nest.put {A : Addr} {E : Dem} {c : Cells} (h : Nest A E c) {ad : Nm → Addr} (h1 : (A, Cel.dk (E.map fun p => (nK p.1, .raw (.ref (ad p.1))))) ∈ c) (h2 : ∀ p ∈ E, (ad p.1, Cel.dk (inE p.2)) ∈ c) (h3 : (A :: E.map fun p => ad p.1).Nodup) {x y : Nm} {i j : Nat} {p : Nm × List (Nm × Nat)} (hp : p ∈ E) (e : p.1 = x)
    (hj : c[j]? = some (ad x, Cel.dk (inE p.2))) : Nest A (demPut E x y i) (c.set j (ad x, Cel.dk (inE (setDef p.2 y i)))) := by
  have hn := List.nodup_cons.mp h3
  have hlen : j < c.length := (List.getElem?_eq_some_iff.mp hj).1
  have keys : (demPut E x y i).map (·.1) = E.map (·.1) := by
    unfold demPut; rw [List.map_map]
    refine List.map_congr_left fun q _ => ?_
    dsimp only [Function.comp]
    split <;> rfl
  refine ⟨⟨ad, ?_, ?_, ?_⟩, by rw [keys]; exact h.nd⟩
  · have : ((demPut E x y i).map fun p => (nK p.1, Dt.raw (.ref (ad p.1)))) = E.map fun p => (nK p.1, Dt.raw (.ref (ad p.1))) := by
      unfold demPut; rw [List.map_map]
      refine List.map_congr_left fun q _ => ?_
      dsimp only [Function.comp]
      split <;> rfl
    rw [this]
    refine mem_set_ne h1 hj ?_
    intro z
    exact hn.1 (List.mem_map.mpr ⟨p, hp, by rw [e]; exact z.symm⟩)
  · intro q hq
    obtain ⟨q0, hq0, rfl⟩ := List.mem_map.mp hq
    by_cases w : q0.1 = x
    · rw [if_pos w]
      have : q0 = p := by
        have g1 := find_key h.nd hq0 w
        have g2 := find_key h.nd hp e
        rw [g1] at g2; exact Option.some.inj g2
      subst this
      refine List.mem_of_getElem? (i := j) ?_
      rw [List.getElem?_set_self hlen, w]
    · rw [if_neg w]
      refine mem_set_ne (h2 q0 hq0) hj ?_
      intro z
      have pw := hn.2
      rw [List.Nodup, List.pairwise_map] at pw
      have key := h.nd
      rw [List.Nodup, List.pairwise_map] at key
      have inj : ∀ {E' : Dem}, (E'.Pairwise fun a b => ad a.1 ≠ ad b.1) → ∀ a ∈ E', ∀ b ∈ E', ad a.1 = ad b.1 → a = b := by
        intro E' hE'
        induction hE' with
        | nil => intro a ha; cases ha
        | cons hh _ ih =>
          intro a ha b hb e
          rcases List.mem_cons.mp ha with ea | ha' <;> rcases List.mem_cons.mp hb with eb | hb'
          · rw [ea, eb]
          · rw [ea] at e; exact absurd e (hh b hb')
          · rw [eb] at e; exact absurd e.symm (hh a ha')
          · exact ih a ha' b hb' e
      exact w (by rw [inj pw q0 hq0 p hp (by rw [e]; exact z)]; exact e)
  · have : ((demPut E x y i).map fun p => ad p.1) = E.map fun p => ad p.1 := by
      unfold demPut; rw [List.map_map]
      refine List.map_congr_left fun q _ => ?_
      dsimp only [Function.comp]
      split <;> rfl
    rw [this]; exact h3
theorem demPut_keys (E : Dem) (x y : Nm) (i : Nat) : (demPut E x y i).map (·.1) = E.map (·.1) := by
  unfold demPut; rw [List.map_map]
  refine List.map_congr_left fun q _ => ?_
  dsimp only [Function.comp]
  split <;> rfl
theorem zip_rest {α : Type} {l : List α} {pre rest : List (α × Nat)} {x : α} {k : Nat} (h : l.zipIdx = pre ++ (x, k) :: rest) : l.drop (k + 1) = rest.map (·.1) ∧ k < l.length ∧ x ∈ l := by
  have hk : k = pre.length := by
    have : l.zipIdx[pre.length]? = some (x, k) := by rw [h]; simp
    rw [List.getElem?_zipIdx] at this
    obtain ⟨a, _, e⟩ := Option.map_eq_some_iff.mp this
    have := congrArg Prod.snd e
    simpa using this.symm
  have hl : l = (pre ++ (x, k) :: rest).map (·.1) := by rw [← h]; simp
  refine ⟨?_, ?_, ?_⟩
  · rw [hl, hk, List.map_append, List.drop_append]; simp
  · rw [hl, hk]; simp
  · rw [hl]; simp
end W
end
section
set_option Elab.async false
set_option linter.all false
set_option maxRecDepth 100000
set_option maxHeartbeats 4000000
open PySem L2 D PyProof.Rows
local macro_rules
  | `(tactic| fail "z") => `(tactic| ((try simp only [List.length_map, List.length_cons, List.length_nil, List.length_append, List.length_drop, List.length_take]); have := big_line; omega))
local macro_rules
  | `(tactic| fail) => `(tactic| first
    | (refine (?_ : SE _ _ _ _ _ _); first | refine se_nm rfl ?_ | refine se_tyTuple (by assumption) ?_ | refine se_tyStr (by assumption) ?_ | refine se_tyInt (by assumption) ?_ | refine se_tyBool (by assumption) ?_ | refine se_int ?_ | refine se_str ?_ | refine se_non ?_ | refine se_bl ?_ | refine se_cmp ?_ | refine se_bin ?_ | refine se_ix ?_ | refine se_slice ?_ | refine se_tup ?_ | refine se_lst ?_ | (refine (?_ : SE _ _ _ _ (.Call _ _ _ _) _); first | refine se_any (by assumption) ?_ | refine se_all (by assumption) ?_ | refine se_len (by assumption) ?_ | refine se_min (by assumption) ?_ | refine se_max (by assumption) ?_ | refine se_sorted (by assumption) ?_ | refine se_isi (by assumption) ?_ | refine se_abs (by assumption) ?_ | refine se_sum (by assumption) ?_ | refine se_tupleC (by assumption) ?_ | refine se_listC (by assumption) ?_) | refine se_M rfl (by assumption) (blkOk_by rfl) ?_ | refine se_F rfl (by assumption) (blkOk_by rfl) ?_ | refine se_Dc rfl (by assumption) (blkOk_by rfl) ?_ | refine se_chain ?_ | refine se_indexN ?_ | refine se_not ?_ | refine se_if ?_ | refine se_one ?_ | refine se_and ?_ | refine se_or ?_ | refine se_neg ?_)
    | (refine (?_ : ST _ _ _ _ _ _); first | refine st_cmp ?_ | refine st_chain ?_ | refine st_not ?_ | refine st_w (sw_and ?_) | refine st_w (sw_or ?_) | refine st_val ?_)
    | (refine (?_ : SWt _ _ _ _ _ _); first | refine sw_and ?_ | refine sw_and1 ?_ | refine sw_or ?_ | refine sw_or1 ?_)
    | (refine (?_ : SA _ _ _ _ _ _); first | refine sa_cons ?_ | refine sa_nil ?_)
    | (refine (?_ : SO _ _ _ _ _ _); first | refine so_none ?_ | refine so_some ?_)
    | (refine (?_ : SS _ _ _ _ _ _); first | refine ss_one ?_ | refine ss_cons ?_)
    | (refine (?_ : S1 _ _ _ _ _ _); first | refine s_ret ?_ | refine s_if ?_ | refine s_M rfl (by assumption) (blkOk_by rfl) ?_ | refine s_F rfl (by assumption) (blkOk_by rfl) ?_ | refine s_Dc rfl (by assumption) (blkOk_by rfl) ?_ | refine s_st (by assumption) ?_ | refine s_aug (by assumption) rfl ?_ | refine s_asg ?_ | refine s_expr ?_)
    | (refine (?_ : SG _ _ _ _ _ _ _); first | refine sg_nm (by assumption) ?_ | refine sg_par rfl ?_ | refine sg_tup rfl ?_)
    | (refine (?_ : SGs _ _ _ _ _ _ _); first | refine sgs_cons ?_ | refine sgs_nil ?_)
    | (refine (?_ : SGb _ _ _ _ _ _ _ _); first | refine sgb_nm (by assumption) ?_ (by first | exact vs_self | exact vs_one | exact vs_two) | refine sgb_par rfl ?_ | refine sgb_tup rfl ?_)
    | (refine (?_ : SGbs _ _ _ _ _ _ _ _); first | refine sgbs_cons ?_ | refine sgbs_nil ?_)
    | (refine (?_ : SW _ _ _ _ _ _ _); first | refine sw_vals ?_ | refine sw_zipT (by assumption) ?_ | refine sw_range (by assumption) ?_ | refine sw_seq ?_)
    | (refine (?_ : OpV _ _ _ _ _ _ _ _); first | refine ov_eqN ?_ | refine ov_neN ?_ | refine ov_inN ?_ | refine ov_ninN ?_ | refine ov_inNT ?_ | refine ov_ninNT ?_ | refine oi_add ?_ | refine oi_catT (by fail "z") ?_ | refine ov_cat (by fail "z") ?_ | refine ov_catT (by fail "z") ?_ | refine ov_add ?_ | refine ov_sub ?_ | refine ov_lt ?_ | refine ov_le ?_ | refine ov_gt ?_ | refine ov_ge ?_ | refine ov_eqI ?_ | refine ov_neI ?_ | refine ov_eqS ?_ | refine ov_neS ?_ | refine ov_eqB ?_ | refine ov_neB ?_)
    | (refine (?_ : IxV _ _ _ _ _ _ _); first | refine iv_cons ?_ | refine iv_consT ?_)
    | (refine (?_ : SlV _ _ _ _ _ _ _ _); first | refine sv_fromL (by decide) ?_ | refine sv_fromT (by decide) ?_ | refine sv_toL (by decide) ?_ | refine sv_toT (by decide) ?_)
    | (refine (?_ : ClV _ _ _ _ _ _ _); first | refine cv_anyM rfl ?_ | refine cv_allM rfl ?_ | refine cv_len rfl ?_ | refine cv_tuple rfl ?_ | refine cv_list rfl ?_ | refine cv_abs ?_ | refine cv_isStr rfl ?_ | refine cv_isTup rfl ?_ | refine cv_isInt rfl ?_ | refine cv_isBool rfl ?_ | refine cv_sum rfl ?_)
    | refine turn0I (fun _ _ _ _ _ _ => ?_) | refine turn1I (fun _ _ _ _ _ _ => ?_) | refine turnDI (fun _ _ _ _ _ _ => ?_) | refine abI (fun _ _ _ _ _ => ?_) | refine iteT ?_ | refine iteF ?_ | refine And.intro (show _ ≤ sizeLine by fail "z") ?_ | refine ⟨_, rfl, ?_⟩)
namespace W
open PySem L2 D PyProof.Rows
theorem mem_flat_take {L : List (List Nm)} {i : Nat} {r : List Nm} (h : L[i]? = some r) : (L.take (i + 1)).flatten = (L.take i).flatten ++ r := by
  rw [List.take_add_one, h, List.flatten_append]; simp
theorem flat_len {L : List (List Nm)} (h : RowsOk L) (i : Nat) : (L.take i).flatten.length ≤ 10000 := by
  have h1 : (L.take i).flatten.length = total (L.take i) := by rw [List.length_flatten]; rfl
  have h2 := total_le (R := L.take i) (n := 100) fun r hr => h.2 r (List.mem_of_mem_take hr)
  have h3 : (L.take i).length ≤ 100 := Nat.le_trans (by rw [List.length_take]; exact Nat.min_le_right _ _) h.1
  have := Nat.mul_le_mul_right 100 h3
  omega
theorem addK_len (acc : List Nm) (x : Nm) : (addK acc x).length ≤ acc.length + 1 := by
  unfold addK; split <;> simp
theorem keysOf_len (l : List Nm) : (keysOf l).length ≤ l.length := by
  have : ∀ (l acc : List Nm), (l.foldl addK acc).length ≤ acc.length + l.length := by
    intro l
    induction l with
    | nil => intro acc; simp
    | cons x l ih => intro acc; have h1 := ih (addK acc x); have h2 := addK_len acc x; rw [List.foldl_cons, List.length_cons]; omega
  have h := this l []
  rw [List.length_nil, Nat.zero_add] at h
  exact h
section
variable {P : Program} {w : World} {K : PySem.W.Frag} {mg : Str → Option Value} {base : Heap}
abbrev sp_earliest (K : PySem.W.Frag) : Sp := spP K (fun L : List (List Nm) => [lisD L]) RowsOk (fun L d => d = demD (earliest L))
/-- the inner dicts hold few: each a name of the lists -/
def Few (L : List (List Nm)) (E : Dem) : Prop := E.map (·.1) = keysOf L.flatten ∧ ∀ p ∈ E, (p.2.map (·.1)).Nodup ∧ ∀ q ∈ p.2, q.1 ∈ L.flatten
theorem few_init (L : List (List Nm)) : Few L (initE L) := by
  refine ⟨by unfold initE; rw [List.map_map]; exact List.map_id _, fun p hp => ?_⟩
  obtain ⟨x, _, rfl⟩ := List.mem_map.mp hp
  exact ⟨.nil, fun q hq => nomatch hq⟩
theorem few_put {L : List (List Nm)} {E : Dem} (h : Few L E) (x : Nm) {y : Nm} (hy : y ∈ L.flatten) (i : Nat) : Few L (demPut E x y i) := by
  refine ⟨by rw [demPut_keys]; exact h.1, fun p hp => ?_⟩
  obtain ⟨q, hq, rfl⟩ := List.mem_map.mp hp
  obtain ⟨h1, h2⟩ := h.2 q hq
  split
  · unfold setDef
    split
    · exact ⟨h1, h2⟩
    · rename_i e
      refine ⟨?_, fun z hz => ?_⟩
      · rw [List.map_append]
        refine List.nodup_append.mpr ⟨h1, by simp, fun a ha b hb eq => e ?_⟩
        obtain ⟨z, hz, rfl⟩ := List.mem_map.mp ha
        rw [List.map_singleton, List.mem_singleton] at hb
        rw [List.any_eq_true]
        exact ⟨z, hz, by rw [eq, hb]; simp⟩
      · rcases List.mem_append.mp hz with z | z
        · exact h2 _ z
        · rw [List.mem_singleton.mp z]; exact hy
  · exact ⟨h1, h2⟩
theorem sub_len : ∀ {l m : List Nm} (nd : l.Nodup) (h : ∀ x ∈ l, x ∈ m), l.length ≤ m.length
  | [], m, _, _ => Nat.zero_le _
  | x :: l, m, nd, h => by
    obtain ⟨s1, s2, rfl⟩ := List.append_of_mem (h x (List.mem_cons_self ..))
    have n2 := List.nodup_cons.mp nd
    have := sub_len (l := l) (m := s1 ++ s2) n2.2 fun y hy => by
      rcases List.mem_append.mp (h y (List.mem_cons_of_mem _ hy)) with z | z
      · exact List.mem_append_left _ z
      · rcases List.mem_cons.mp z with z | z
        · exact absurd (z ▸ hy) n2.1
        · exact List.mem_append_right _ z
    rw [List.length_append] at this
    rw [List.length_append, List.length_cons, List.length_cons]
    omega
theorem few_len {L : List (List Nm)} (hL : RowsOk L) {E : Dem} (h : Few L E) {p : Nm × List (Nm × Nat)} (hp : p ∈ E) : p.2.length ≤ 10000 := by
  obtain ⟨h1, h2⟩ := h.2 p hp
  have := sub_len h1 (m := L.flatten) fun x hx => by
    obtain ⟨q, hq, rfl⟩ := List.mem_map.mp hx
    exact h2 q hq
  have h3 := flat_len hL L.length
  rw [List.take_length] at h3
  rw [List.length_map] at this
  omega
theorem ok_earliest_demands {f : Addr} {fd : FuncData} (Fu : Fun K "earliest_demands" "earliest_demands" s_earliest_demands f fd) (T : Txt mg) : FnOk P w K mg base (L2.CX P w) 1 f fd ["lists"] (sp_earliest K) := by
  refine fn_P Fu sc_earliest_demands (fun a => rfl) (fun cdv A outer s H E F L hp hr => ?_)
  have nd := sc_earliest_demands.nd
  have hen := T.enumerate
  refine ss_cons (s_Dc2 rfl nd (blkOk_by rfl) ?_)
  repeat fail
  refine ⟨fun i c acc => Mk (L.take i).flatten c acc ∧ acc.length ≤ 10000, ⟨⟨fun _ => 0, rfl, fun x hx => absurd hx List.not_mem_nil, List.Pairwise.nil⟩, Nat.zero_le _⟩, ?_, ?_⟩
  · rintro i d c acc hd ⟨hm, hz⟩ F'
    rw [List.getElem?_map] at hd
    obtain ⟨r, hr', rfl⟩ := Option.map_eq_some_iff.mp hd
    repeat fail
    refine ⟨?_, fun j c acc => Mk ((L.take i).flatten ++ r.take j) c acc, ?_, ?_, ?_⟩
    · have := hp.2 r (List.mem_of_getElem? hr')
      fail "z"
    · show Mk ((L.take i).flatten ++ r.take 0) c acc
      rw [List.take_zero, List.append_nil]; exact hm
    · rintro j e c acc' he hm' F'
      rw [List.getElem?_map] at he
      obtain ⟨x, hx, rfl⟩ := Option.map_eq_some_iff.mp he
      repeat fail
      refine SE.ndP (se_dnew fun a nd' => ?_)
      show Mk ((L.take i).flatten ++ r.take (j + 1)) _ _
      rw [List.take_add_one, hx, Option.toList_some, ← List.append_assoc]
      exact hm'.step x a nd'
    · intro c acc' hm'
      have hm' : Mk ((L.take i).flatten ++ r.take (r.map nD).length) c acc' := hm'
      rw [List.length_map, List.take_length, ← mem_flat_take hr'] at hm'
      refine ⟨hm', ?_⟩
      obtain ⟨ad, rfl, _⟩ := hm'
      rw [List.length_map]
      exact Nat.le_trans (keysOf_len _) (flat_len hp _)
  · rintro c acc ⟨hm, _⟩ a
    have hm : Mk (L.take (L.map nT).length).flatten c acc := hm
    rw [List.length_map, List.take_length] at hm
    refine SS.nd fun nd' => ?_
    have hN := hm.nest a nd'
    refine ss_cons (s_for (passes_of rfl) rfl ?_)
    refine sw_enumT hen ?_
    repeat fail
    rw [enumD_map]
    refine for_t (fun rest Γ c => ∃ u2 u3 u4 u5 u6, (Γ = [.dat (lisD L), .dat (.raw (.ref a)), u2, u3, u4, u5, u6]) ∧ ∃ E, Nest a E c ∧ Few L E ∧ demRows E rest = earliest L) ⟨_, _, _, _, _, rfl, initE L, hN, few_init L, rfl⟩ ?_ ?_
    · rintro pre ⟨r, i⟩ rest Γ c hl ⟨u2, u3, u4, u5, u6, rfl, E, hN, hF, hE⟩
      have hrL := (zip_rest hl).2.2
      repeat fail
      refine s_for (passes_of rfl) rfl ?_
      refine sw_enumT hen ?_
      repeat fail
      rw [enumD_map]
      refine for_t (fun left Γ c => ∃ u4 u5 u6, (Γ = [.dat (lisD L), .dat (.raw (.ref a)), .dat (.int (i : Nat)), .dat (nT r), u4, u5, u6]) ∧ ∃ E, Nest a E c ∧ Few L E ∧ demRows (demRow i E (left.map (·.1))) rest = earliest L) ⟨_, _, _, rfl, E, hN, hF, ?_⟩ ?_ ?_
      · rw [← hE]; simp [demRows]
      · rintro pre' ⟨x, k⟩ left Γ c hl' ⟨u4, u5, u6, rfl, E, hN, hF, hE⟩
        obtain ⟨hdrop, hk, hxr⟩ := zip_rest hl'
        repeat fail
        refine s_for (passes_of rfl) rfl ?_
        repeat fail
        refine sv_fromT (by omega) ?_
        repeat fail
        refine for_t (fun todo Γ c => ∃ u6, (Γ = [.dat (lisD L), .dat (.raw (.ref a)), .dat (.int (i : Nat)), .dat (nT r), .dat (.int (k : Nat)), .dat (nD x), u6]) ∧ ∃ E, Nest a E c ∧ Few L E ∧ demRows (demRow i (demPuts i x E todo) (left.map (·.1))) rest = earliest L) ⟨_, rfl, E, hN, hF, ?_⟩ ?_ ?_
        · rw [← hE, show ((k : Int) + 1).toNat = k + 1 by omega, hdrop]; rfl
        · rintro pre2 y todo Γ c hl2 ⟨u6, rfl, E, hN, hF, hE⟩
          have hy : y ∈ L.flatten := List.mem_flatten.mpr ⟨r, hrL, List.mem_of_mem_drop (by rw [hl2]; simp)⟩
          obtain ⟨ad, h1, h2, h3⟩ := hN.ex
          have hxk : x ∈ E.map (·.1) := by rw [hF.1, mem_keysOf]; exact List.mem_flatten.mpr ⟨r, hrL, hxr⟩
          obtain ⟨p, hp', rfl⟩ := List.mem_map.mp hxk
          obtain ⟨j0, hj0⟩ := List.getElem?_of_mem h1
          obtain ⟨j1, hj1⟩ := List.getElem?_of_mem (h2 p hp')
          repeat fail
          refine se_setdef ?_
          repeat fail
          refine iv_cel j0 (hu_of hr) hj0 rfl (d' := .raw (.ref (ad p.1))) ?_ ⟨_, j1, _, rfl, hj1, ?_⟩
          · rw [dval_map (fun q : Nm × List (Nm × Nat) => .raw (.ref (ad q.1))) (fun q => q.1), find_key hN.nd hp' rfl]; rfl
          repeat fail
          refine ⟨_, _, _, _, rfl, hj1, rfl, ?_, ?_, ?_⟩
          · have := few_len hp hF hp'
            show (List.map _ _).length < _
            rw [List.length_map]; have := big_line; omega
          · intro d hd
            have : (p.2.any fun q => decide (q.1 = y)) = true := by rw [← inE_any, hd]; rfl
            refine ⟨_, rfl, E, hN, hF, ?_⟩
            rw [← hE]
            show _ = demRows (demRow i (demPuts i p.1 (demPut E p.1 y i) todo) _) _
            rw [demPut_same hN.nd hp' rfl this]
          · intro hd
            have : (p.2.any fun q => decide (q.1 = y)) = false := by rw [← inE_any, hd]; rfl
            refine ⟨_, rfl, demPut E p.1 y i, ?_, few_put hF _ hy _, by rw [← hE]; rfl⟩
            rw [inE_put _ _ _ this]
            exact hN.put h1 h2 h3 hp' rfl hj1
        · rintro Γ c ⟨u6, rfl, E, hN, hF, hE⟩
          exact ⟨_, _, _, rfl, E, hN, hF, by rw [← hE]; rfl⟩
      · rintro Γ c ⟨u4, u5, u6, rfl, E, hN, hF, hE⟩
        exact ⟨_, _, _, _, _, rfl, E, hN, hF, by rw [← hE]; rfl⟩
    · rintro Γ c ⟨u2, u3, u4, u5, u6, rfl, E, hN, hF, hE⟩
      obtain ⟨ad, h1, h2, h3⟩ := hN.ex
      refine ss_frzDD (fun p : Nm × List (Nm × Nat) => nK p.1) (fun p => ad p.1) (fun p => inE p.2) E 1 rfl h1 h2 h3 ?_
      repeat fail
      exact ⟨rfl, by rw [← hE]; rfl⟩
end
end W
end
section
set_option Elab.async false
set_option linter.all false
set_option maxRecDepth 100000
set_option maxHeartbeats 4000000
open PySem L2 D PyProof.Rows
local macro_rules
  | `(tactic| fail "z") => `(tactic| ((try simp only [List.length_map, List.length_cons, List.length_nil, List.length_append, List.length_drop, List.length_take]); have := big_line; omega))
local macro_rules
  | `(tactic| fail) => `(tactic| first
    | (refine (?_ : SE _ _ _ _ _ _); first | refine se_nm rfl ?_ | refine se_tyTuple (by assumption) ?_ | refine se_tyStr (by assumption) ?_ | refine se_tyInt (by assumption) ?_ | refine se_tyBool (by assumption) ?_ | refine se_int ?_ | refine se_str ?_ | refine se_non ?_ | refine se_bl ?_ | refine se_cmp ?_ | refine se_bin ?_ | refine se_ix ?_ | refine se_slice ?_ | refine se_tup ?_ | refine se_lst ?_ | (refine (?_ : SE _ _ _ _ (.Call _ _ _ _) _); first | refine se_any (by assumption) ?_ | refine se_all (by assumption) ?_ | refine se_len (by assumption) ?_ | refine se_min (by assumption) ?_ | refine se_max (by assumption) ?_ | refine se_sorted (by assumption) ?_ | refine se_isi (by assumption) ?_ | refine se_abs (by assumption) ?_ | refine se_sum (by assumption) ?_ | refine se_tupleC (by assumption) ?_ | refine se_listC (by assumption) ?_) | refine se_M rfl (by assumption) (blkOk_by rfl) ?_ | refine se_F rfl (by assumption) (blkOk_by rfl) ?_ | refine se_Dc rfl (by assumption) (blkOk_by rfl) ?_ | refine se_chain ?_ | refine se_indexN ?_ | refine se_not ?_ | refine se_if ?_ | refine se_one ?_ | refine se_and ?_ | refine se_or ?_ | refine se_neg ?_)
    | (refine (?_ : ST _ _ _ _ _ _); first | refine st_cmp ?_ | refine st_chain ?_ | refine st_not ?_ | refine st_w (sw_and ?_) | refine st_w (sw_or ?_) | refine st_val ?_)
    | (refine (?_ : SWt _ _ _ _ _ _); first | refine sw_and ?_ | refine sw_and1 ?_ | refine sw_or ?_ | refine sw_or1 ?_)
    | (refine (?_ : SA _ _ _ _ _ _); first | refine sa_cons ?_ | refine sa_nil ?_)
    | (refine (?_ : SO _ _ _ _ _ _); first | refine so_none ?_ | refine so_some ?_)
    | (refine (?_ : SS _ _ _ _ _ _); first | refine ss_one ?_ | refine ss_cons ?_)
    | (refine (?_ : S1 _ _ _ _ _ _); first | refine s_ret ?_ | refine s_if ?_ | refine s_M rfl (by assumption) (blkOk_by rfl) ?_ | refine s_F rfl (by assumption) (blkOk_by rfl) ?_ | refine s_Dc rfl (by assumption) (blkOk_by rfl) ?_ | refine s_st (by assumption) ?_ | refine s_aug (by assumption) rfl ?_ | refine s_asg ?_ | refine s_expr ?_)
    | (refine (?_ : SG _ _ _ _ _ _ _); first | refine sg_nm (by assumption) ?_ | refine sg_par rfl ?_ | refine sg_tup rfl ?_)
    | (refine (?_ : SGs _ _ _ _ _ _ _); first | refine sgs_cons ?_ | refine sgs_nil ?_)
    | (refine (?_ : SGb _ _ _ _ _ _ _ _); first | refine sgb_nm (by assumption) ?_ (by first | exact vs_self | exact vs_one | exact vs_two) | refine sgb_par rfl ?_ | refine sgb_tup rfl ?_)
    | (refine (?_ : SGbs _ _ _ _ _ _ _ _); first | refine sgbs_cons ?_ | refine sgbs_nil ?_)
    | (refine (?_ : SW _ _ _ _ _ _ _); first | refine sw_vals ?_ | refine sw_zipT (by assumption) ?_ | refine sw_range (by assumption) ?_ | refine sw_seq ?_)
    | (refine (?_ : OpV _ _ _ _ _ _ _ _); first | refine ov_eqN ?_ | refine ov_neN ?_ | refine ov_inN ?_ | refine ov_ninN ?_ | refine ov_inNT ?_ | refine ov_ninNT ?_ | refine oi_add ?_ | refine oi_catT (by fail "z") ?_ | refine ov_cat (by fail "z") ?_ | refine ov_catT (by fail "z") ?_ | refine ov_add ?_ | refine ov_sub ?_ | refine ov_lt ?_ | refine ov_le ?_ | refine ov_gt ?_ | refine ov_ge ?_ | refine ov_eqI ?_ | refine ov_neI ?_ | refine ov_eqS ?_ | refine ov_neS ?_ | refine ov_eqB ?_ | refine ov_neB ?_)
    | (refine (?_ : IxV _ _ _ _ _ _ _); first | refine iv_cons ?_ | refine iv_consT ?_)
    | (refine (?_ : SlV _ _ _ _ _ _ _ _); first | refine sv_fromL (by decide) ?_ | refine sv_fromT (by decide) ?_ | refine sv_toL (by decide) ?_ | refine sv_toT (by decide) ?_)
    | (refine (?_ : ClV _ _ _ _ _ _ _); first | refine cv_anyM rfl ?_ | refine cv_allM rfl ?_ | refine cv_len rfl ?_ | refine cv_tuple rfl ?_ | refine cv_list rfl ?_ | refine cv_abs ?_ | refine cv_isStr rfl ?_ | refine cv_isTup rfl ?_ | refine cv_isInt rfl ?_ | refine cv_isBool rfl ?_ | refine cv_sum rfl ?_)
    | refine turn0I (fun _ _ _ _ _ _ => ?_) | refine turn1I (fun _ _ _ _ _ _ => ?_) | refine turnDI (fun _ _ _ _ _ _ => ?_) | refine abI (fun _ _ _ _ _ => ?_) | refine iteT ?_ | refine iteF ?_ | refine And.intro (show _ ≤ sizeLine by fail "z") ?_ | refine ⟨_, rfl, ?_⟩)
namespace W
open PySem L2 D PyProof.Rows
theorem keysD_map {α : Type} (f : α → Dt) (k : α → Nm) (l : List α) : keysD (l.map fun p => (nK (k p), f p)) = l.map fun p => nD (k p) := by
  unfold keysD; rw [List.map_map]; rfl
def hasK (l : List (Nm × Nat)) (y : Nm) : Bool := l.any fun q => decide (q.1 = y)
def nextL (E : Dem) (found : List (Nm × Nat)) (level : List Nm) : List Nm := (E.filter fun p => !hasK found p.1 && level.any fun y => hasK p.2 y).map (·.1)
def distF : Nat → Dem → List (Nm × Nat) → List Nm → Nat → List (Nm × Nat)
  | 0, _, found, _, _ => found
  | n + 1, E, found, level, s => if level.isEmpty = true then found else distF n E (found ++ (nextL E found level).map fun x => (x, s + 1)) (nextL E found level) (s + 1)
def dist (E : Dem) (g : Nm) : List (Nm × Nat) := distF (E.length + 2) E [] [g] 0
theorem dput_new {l : List (Key × Dt)} {k : Key} (d : Dt) (h : (l.any fun kv => decide (kv.1 = k)) = false) : dput l k d = l ++ [(k, d)] := by
  unfold dput; rw [h]; rfl
theorem fold_new : ∀ (m l : List (Nm × Nat)), (m.map (·.1)).Nodup → (∀ q ∈ m, hasK l q.1 = false) → (inE m).foldl (fun acc kv => dput acc kv.1 kv.2) (inE l) = inE (l ++ m)
  | [], l, _, _ => by simp
  | q :: m, l, nd, h => by
    have n2 := List.nodup_cons.mp nd
    show (inE m).foldl (fun acc kv => dput acc kv.1 kv.2) (dput (inE l) (nK q.1) (.int (q.2 : Nat))) = _
    have hq := h q (List.mem_cons_self ..)
    rw [dput_new _ (by rw [inE, any_nK (fun q : Nm × Nat => .int (q.2 : Nat)) (fun q => q.1)]; exact hq)]
    have e : inE l ++ [(nK q.1, Dt.int (q.2 : Nat))] = inE (l ++ [q]) := by simp [inE]
    rw [e, fold_new m (l ++ [q]) n2.2 fun r hr => ?_]
    · simp
    · unfold hasK
      rw [List.any_append]
      have h1 := h r (List.mem_cons_of_mem _ hr)
      unfold hasK at h1
      rw [h1]
      have : ¬ q.1 = r.1 := fun e => n2.1 (List.mem_map.mpr ⟨r, hr, e.symm⟩)
      simp [this]
theorem nextL_nodup {E : Dem} (nd : (E.map (·.1)).Nodup) (found : List (Nm × Nat)) (level : List Nm) : (nextL E found level).Nodup := nd.sublist (List.filter_sublist.map _)
theorem nextL_len (E : Dem) (found : List (Nm × Nat)) (level : List Nm) : (nextL E found level).length ≤ E.length := by
  unfold nextL; rw [List.length_map]; exact List.length_filter_le _ _
theorem nextL_fresh {E : Dem} {found : List (Nm × Nat)} {level : List Nm} {x : Nm} (h : x ∈ nextL E found level) : hasK found x = false ∧ x ∈ E.map (·.1) := by
  obtain ⟨p, hp, rfl⟩ := List.mem_map.mp h
  obtain ⟨h1, h2⟩ := List.mem_filter.mp hp
  rw [Bool.and_eq_true] at h2
  exact ⟨by simpa using h2.1, List.mem_map.mpr ⟨p, h1, rfl⟩⟩
theorem hasK_iff {l : List (Nm × Nat)} {y : Nm} : hasK l y = true ↔ y ∈ l.map (·.1) := by
  unfold hasK
  rw [List.any_eq_true]
  constructor
  · rintro ⟨q, hq, e⟩; exact List.mem_map.mpr ⟨q, hq, of_decide_eq_true e⟩
  · intro h; obtain ⟨q, hq, e⟩ := List.mem_map.mp h; exact ⟨q, hq, decide_eq_true e⟩
abbrev EOk (E : Dem) : Prop := E.length ≤ 10000 ∧ (E.map (·.1)).Nodup
/-- what has been found: distinct names of the demands -/
def FOk (E : Dem) (found : List (Nm × Nat)) : Prop := (found.map (·.1)).Nodup ∧ ∀ q ∈ found, q.1 ∈ E.map (·.1)
theorem FOk.len {E : Dem} {found : List (Nm × Nat)} (h : FOk E found) : found.length ≤ E.length := by
  have := sub_len h.1 (m := E.map (·.1)) fun x hx => by
    obtain ⟨q, hq, rfl⟩ := List.mem_map.mp hx
    exact h.2 q hq
  rwa [List.length_map, List.length_map] at this
theorem FOk.next {E : Dem} (hE : EOk E) {found : List (Nm × Nat)} (h : FOk E found) (level : List Nm) (s : Nat) : FOk E (found ++ (nextL E found level).map fun x => (x, s)) := by
  refine ⟨?_, fun q hq => ?_⟩
  · rw [List.map_append, List.map_map, show ((fun q : Nm × Nat => q.1) ∘ fun x => (x, s)) = id from rfl, List.map_id]
    refine List.nodup_append.mpr ⟨h.1, nextL_nodup hE.2 _ _, fun a ha b hb e => ?_⟩
    subst e
    have := (nextL_fresh hb).1
    rw [hasK_iff.mpr ha] at this; cases this
  · rcases List.mem_append.mp hq with z | z
    · exact h.2 q z
    · obtain ⟨x, hx, rfl⟩ := List.mem_map.mp z
      exact (nextL_fresh hx).2
section
variable {P : Program} {w : World} {K : PySem.W.Frag} {mg : Str → Option Value} {base : Heap}
abbrev sp_distances (K : PySem.W.Frag) : Sp := spP K (fun x : Dem × Nm => [demD x.1, nD x.2]) (fun x => EOk x.1) (fun x d => d = .dct (inE (dist x.1 x.2)))
theorem ok_distances_to {f : Addr} {fd : FuncData} (Fu : Fun K "distances_to" "distances_to" s_distances_to f fd) (T : Txt mg) : FnOk P w K mg base (L2.CX P w) 1 f fd ["demands", "goal"] (sp_distances K) := by
  refine fn_P Fu sc_distances_to (fun a => rfl) (fun cdv A outer s H E0 F x hp hr => ?_)
  obtain ⟨E, g⟩ := x
  have hE : EOk E := hp
  have nd := sc_distances_to.nd
  have hany := T.any
  have hu := hu_of hr
  refine ss_cons (s_st nd (se_dnew fun a => ?_))
  repeat fail
  refine s_while (passes_of rfl) (fun m Γ c => ∃ d3 d4 u5 u6, (Γ = [.dat (demD E), .dat (nD g), .dat (.raw (.ref a)), .dat d3, .dat d4, u5, u6]) ∧ ∃ found level st n, c = [(a, .dk (inE found))] ∧ d3 = nL level ∧ d4 = .int (st : Nat) ∧ level.length ≤ 10000 ∧ FOk E found ∧
    m = (E.length - found.length) + (if level.isEmpty = true then 0 else 1) ∧ m < n ∧ distF n E found level st = dist E g) (E.length + 1) ⟨_, _, _, _, rfl, [], [g], 0, E.length + 2, rfl, rfl, rfl, by show 1 ≤ 10000; decide, ⟨.nil, fun q hq => nomatch hq⟩, rfl, Nat.lt_succ_self _, rfl⟩ ?_
  rintro m Γ c ⟨_, _, u5, u6, rfl, found, level, st, n, rfl, rfl, rfl, hlv, hF, rfl, hn, hd⟩
  cases n with
  | zero => omega
  | succ n =>
  unfold distF at hd
  repeat fail
  refine ov_neNil hr.units (fit_nL level) ?_
  repeat fail
  refine ite2 (fun h => ?_) (fun h => ?_)
  · have hlne : level.isEmpty = false := by simpa using h
    rw [hlne, if_neg Bool.false_ne_true] at hd
    rw [hlne, if_neg Bool.false_ne_true] at hn
    repeat fail
    rw [keysD_map (fun p : Nm × List (Nm × Nat) => .dct (inE p.2)) (fun p => p.1)]
    refine lcF (fun p => !hasK found p.1 && level.any fun y => hasK p.2 y) (fun p => nD p.1) ?_ ?_ ?_
    · have := hE.1
      fail "z"
    · intro p hp'
      repeat fail
      refine ov_notCel 0 hu rfl rfl ?_
      rw [inE_any]
      repeat fail
      refine ite2 (fun h1 => ?_) (fun h1 => ?_)
      · repeat fail
        apply lcM
        · fail "z"
        · intro y hy
          repeat fail
          refine iv_dct hu rfl (d' := .dct (inE p.2)) ?_ ?_
          · rw [dval_map (fun p : Nm × List (Nm × Nat) => .dct (inE p.2)) (fun p => p.1), find_key hE.2 hp' rfl]; rfl
          refine ov_inDct hu rfl ?_
          exact ⟨rfl, rfl⟩
        repeat fail
        refine filt_end (fun h2 => ?_) (fun h2 => ?_)
        · repeat fail
          refine ⟨?_, rfl, rfl⟩
          rw [show hasK found p.1 = (found.any fun q => decide (q.1 = p.1)) from rfl, h1, Bool.true_and]
          rw [← h2]; congr 1; funext y; exact (inE_any p.2 y).symm
        · refine ⟨rfl, ?_⟩
          rw [show hasK found p.1 = (found.any fun q => decide (q.1 = p.1)) from rfl, h1, Bool.true_and]
          rw [← h2]; congr 1; funext y; exact (inE_any p.2 y).symm
      · repeat fail
        refine ⟨rfl, ?_⟩
        rw [show hasK found p.1 = (found.any fun q => decide (q.1 = p.1)) from rfl]
        simp only [Bool.not_eq_true] at h1
        rw [h1, Bool.false_and]
    · repeat fail
      refine se_update ?_
      repeat fail
      refine ⟨a, 0, _, rfl, rfl, ?_⟩
      repeat fail
      have enx : (E.filter fun p => !hasK found p.1 && level.any fun y => hasK p.2 y).map (fun p => nD p.1) = (nextL E found level).map nD := by unfold nextL; rw [List.map_map]; rfl
      rw [enx]
      have hlen := nextL_len E found level
      have hE1 := hE.1
      have hFl := hF.len
      refine lcD nK (fun _ => .int ((st : Int) + 1)) ?_ ?_ ?_
      · fail "z"
      · intro y hy
        repeat fail
        exact ⟨rfl, rfl, rfl⟩
      intro b
      have hnd := nextL_nodup hE.2 found level
      have e0 : ((nextL E found level).map fun r => (nK r, Dt.int ((st : Int) + 1))).foldl (fun acc kv => dput acc kv.1 kv.2) [] = inE ((nextL E found level).map fun x => (x, st + 1)) := by
        have := fold_new ((nextL E found level).map fun x => (x, st + 1)) [] (by rw [List.map_map, show ((fun q : Nm × Nat => q.1) ∘ fun x => (x, st + 1)) = id from rfl, List.map_id]; exact hnd) (fun _ _ => rfl)
        rw [List.nil_append] at this
        rw [← this]
        have e9 : inE ((nextL E found level).map fun x => (x, st + 1)) = (nextL E found level).map fun r => (nK r, Dt.int ((st : Int) + 1)) := by rw [inE, List.map_map]; rfl
        rw [e9]
        rfl
      rw [e0]
      have e1 := fold_new ((nextL E found level).map fun x => (x, st + 1)) found (by rw [List.map_map, show ((fun q : Nm × Nat => q.1) ∘ fun x => (x, st + 1)) = id from rfl, List.map_id]; exact hnd) (fun q hq => by
        obtain ⟨x, hx, rfl⟩ := List.mem_map.mp hq
        exact (nextL_fresh hx).1)
      refine ⟨b, [(a, .dk (inE found))], _, _, rfl, rfl, rfl, ?_, ?_⟩
      · rw [inE, inE, List.length_map, List.length_map, List.length_map]; have := big_line; omega
      rw [e1]
      have hF2 := hF.next hE level (st + 1)
      refine ⟨_, ?_, _, _, _, _, rfl, _, nextL E found level, st + 1, n, rfl, rfl, rfl, by omega, hF2, rfl, ?_, hd⟩
      · have l2 := hF2.len
        rw [hlne, if_neg Bool.false_ne_true]
        rw [List.length_append, List.length_map] at l2 ⊢
        cases hx : nextL E found level with
        | nil => simp
        | cons x l => rw [hx] at l2; simp at l2 ⊢ <;> omega
      · have l2 := hF2.len
        rw [List.length_append, List.length_map] at l2 ⊢
        cases hx : nextL E found level with
        | nil => simp <;> omega
        | cons x l => rw [hx] at l2; simp at l2 ⊢ <;> omega
  · have hlne : level.isEmpty = true := by simpa using h
    rw [hlne, if_pos rfl] at hd
    refine ss_freezeD 2 0 rfl rfl ?_
    repeat fail
    exact ⟨rfl, by rw [← hd]⟩
end
end W
end
section
set_option Elab.async false
set_option linter.all false
set_option maxRecDepth 100000
set_option maxHeartbeats 4000000
open PySem L2 D PyProof.Rows
local macro_rules
  | `(tactic| fail "z") => `(tactic| ((try simp only [List.length_map, List.length_cons, List.length_nil, List.length_append, List.length_drop, List.length_take]); have := big_line; omega))
local macro_rules
  | `(tactic| fail) => `(tactic| first
    | (refine (?_ : SE _ _ _ _ _ _); first | refine se_nm rfl ?_ | refine se_tyTuple (by assumption) ?_ | refine se_tyStr (by assumption) ?_ | refine se_tyInt (by assumption) ?_ | refine se_tyBool (by assumption) ?_ | refine se_int ?_ | refine se_str ?_ | refine se_non ?_ | refine se_bl ?_ | refine se_cmp ?_ | refine se_bin ?_ | refine se_ix ?_ | refine se_slice ?_ | refine se_tup ?_ | refine se_lst ?_ | (refine (?_ : SE _ _ _ _ (.Call _ _ _ _) _); first | refine se_any (by assumption) ?_ | refine se_all (by assumption) ?_ | refine se_len (by assumption) ?_ | refine se_min (by assumption) ?_ | refine se_max (by assumption) ?_ | refine se_sorted (by assumption) ?_ | refine se_isi (by assumption) ?_ | refine se_abs (by assumption) ?_ | refine se_sum (by assumption) ?_ | refine se_tupleC (by assumption) ?_ | refine se_listC (by assumption) ?_) | refine se_M rfl (by assumption) (blkOk_by rfl) ?_ | refine se_F rfl (by assumption) (blkOk_by rfl) ?_ | refine se_Dc rfl (by assumption) (blkOk_by rfl) ?_ | refine se_chain ?_ | refine se_indexN ?_ | refine se_not ?_ | refine se_if ?_ | refine se_one ?_ | refine se_and ?_ | refine se_or ?_ | refine se_neg ?_)
    | (refine (?_ : ST _ _ _ _ _ _); first | refine st_cmp ?_ | refine st_chain ?_ | refine st_not ?_ | refine st_w (sw_and ?_) | refine st_w (sw_or ?_) | refine st_val ?_)
    | (refine (?_ : SWt _ _ _ _ _ _); first | refine sw_and ?_ | refine sw_and1 ?_ | refine sw_or ?_ | refine sw_or1 ?_)
    | (refine (?_ : SA _ _ _ _ _ _); first | refine sa_cons ?_ | refine sa_nil ?_)
    | (refine (?_ : SO _ _ _ _ _ _); first | refine so_none ?_ | refine so_some ?_)
    | (refine (?_ : SS _ _ _ _ _ _); first | refine ss_one ?_ | refine ss_cons ?_)
    | (refine (?_ : S1 _ _ _ _ _ _); first | refine s_ret ?_ | refine s_if ?_ | refine s_M rfl (by assumption) (blkOk_by rfl) ?_ | refine s_F rfl (by assumption) (blkOk_by rfl) ?_ | refine s_Dc rfl (by assumption) (blkOk_by rfl) ?_ | refine s_st (by assumption) ?_ | refine s_aug (by assumption) rfl ?_ | refine s_asg ?_ | refine s_expr ?_)
    | (refine (?_ : SG _ _ _ _ _ _ _); first | refine sg_nm (by assumption) ?_ | refine sg_par rfl ?_ | refine sg_tup rfl ?_)
    | (refine (?_ : SGs _ _ _ _ _ _ _); first | refine sgs_cons ?_ | refine sgs_nil ?_)
    | (refine (?_ : SGb _ _ _ _ _ _ _ _); first | refine sgb_nm (by assumption) ?_ (by first | exact vs_self | exact vs_one | exact vs_two) | refine sgb_par rfl ?_ | refine sgb_tup rfl ?_)
    | (refine (?_ : SGbs _ _ _ _ _ _ _ _); first | refine sgbs_cons ?_ | refine sgbs_nil ?_)
    | (refine (?_ : SW _ _ _ _ _ _ _); first | refine sw_vals ?_ | refine sw_zipT (by assumption) ?_ | refine sw_range (by assumption) ?_ | refine sw_seq ?_)
    | (refine (?_ : OpV _ _ _ _ _ _ _ _); first | refine ov_eqN ?_ | refine ov_neN ?_ | refine ov_inN ?_ | refine ov_ninN ?_ | refine ov_inNT ?_ | refine ov_ninNT ?_ | refine oi_add ?_ | refine oi_catT (by fail "z") ?_ | refine ov_cat (by fail "z") ?_ | refine ov_catT (by fail "z") ?_ | refine ov_add ?_ | refine ov_sub ?_ | refine ov_lt ?_ | refine ov_le ?_ | refine ov_gt ?_ | refine ov_ge ?_ | refine ov_eqI ?_ | refine ov_neI ?_ | refine ov_eqS ?_ | refine ov_neS ?_ | refine ov_eqB ?_ | refine ov_neB ?_)
    | (refine (?_ : IxV _ _ _ _ _ _ _); first | refine iv_cons ?_ | refine iv_consT ?_)
    | (refine (?_ : SlV _ _ _ _ _ _ _ _); first | refine sv_fromL (by decide) ?_ | refine sv_fromT (by decide) ?_ | refine sv_toL (by decide) ?_ | refine sv_toT (by decide) ?_)
    | (refine (?_ : ClV _ _ _ _ _ _ _); first | refine cv_anyM rfl ?_ | refine cv_allM rfl ?_ | refine cv_len rfl ?_ | refine cv_tuple rfl ?_ | refine cv_list rfl ?_ | refine cv_abs ?_ | refine cv_isStr rfl ?_ | refine cv_isTup rfl ?_ | refine cv_isInt rfl ?_ | refine cv_isBool rfl ?_ | refine cv_sum rfl ?_)
    | refine turn0I (fun _ _ _ _ _ _ => ?_) | refine turn1I (fun _ _ _ _ _ _ => ?_) | refine turnDI (fun _ _ _ _ _ _ => ?_) | refine abI (fun _ _ _ _ _ => ?_) | refine iteT ?_ | refine iteF ?_ | refine And.intro (show _ ≤ sizeLine by fail "z") ?_ | refine ⟨_, rfl, ?_⟩)
namespace W
open PySem L2 D PyProof.Rows
def outs (E : Dem) (x : Nm) : List (Nm × Nat) := ((E.find? fun p => decide (p.1 = x)).map (·.2)).getD []
def natAt (l : List (Nm × Nat)) (x : Nm) : Option Nat := (l.find? fun q => decide (q.1 = x)).map (·.2)
def optI : Option Nat → Dt
  | none => .non
  | some n => .int (n : Nat)
def nearer (E : Dem) (ds : List (Nm × Nat)) (g x : Nm) (left : Nat) : List Nm := ((outs E x).filter fun q => (decide (q.1 = g) && decide (left = 0)) || (decide (0 < left) && decide (natAt ds q.1 = some left))).map (·.1)
def roadF (E : Dem) (ds : List (Nm × Nat)) (g : Nm) : Nat → Nm → List (Nm × Nm × Nat)
  | 0, _ => []
  | n + 1, x => match nearer E ds g x n with
    | [] => []
    | y :: ys => (x, minN y ys, (natAt (outs E x) (minN y ys)).getD 0) :: roadF E ds g n (minN y ys)
def leastRoad (E : Dem) (s g : Nm) : List (Nm × Nm × Nat) := roadF E (dist E g) g ((natAt (dist E g) s).getD 0) s
abbrev demD1 (t : Nm × Nm × Nat) : Dt := .tup [nD t.1, nD t.2.1, .int (t.2.2 : Nat)]
abbrev roadD (r : List (Nm × Nm × Nat)) : Dt := .tup (r.map demD1)
theorem natAt_mem {l : List (Nm × Nat)} (nd : (l.map (·.1)).Nodup) {q : Nm × Nat} (hq : q ∈ l) : natAt l q.1 = some q.2 := by
  unfold natAt
  induction l with
  | nil => cases hq
  | cons p l ih =>
    rw [List.find?_cons]
    rcases List.mem_cons.mp hq with e | h
    · subst e; simp
    · have n2 := List.nodup_cons.mp nd
      rw [decide_eq_false fun e => n2.1 (List.mem_map.mpr ⟨q, h, e.symm⟩)]
      exact ih n2.2 h
theorem natAt_some {l : List (Nm × Nat)} {x : Nm} {n : Nat} (h : natAt l x = some n) : (x, n) ∈ l := by
  unfold natAt at h
  obtain ⟨q, hq, rfl⟩ := Option.map_eq_some_iff.mp h
  have h1 := List.mem_of_find?_eq_some hq
  have h2 : q.1 = x := by simpa using List.find?_some hq
  rw [← h2]; exact h1
theorem outs_of {E : Dem} (hE : EOk E) {p : Nm × List (Nm × Nat)} (hp : p ∈ E) : outs E p.1 = p.2 := by
  unfold outs; rw [find_key hE.2 hp rfl]; rfl
/-- how the found ones came -/
def Came (E : Dem) (g : Nm) (found : List (Nm × Nat)) : Prop := ∀ q ∈ found, ∃ k, q.2 = k + 1 ∧ q.1 ∈ E.map (·.1) ∧ ∃ y, hasK (outs E q.1) y = true ∧ ((k = 0 ∧ y = g) ∨ (0 < k ∧ (y, k) ∈ found))
theorem distF_came {E : Dem} (hE : EOk E) {g : Nm} : ∀ (n : Nat) (found : List (Nm × Nat)) (level : List Nm) (s : Nat), FOk E found → Came E g found → (s = 0 ∧ level = [g] ∨ 0 < s ∧ ∀ y ∈ level, (y, s) ∈ found) → FOk E (distF n E found level s) ∧ Came E g (distF n E found level s)
  | 0, found, level, s, hF, hC, _ => ⟨hF, hC⟩
  | n + 1, found, level, s, hF, hC, hl => by
    unfold distF
    split
    · exact ⟨hF, hC⟩
    refine distF_came hE n _ _ _ (hF.next hE level (s + 1)) ?_ (.inr ⟨Nat.succ_pos _, fun y hy => List.mem_append_right _ (List.mem_map.mpr ⟨y, hy, rfl⟩)⟩)
    intro q hq
    rcases List.mem_append.mp hq with h | h
    · obtain ⟨k, h1, h0, y, h2, h3⟩ := hC q h
      exact ⟨k, h1, h0, y, h2, h3.imp id fun ⟨a, b⟩ => ⟨a, List.mem_append_left _ b⟩⟩
    · obtain ⟨x, hx, rfl⟩ := List.mem_map.mp h
      obtain ⟨p, hp, rfl⟩ := List.mem_map.mp hx
      obtain ⟨hpE, hp2⟩ := List.mem_filter.mp hp
      rw [Bool.and_eq_true, List.any_eq_true] at hp2
      obtain ⟨_, y, hy, hk⟩ := hp2
      refine ⟨s, rfl, List.mem_map.mpr ⟨p, hpE, rfl⟩, y, by rw [outs_of hE hpE]; exact hk, ?_⟩
      rcases hl with ⟨rfl, rfl⟩ | ⟨h0, hl⟩
      · exact .inl ⟨rfl, List.mem_singleton.mp hy⟩
      · exact .inr ⟨h0, List.mem_append_left _ (hl y hy)⟩
theorem dist_came {E : Dem} (hE : EOk E) (g : Nm) : FOk E (dist E g) ∧ Came E g (dist E g) :=
  distF_came hE _ [] [g] 0 ⟨.nil, fun _ h => nomatch h⟩ (fun _ h => nomatch h) (.inl ⟨rfl, rfl⟩)
theorem distF_top {E : Dem} : ∀ (n : Nat) (found : List (Nm × Nat)) (level : List Nm) (s : Nat), (∀ q ∈ found, q.2 ≤ s) → ∀ q ∈ distF n E found level s, q.2 ≤ s + n
  | 0, found, level, s, h, q, hq => h q hq
  | n + 1, found, level, s, h, q, hq => by
    unfold distF at hq
    split at hq
    · have := h q hq; omega
    · have := distF_top n _ _ (s + 1) (fun q hq => by
        rcases List.mem_append.mp hq with z | z
        · have := h q z; omega
        · obtain ⟨x, _, rfl⟩ := List.mem_map.mp z; exact Nat.le_refl _) q hq
      omega
theorem nearer_ne {E : Dem} (hE : EOk E) {g x : Nm} {k : Nat} (h : natAt (dist E g) x = some (k + 1)) : nearer E (dist E g) g x k ≠ [] := by
  obtain ⟨hF, hC⟩ := dist_came hE g
  obtain ⟨k', e, _, y, hy, hc⟩ := hC _ (natAt_some h)
  cases e
  obtain ⟨q, hq, e⟩ := List.any_eq_true.mp (show (List.any _ _) = true from hy)
  have e := of_decide_eq_true e
  intro z
  have : q.1 ∈ nearer E (dist E g) g x k := by
    refine List.mem_map.mpr ⟨q, List.mem_filter.mpr ⟨hq, ?_⟩, rfl⟩
    rcases hc with ⟨rfl, h2⟩ | ⟨h1, h2⟩
    · simp [e, h2]
    · have := natAt_mem hF.1 h2
      simp [e, h1, this]
  rw [z] at this; cases this
theorem near_min {E : Dem} {ds : List (Nm × Nat)} {g x y : Nm} {ys : List Nm} {k : Nat} (h : nearer E ds g x k = y :: ys) : (∃ q ∈ outs E x, q.1 = minN y ys) ∧ ((k = 0 ∧ minN y ys = g) ∨ (0 < k ∧ natAt ds (minN y ys) = some k)) := by
  have hm : minN y ys ∈ nearer E ds g x k := by rw [h]; exact minBy_mem _ _ _
  obtain ⟨q, hq, e⟩ := List.mem_map.mp hm
  obtain ⟨h1, h2⟩ := List.mem_filter.mp hq
  refine ⟨⟨q, h1, e⟩, ?_⟩
  rw [← e]
  simp only [Bool.or_eq_true, Bool.and_eq_true, decide_eq_true_eq] at h2
  rcases h2 with ⟨a, b⟩ | ⟨a, b⟩
  · exact .inl ⟨b, a⟩
  · exact .inr ⟨a, b⟩
theorem dval_inE (l : List (Nm × Nat)) (y : Nm) : (dval (inE l) (nK y)).getD .non = optI (natAt l y) := by
  rw [inE, dval_map (fun q : Nm × Nat => .int (q.2 : Nat)) (fun q => q.1)]
  unfold natAt
  cases l.find? fun q => decide (q.1 = y) <;> rfl
theorem keysD_inE (l : List (Nm × Nat)) : keysD (inE l) = l.map fun q => nD q.1 := keysD_map (fun q : Nm × Nat => .int (q.2 : Nat)) (fun q => q.1) l
theorem fit_optI {n : Nat} (o : Option Nat) : Fit n (optI o) := by
  cases o with
  | none => exact fit_non
  | some n => exact fit_int
theorem eqd_optI (o : Option Nat) (k : Nat) : eqd (optI o) (.int (k : Nat)) = decide (o = some k) := by
  cases o with
  | none => rfl
  | some n =>
    show PyData.eqv (.int (n : Int)) (.int (k : Int)) = _
    by_cases h : n = k
    · subst h; simp [PyData.eqv]
    · have : ¬ (n : Int) = (k : Int) := by omega
      simp [PyData.eqv, h, this]
theorem range_pre {n r : Nat} {pre rest : List Nat} (h : List.range n = pre ++ r :: rest) : r + rest.length + 1 = n := by
  have h1 : (List.range n)[pre.length]? = some r := by rw [h]; simp
  have hl := congrArg List.length h
  rw [List.length_range, List.length_append, List.length_cons] at hl
  rw [List.getElem?_range (by omega)] at h1
  have : pre.length = r := Option.some.inj h1
  omega
section
variable {P : Program} {w : World} {K : PySem.W.Frag} {mg : Str → Option Value} {base : Heap}
abbrev D_distances_to (P : Program) (w : World) (K : PySem.W.Frag) (mg : Str → Option Value) (base : Heap) : Prop := DefOk P w K mg base 1 "distances_to" ["demands", "goal"] (sp_distances K)
abbrev DmOk (E : Dem) : Prop := EOk E ∧ ∀ p ∈ E, p.2.length ≤ 10000
abbrev sp_least_road (K : PySem.W.Frag) : Sp := spP K (fun x : Dem × Nm × Nm => [demD x.1, nD x.2.1, nD x.2.2]) (fun x => DmOk x.1 ∧ (natAt (dist x.1 x.2.2) x.2.1).isSome = true) (fun x d => d = roadD (leastRoad x.1 x.2.1 x.2.2))
theorem ok_least_road {f : Addr} {fd : FuncData} (Fu : Fun K "least_road" "least_road" s_least_road f fd) (T : Txt mg) (Dd : D_distances_to P w K mg base) : FnOk P w K mg base (L2.CX P w) 2 f fd ["demands", "start", "goal"] (sp_least_road K) := by
  refine fn_P Fu sc_least_road (fun a => rfl) (fun cdv A outer s H E0 F x hp hr => ?_)
  obtain ⟨E, st, g⟩ := x
  obtain ⟨⟨hE, hE2⟩, hs⟩ := (show DmOk E ∧ (natAt (dist E g) st).isSome = true from hp)
  obtain ⟨n, hn⟩ := Option.isSome_iff_exists.mp hs
  have hlr : leastRoad E st g = roadF E (dist E g) g n st := by unfold leastRoad; rw [hn]; rfl
  obtain ⟨hF, hC⟩ := dist_came hE g
  have nd := sc_least_road.nd
  have hmin := T.min
  have hrange := T.range
  have hu := hu_of hr
  have hn1 : n ≤ 10002 := by
    have := distF_top (E := E) (E.length + 2) [] [g] 0 (fun _ h => nomatch h) _ (natAt_some hn)
    have := hE.1
    simp at *; omega
  refine ss_cons (s_st nd (se_fP Dd (hr.mono (by decide)) ?_))
  repeat fail
  refine ⟨(E, g), rfl, hE, ?_⟩
  rintro _ rfl
  repeat fail
  refine s_for (passes_of rfl) rfl (sw_down hrange ?_)
  repeat fail
  refine iv_dct hu rfl (d' := .int (n : Nat)) ?_ ?_
  · have := dval_map (fun q : Nm × Nat => .int (q.2 : Nat)) (fun q => q.1) st (dist E g)
    rw [inE, this]
    unfold natAt at hn
    obtain ⟨q, hq, e⟩ := Option.map_eq_some_iff.mp hn
    rw [hq, ← e]; rfl
  repeat fail
  refine ⟨_, _, rfl, by omega, by omega, by omega, by omega, ?_⟩
  rw [show ((n : Int) - 1 - -1).toNat = n by omega]
  refine for_t (fun rest Γ c => ∃ d4 d5 u6 u7 u8, (Γ = [.dat (demD E), .dat (nD st), .dat (nD g), .dat (.dct (inE (dist E g))), .dat d4, .dat d5, u6, u7, u8] ∧ c = []) ∧ ∃ acc x, d4 = roadD acc ∧ d5 = nD x ∧ acc.length + rest.length = n ∧ acc ++ roadF E (dist E g) g rest.length x = roadF E (dist E g) g n st ∧ (0 < rest.length → natAt (dist E g) x = some rest.length))
    ⟨_, _, _, _, _, ⟨rfl, rfl⟩, [], st, rfl, rfl, by simp, by simp, fun _ => by simpa using hn⟩ ?_ ?_
  · rintro pre r rest Γ c hl ⟨_, _, u6, u7, u8, ⟨rfl, rfl⟩, acc, x, rfl, rfl, hlen, hacc, hx⟩
    have hrn := range_pre hl
    have hx := hx (Nat.succ_pos _)
    rw [List.length_cons] at hx hlen
    have hleft : (n : Int) - 1 + (r : Int) * (-1) = (rest.length : Int) := by omega
    obtain ⟨k0, ek, hxk, _⟩ := hC _ (natAt_some hx)
    obtain ⟨p, hpE, e⟩ := List.mem_map.mp hxk
    have e : p.1 = x := e
    subst e
    have hout := outs_of hE hpE
    have hdv : dval ((E.map fun p => (nK p.1, Dt.dct (inE p.2)))) (nK p.1) = some (.dct (inE p.2)) := by
      rw [dval_map (fun p : Nm × List (Nm × Nat) => .dct (inE p.2)) (fun p => p.1), find_key hE.2 hpE rfl]; rfl
    have hp2 := hE2 p hpE
    rw [hleft]
    repeat fail
    refine iv_dct hu rfl hdv ?_
    repeat fail
    rw [keysD_inE]
    refine lcF (fun q => (decide (q.1 = g) && decide (rest.length = 0)) || (decide (0 < rest.length) && decide (natAt (dist E g) q.1 = some rest.length))) (fun q => nD q.1) (by fail "z") ?_ ?_
    · intro q hq
      repeat fail
      refine ite2 (fun h1 => ?_) (fun h1 => ?_)
      · repeat fail
        refine ite2 (fun h2 => ?_) (fun h2 => ?_)
        · repeat fail
          have h2' : rest.length = 0 := by have := of_decide_eq_true h2; omega
          refine ⟨?_, rfl, rfl⟩
          rw [h1, decide_eq_true h2']; rfl
        · have h2' : ¬ rest.length = 0 := fun z => h2 (decide_eq_true (by omega))
          repeat fail
          refine ite2 (fun h3 => ?_) (fun h3 => ?_)
          · have h3' : 0 < rest.length := by have := of_decide_eq_true h3; omega
            repeat fail
            refine se_get hu ?_
            repeat fail
            rw [dval_inE]
            refine ov_eqD hr.units (fit_optI _) fit_int ?_
            rw [eqd_optI]
            repeat fail
            refine filt_end (fun h4 => ?_) (fun h4 => ?_)
            · repeat fail
              refine ⟨?_, rfl, rfl⟩
              rw [h4, decide_eq_true h3']; simp
            · refine ⟨rfl, ?_⟩
              rw [h4]; have : ¬ rest.length = 0 := by omega
              simp [this]
          · have h3' : ¬ 0 < rest.length := fun z => h3 (decide_eq_true (by omega))
            repeat fail
            refine ⟨rfl, ?_⟩
            exact absurd (Nat.pos_of_ne_zero h2') h3'
      · have h1' : decide (q.1 = g) = false := by simpa using h1
        repeat fail
        refine ite2 (fun h3 => ?_) (fun h3 => ?_)
        · have h3' : 0 < rest.length := by have := of_decide_eq_true h3; omega
          repeat fail
          refine se_get hu ?_
          repeat fail
          rw [dval_inE]
          refine ov_eqD hr.units (fit_optI _) fit_int ?_
          rw [eqd_optI]
          repeat fail
          refine filt_end (fun h4 => ?_) (fun h4 => ?_)
          · repeat fail
            refine ⟨?_, rfl, rfl⟩
            rw [h4, decide_eq_true h3']; simp
          · refine ⟨rfl, ?_⟩
            rw [h4]; have : ¬ rest.length = 0 := by omega
            simp [this]
        · have h3' : ¬ 0 < rest.length := fun z => h3 (decide_eq_true (by omega))
          repeat fail
          refine ⟨rfl, ?_⟩
          rw [h1']; simp [h3']
    · have enear : ((outs E p.1).filter fun q => (decide (q.1 = g) && decide (rest.length = 0)) || (decide (0 < rest.length) && decide (natAt (dist E g) q.1 = some rest.length))).map (fun q => nD q.1) = (nearer E (dist E g) g p.1 rest.length).map nD := by
        unfold nearer; rw [List.map_map]; rfl
      rw [hout] at enear
      rw [enear]
      cases hnr : nearer E (dist E g) g p.1 rest.length with
      | nil => exact absurd hnr (nearer_ne hE hx)
      | cons y ys =>
        obtain ⟨⟨q, hq, eq⟩, hnext⟩ := near_min hnr
        rw [hout] at hq
        have hdv2 : dval (inE p.2) (nK (minN y ys)) = some (.int (((natAt p.2 (minN y ys)).getD 0 : Nat) : Int)) := by
          have h1 : (dval (inE p.2) (nK (minN y ys))).isSome = true := by
            rw [inE_any, List.any_eq_true]; exact ⟨q, hq, decide_eq_true eq⟩
          have h2 := dval_inE p.2 (minN y ys)
          obtain ⟨d, hd⟩ := Option.isSome_iff_exists.mp h1
          rw [hd] at h2 ⊢
          have h2 : d = optI (natAt p.2 (minN y ys)) := h2
          cases hn2 : natAt p.2 (minN y ys) with
          | none =>
            rw [inE, dval_map (fun q : Nm × Nat => .int (q.2 : Nat)) (fun q => q.1)] at hd
            unfold natAt at hn2
            rw [Option.map_eq_none_iff] at hn2
            rw [hn2] at hd; cases hd
          | some k => rw [h2, hn2]; rfl
        repeat fail
        refine cv_minN rfl (room65 hr) ?_
        repeat fail
        refine iv_dct hu rfl hdv ?_
        repeat fail
        refine iv_dct hu rfl hdv2 ?_
        repeat fail
        refine ⟨_, _, _, _, _, ⟨rfl, rfl⟩, acc ++ [(p.1, minN y ys, (natAt p.2 (minN y ys)).getD 0)], minN y ys, ?_, rfl, ?_, ?_, ?_⟩
        · rw [roadD, List.map_append]; rfl
        · rw [List.length_append]; show acc.length + 1 + _ = _; omega
        · rw [← hacc, List.append_assoc]
          conv => rhs; rw [List.length_cons, roadF, hnr, hout]
          rfl
        · intro h0
          rcases hnext with ⟨z, _⟩ | ⟨_, z⟩
          · omega
          · exact z
  · rintro Γ c ⟨_, _, u6, u7, u8, ⟨rfl, rfl⟩, acc, x, rfl, rfl, hlen, hacc, hx⟩
    repeat fail
    refine ⟨rfl, ?_⟩
    rw [hlr, ← hacc]; simp [roadF]
end
end W
end
section
set_option Elab.async false
set_option linter.all false
set_option maxRecDepth 100000
set_option maxHeartbeats 4000000
open PySem L2 D PyProof.Rows
local macro_rules
  | `(tactic| fail "z") => `(tactic| ((try simp only [List.length_map, List.length_cons, List.length_nil, List.length_append, List.length_drop, List.length_take]); have := big_line; omega))
local macro_rules
  | `(tactic| fail) => `(tactic| first
    | (refine (?_ : SE _ _ _ _ _ _); first | refine se_nm rfl ?_ | refine se_tyTuple (by assumption) ?_ | refine se_tyStr (by assumption) ?_ | refine se_tyInt (by assumption) ?_ | refine se_tyBool (by assumption) ?_ | refine se_int ?_ | refine se_str ?_ | refine se_non ?_ | refine se_bl ?_ | refine se_cmp ?_ | refine se_bin ?_ | refine se_ix ?_ | refine se_slice ?_ | refine se_tup ?_ | refine se_lst ?_ | (refine (?_ : SE _ _ _ _ (.Call _ _ _ _) _); first | refine se_any (by assumption) ?_ | refine se_all (by assumption) ?_ | refine se_len (by assumption) ?_ | refine se_min (by assumption) ?_ | refine se_max (by assumption) ?_ | refine se_sorted (by assumption) ?_ | refine se_isi (by assumption) ?_ | refine se_abs (by assumption) ?_ | refine se_sum (by assumption) ?_ | refine se_tupleC (by assumption) ?_ | refine se_listC (by assumption) ?_) | refine se_M rfl (by assumption) (blkOk_by rfl) ?_ | refine se_F rfl (by assumption) (blkOk_by rfl) ?_ | refine se_Dc rfl (by assumption) (blkOk_by rfl) ?_ | refine se_chain ?_ | refine se_indexN ?_ | refine se_not ?_ | refine se_if ?_ | refine se_one ?_ | refine se_and ?_ | refine se_or ?_ | refine se_neg ?_)
    | (refine (?_ : ST _ _ _ _ _ _); first | refine st_cmp ?_ | refine st_chain ?_ | refine st_not ?_ | refine st_w (sw_and ?_) | refine st_w (sw_or ?_) | refine st_val ?_)
    | (refine (?_ : SWt _ _ _ _ _ _); first | refine sw_and ?_ | refine sw_and1 ?_ | refine sw_or ?_ | refine sw_or1 ?_)
    | (refine (?_ : SA _ _ _ _ _ _); first | refine sa_cons ?_ | refine sa_nil ?_)
    | (refine (?_ : SO _ _ _ _ _ _); first | refine so_none ?_ | refine so_some ?_)
    | (refine (?_ : SS _ _ _ _ _ _); first | refine ss_one ?_ | refine ss_cons ?_)
    | (refine (?_ : S1 _ _ _ _ _ _); first | refine s_ret ?_ | refine s_if ?_ | refine s_M rfl (by assumption) (blkOk_by rfl) ?_ | refine s_F rfl (by assumption) (blkOk_by rfl) ?_ | refine s_Dc rfl (by assumption) (blkOk_by rfl) ?_ | refine s_st (by assumption) ?_ | refine s_aug (by assumption) rfl ?_ | refine s_asg ?_ | refine s_expr ?_)
    | (refine (?_ : SG _ _ _ _ _ _ _); first | refine sg_nm (by assumption) ?_ | refine sg_par rfl ?_ | refine sg_tup rfl ?_)
    | (refine (?_ : SGs _ _ _ _ _ _ _); first | refine sgs_cons ?_ | refine sgs_nil ?_)
    | (refine (?_ : SGb _ _ _ _ _ _ _ _); first | refine sgb_nm (by assumption) ?_ (by first | exact vs_self | exact vs_one | exact vs_two) | refine sgb_par rfl ?_ | refine sgb_tup rfl ?_)
    | (refine (?_ : SGbs _ _ _ _ _ _ _ _); first | refine sgbs_cons ?_ | refine sgbs_nil ?_)
    | (refine (?_ : SW _ _ _ _ _ _ _); first | refine sw_vals ?_ | refine sw_zipT (by assumption) ?_ | refine sw_range (by assumption) ?_ | refine sw_seq ?_)
    | (refine (?_ : OpV _ _ _ _ _ _ _ _); first | refine ov_eqN ?_ | refine ov_neN ?_ | refine ov_inN ?_ | refine ov_ninN ?_ | refine ov_inNT ?_ | refine ov_ninNT ?_ | refine oi_add ?_ | refine oi_catT (by fail "z") ?_ | refine ov_cat (by fail "z") ?_ | refine ov_catT (by fail "z") ?_ | refine ov_add ?_ | refine ov_sub ?_ | refine ov_lt ?_ | refine ov_le ?_ | refine ov_gt ?_ | refine ov_ge ?_ | refine ov_eqI ?_ | refine ov_neI ?_ | refine ov_eqS ?_ | refine ov_neS ?_ | refine ov_eqB ?_ | refine ov_neB ?_)
    | (refine (?_ : IxV _ _ _ _ _ _ _); first | refine iv_cons ?_ | refine iv_consT ?_)
    | (refine (?_ : SlV _ _ _ _ _ _ _ _); first | refine sv_fromL (by decide) ?_ | refine sv_fromT (by decide) ?_ | refine sv_toL (by decide) ?_ | refine sv_toT (by decide) ?_)
    | (refine (?_ : ClV _ _ _ _ _ _ _); first | refine cv_anyM rfl ?_ | refine cv_allM rfl ?_ | refine cv_len rfl ?_ | refine cv_tuple rfl ?_ | refine cv_list rfl ?_ | refine cv_abs ?_ | refine cv_isStr rfl ?_ | refine cv_isTup rfl ?_ | refine cv_isInt rfl ?_ | refine cv_isBool rfl ?_ | refine cv_sum rfl ?_)
    | refine turn0I (fun _ _ _ _ _ _ => ?_) | refine turn1I (fun _ _ _ _ _ _ => ?_) | refine turnDI (fun _ _ _ _ _ _ => ?_) | refine abI (fun _ _ _ _ _ => ?_) | refine iteT ?_ | refine iteF ?_ | refine And.intro (show _ ≤ sizeLine by fail "z") ?_ | refine ⟨_, rfl, ?_⟩)
namespace W
open PySem L2 D PyProof.Rows
def sz (E : Dem) (x : Nm) : Option Nat := natAt (dist E x) x
def szs (E : Dem) : List Int := (E.filter fun p => (sz E p.1).isSome).map fun p => (((sz E p.1).getD 0 : Nat) : Int)
def leastSz (E : Dem) : Int := match szs E with
  | [] => 0
  | x :: xs => minBy ltI x xs
def starts (E : Dem) : List Nm := (E.filter fun p => decide ((sz E p.1).map (fun n : Nat => (n : Int)) = some (leastSz E))).map (·.1)
def startOf (E : Dem) : Option Nm := match starts E with
  | [] => none
  | x :: xs => some (minN x xs)
def leastRing (L : List (List Nm)) : List (Nm × Nm × Nat) := match startOf (earliest L) with
  | none => []
  | some s => leastRoad (earliest L) s s
theorem few_puts {L : List (List Nm)} (i : Nat) (x : Nm) : ∀ (r : List Nm) (E : Dem), (∀ y ∈ r, y ∈ L.flatten) → Few L E → Few L (demPuts i x E r)
  | [], E, _, h => h
  | y :: r, E, hr, h => few_puts i x r (demPut E x y i) (fun z hz => hr z (List.mem_cons_of_mem _ hz)) (few_put h x (hr y (List.mem_cons_self ..)) i)
theorem few_row {L : List (List Nm)} (i : Nat) : ∀ (r : List Nm) (E : Dem), (∀ y ∈ r, y ∈ L.flatten) → Few L E → Few L (demRow i E r)
  | [], E, _, h => h
  | x :: r, E, hr, h => few_row i r _ (fun z hz => hr z (List.mem_cons_of_mem _ hz)) (few_puts i x r E (fun z hz => hr z (List.mem_cons_of_mem _ hz)) h)
theorem few_rows {L : List (List Nm)} : ∀ (R : List (List Nm × Nat)) (E : Dem), (∀ p ∈ R, ∀ y ∈ p.1, y ∈ L.flatten) → Few L E → Few L (demRows E R)
  | [], E, _, h => h
  | (r, i) :: R, E, hr, h => few_rows R _ (fun p hp => hr p (List.mem_cons_of_mem _ hp)) (few_row i r E (hr _ (List.mem_cons_self ..)) h)
theorem few_earliest (L : List (List Nm)) : Few L (earliest L) := few_rows _ _ (fun p hp y hy => List.mem_flatten.mpr ⟨p.1, by
  obtain ⟨i, hi⟩ := List.getElem?_of_mem hp
  rw [List.getElem?_zipIdx] at hi
  obtain ⟨r, h1, rfl⟩ := Option.map_eq_some_iff.mp hi
  exact List.mem_of_getElem? h1, hy⟩) (few_init L)
theorem dmOk_earliest {L : List (List Nm)} (h : RowsOk L) : DmOk (earliest L) := by
  have hf := few_earliest L
  refine ⟨⟨?_, by rw [hf.1]; exact nodup_keysOf _⟩, fun p hp => few_len h hf hp⟩
  have h1 := congrArg List.length hf.1
  rw [List.length_map] at h1
  have h2 := keysOf_len L.flatten
  have h3 := flat_len h L.length
  rw [List.take_length] at h3
  omega
theorem fold_all' {α : Type} (f : α → Dt) (k : α → Nm) : ∀ (l : List α) (acc : List α), ((acc ++ l).map k).Nodup → (l.map fun p => (nK (k p), f p)).foldl (fun acc kv => dput acc kv.1 kv.2) (acc.map fun p => (nK (k p), f p)) = (acc ++ l).map fun p => (nK (k p), f p)
  | [], acc, _ => by simp
  | p :: l, acc, nd => by
    have hno : (acc.any fun q => decide (k q = k p)) = false := by
      rw [List.any_eq_false]
      intro q hq e
      have e := of_decide_eq_true e
      rw [List.map_append] at nd
      exact (List.nodup_append.mp nd).2.2 (k q) (List.mem_map.mpr ⟨q, hq, rfl⟩) (k p) (List.mem_map.mpr ⟨p, List.mem_cons_self .., rfl⟩) e
    show (l.map fun p => (nK (k p), f p)).foldl (fun acc kv => dput acc kv.1 kv.2) (dput (acc.map fun p => (nK (k p), f p)) (nK (k p)) (f p)) = _
    rw [dput_new _ (by rw [any_nK]; exact hno)]
    have e : (acc.map fun p => (nK (k p), f p)) ++ [(nK (k p), f p)] = (acc ++ [p]).map fun p => (nK (k p), f p) := by simp
    rw [e, fold_all' f k l (acc ++ [p]) (by simpa using nd)]
    simp
theorem fold_all {α : Type} (f : α → Dt) (k : α → Nm) (l : List α) (nd : (l.map k).Nodup) : (l.map fun p => (nK (k p), f p)).foldl (fun acc kv => dput acc kv.1 kv.2) [] = l.map fun p => (nK (k p), f p) := fold_all' f k l [] (by simpa using nd)
theorem eqd_optZ (o : Option Nat) (k : Int) : eqd (optI o) (.int k) = decide (o.map (fun n : Nat => (n : Int)) = some k) := by
  cases o with
  | none => rfl
  | some n =>
    show PyData.eqv (.int (n : Int)) (.int k) = _
    by_cases h : (n : Int) = k
    · subst h; simp [PyData.eqv]
    · simp [PyData.eqv, h]
theorem starts_ne {E : Dem} (h : ∃ p ∈ E, (sz E p.1).isSome = true) : starts E ≠ [] := by
  obtain ⟨p, hp, hs⟩ := h
  have hne : szs E ≠ [] := by
    intro z
    have : (((sz E p.1).getD 0 : Nat) : Int) ∈ szs E := List.mem_map.mpr ⟨p, List.mem_filter.mpr ⟨hp, hs⟩, rfl⟩
    rw [z] at this; cases this
  have hm : leastSz E ∈ szs E := by
    unfold leastSz
    cases e : szs E with
    | nil => exact absurd e hne
    | cons x xs => exact minBy_mem _ _ _
  obtain ⟨q, hq, e⟩ := List.mem_map.mp hm
  obtain ⟨hqE, hqs⟩ := List.mem_filter.mp hq
  intro z
  have : q.1 ∈ starts E := by
    refine List.mem_map.mpr ⟨q, List.mem_filter.mpr ⟨hqE, decide_eq_true ?_⟩, rfl⟩
    obtain ⟨n, hn⟩ := Option.isSome_iff_exists.mp hqs
    rw [← e, hn]; rfl
  rw [z] at this; cases this
theorem start_sz {E : Dem} {s : Nm} (h : startOf E = some s) : (sz E s).map (fun n : Nat => (n : Int)) = some (leastSz E) ∧ s ∈ E.map (·.1) := by
  unfold startOf at h
  cases e : starts E with
  | nil => rw [e] at h; cases h
  | cons x xs =>
    rw [e] at h
    cases h
    have : minN x xs ∈ starts E := by rw [e]; exact minBy_mem _ _ _
    obtain ⟨q, hq, e2⟩ := List.mem_map.mp this
    obtain ⟨h1, h2⟩ := List.mem_filter.mp hq
    rw [← e2]
    exact ⟨of_decide_eq_true h2, List.mem_map.mpr ⟨q, h1, rfl⟩⟩
section
variable {P : Program} {w : World} {K : PySem.W.Frag} {mg : Str → Option Value} {base : Heap}
abbrev D_earliest (P : Program) (w : World) (K : PySem.W.Frag) (mg : Str → Option Value) (base : Heap) : Prop := DefOk P w K mg base 1 "earliest_demands" ["lists"] (sp_earliest K)
abbrev D_least_road (P : Program) (w : World) (K : PySem.W.Frag) (mg : Str → Option Value) (base : Heap) : Prop := DefOk P w K mg base 2 "least_road" ["demands", "start", "goal"] (sp_least_road K)
/-- some name comes back to itself -/
def HasRing (L : List (List Nm)) : Prop := ∃ p ∈ earliest L, (sz (earliest L) p.1).isSome = true
abbrev sp_least_ring (K : PySem.W.Frag) : Sp := spP K (fun L : List (List Nm) => [lisD L]) (fun L => RowsOk L ∧ HasRing L) (fun L d => d = roadD (leastRing L))
theorem ok_least_ring {f : Addr} {fd : FuncData} (Fu : Fun K "least_ring" "least_ring" s_least_ring f fd) (T : Txt mg) (De : D_earliest P w K mg base) (Dd : D_distances_to P w K mg base) (Dr : D_least_road P w K mg base) : FnOk P w K mg base (L2.CX P w) 3 f fd ["lists"] (sp_least_ring K) := by
  refine fn_P Fu sc_least_ring (fun a => rfl) (fun cdv A outer s H E0 F L hp hr => ?_)
  obtain ⟨hL, hring⟩ := hp
  have nd := sc_least_ring.nd
  have hmin := T.min
  have hu := hu_of hr
  have hdm := dmOk_earliest hL
  refine ss_cons (s_st nd (se_fP De (hr.mono (by decide)) ?_))
  repeat fail
  refine ⟨hL, ?_⟩
  rintro _ rfl
  unfold HasRing at hring
  rw [show leastRing L = match startOf (earliest L) with
    | none => []
    | some s => leastRoad (earliest L) s s from rfl]
  generalize earliest L = E at hring hdm ⊢
  have hE1 := hdm.1.1
  repeat fail
  rw [keysD_map (fun p : Nm × List (Nm × Nat) => .dct (inE p.2)) (fun p => p.1)]
  refine lcD (fun p => nK p.1) (fun p => optI (sz E p.1)) (by fail "z") ?_ ?_
  · intro p hp'
    repeat fail
    refine se_get hu (se_fP Dd (hr.mono (by decide)) ?_)
    repeat fail
    refine ⟨(E, p.1), rfl, hdm.1, ?_⟩
    rintro _ rfl
    repeat fail
    refine ⟨rfl, rfl, ?_⟩
    rw [dval_inE]; rfl
  intro a
  have hfold : (E.map fun p => (nK p.1, optI (sz E p.1))).foldl (fun acc kv => dput acc kv.1 kv.2) [] = E.map fun p => (nK p.1, optI (sz E p.1)) := fold_all (fun p : Nm × List (Nm × Nat) => optI (sz E p.1)) (fun p => p.1) E hdm.1.2
  rw [hfold]
  refine ss_freezeD 2 0 rfl rfl ?_
  repeat fail
  rw [show valsD (E.map fun p => (nK p.1, optI (sz E p.1))) = E.map fun p => optI (sz E p.1) by unfold valsD; rw [List.map_map]; rfl]
  refine lcF (fun p => (sz E p.1).isSome) (fun p => .int (((sz E p.1).getD 0 : Nat) : Int)) (by fail "z") ?_ ?_
  · intro p hp'
    repeat fail
    refine ov_notN (by cases sz E p.1 <;> exact fun _ z => nomatch z) ?_
    repeat fail
    refine filt_end (fun h1 => ?_) (fun h1 => ?_)
    · repeat fail
      cases hs : sz E p.1 with
      | none => rw [hs] at h1; cases h1
      | some n => exact ⟨rfl, rfl, rfl⟩
    · cases hs : sz E p.1 with
      | none => exact ⟨rfl, rfl⟩
      | some n => rw [hs] at h1; cases h1
  have hszs : (E.filter fun p => (sz E p.1).isSome).map (fun p => Dt.int (((sz E p.1).getD 0 : Nat) : Int)) = (szs E).map Dt.int := by unfold szs; rw [List.map_map]; rfl
  rw [hszs]
  have hst := starts_ne hring
  have hls : leastSz E = match szs E with
    | [] => 0
    | x :: xs => minBy ltI x xs := rfl
  cases hz : szs E with
  | nil =>
    obtain ⟨p, hp', hs⟩ := hring
    have : (((sz E p.1).getD 0 : Nat) : Int) ∈ szs E := List.mem_map.mpr ⟨p, List.mem_filter.mpr ⟨hp', hs⟩, rfl⟩
    rw [hz] at this; cases this
  | cons z zs =>
  rw [hz] at hls
  repeat fail
  refine cv_minI rfl (room65 hr) ?_
  have hls : leastSz E = minBy ltI z zs := hls
  rw [← hls]
  repeat fail
  rw [keysD_map (fun p : Nm × List (Nm × Nat) => optI (sz E p.1)) (fun p => p.1)]
  refine lcF (fun p => decide ((sz E p.1).map (fun n : Nat => (n : Int)) = some (leastSz E))) (fun p => nD p.1) (by fail "z") ?_ ?_
  · intro p hp'
    repeat fail
    refine iv_dct hu rfl (d' := optI (sz E p.1)) ?_ ?_
    · rw [dval_map (fun p : Nm × List (Nm × Nat) => optI (sz E p.1)) (fun p => p.1), find_key hdm.1.2 hp' rfl]; rfl
    repeat fail
    refine ov_eqD hr.units (fit_optI _) fit_int ?_
    rw [eqd_optZ]
    repeat fail
    refine filt_end (fun h1 => ?_) (fun h1 => ?_)
    · repeat fail
      exact ⟨h1, rfl, rfl⟩
    · exact ⟨rfl, h1⟩
  have hsts : (E.filter fun p => decide ((sz E p.1).map (fun n : Nat => (n : Int)) = some (leastSz E))).map (fun p => nD p.1) = (starts E).map nD := by unfold starts; rw [List.map_map]; rfl
  rw [hsts]
  cases hst2 : starts E with
  | nil => exact absurd hst2 hst
  | cons x xs =>
  repeat fail
  refine cv_minN rfl (room65 hr) ?_
  have hso : startOf E = some (minN x xs) := by unfold startOf; rw [hst2]
  have hss := start_sz hso
  repeat fail
  refine se_fP Dr hr ?_
  repeat fail
  refine ⟨(E, minN x xs, minN x xs), rfl, ⟨hdm, ?_⟩, ?_⟩
  · obtain ⟨n, hn, _⟩ := Option.map_eq_some_iff.mp hss.1
    show (sz E (minN x xs)).isSome = true
    rw [hn]; rfl
  · rintro _ rfl
    refine ⟨rfl, ?_⟩
    rw [hso]
end
end W
end
section
set_option Elab.async false
set_option linter.all false
set_option maxRecDepth 100000
set_option maxHeartbeats 4000000
open PySem L2 D PyProof.Rows
local macro_rules
  | `(tactic| fail "z") => `(tactic| ((try simp only [List.length_map, List.length_cons, List.length_nil, List.length_append, List.length_drop, List.length_take]); have := big_line; omega))
local macro_rules
  | `(tactic| fail) => `(tactic| first
    | (refine (?_ : SE _ _ _ _ _ _); first | refine se_nm rfl ?_ | refine se_tyTuple (by assumption) ?_ | refine se_tyStr (by assumption) ?_ | refine se_tyInt (by assumption) ?_ | refine se_tyBool (by assumption) ?_ | refine se_int ?_ | refine se_str ?_ | refine se_non ?_ | refine se_bl ?_ | refine se_cmp ?_ | refine se_bin ?_ | refine se_ix ?_ | refine se_slice ?_ | refine se_tup ?_ | refine se_lst ?_ | (refine (?_ : SE _ _ _ _ (.Call _ _ _ _) _); first | refine se_any (by assumption) ?_ | refine se_all (by assumption) ?_ | refine se_len (by assumption) ?_ | refine se_min (by assumption) ?_ | refine se_max (by assumption) ?_ | refine se_sorted (by assumption) ?_ | refine se_isi (by assumption) ?_ | refine se_abs (by assumption) ?_ | refine se_sum (by assumption) ?_ | refine se_tupleC (by assumption) ?_ | refine se_listC (by assumption) ?_) | refine se_M rfl (by assumption) (blkOk_by rfl) ?_ | refine se_F rfl (by assumption) (blkOk_by rfl) ?_ | refine se_Dc rfl (by assumption) (blkOk_by rfl) ?_ | refine se_chain ?_ | refine se_indexN ?_ | refine se_not ?_ | refine se_if ?_ | refine se_one ?_ | refine se_and ?_ | refine se_or ?_ | refine se_neg ?_)
    | (refine (?_ : ST _ _ _ _ _ _); first | refine st_cmp ?_ | refine st_chain ?_ | refine st_not ?_ | refine st_w (sw_and ?_) | refine st_w (sw_or ?_) | refine st_val ?_)
    | (refine (?_ : SWt _ _ _ _ _ _); first | refine sw_and ?_ | refine sw_and1 ?_ | refine sw_or ?_ | refine sw_or1 ?_)
    | (refine (?_ : SA _ _ _ _ _ _); first | refine sa_cons ?_ | refine sa_nil ?_)
    | (refine (?_ : SO _ _ _ _ _ _); first | refine so_none ?_ | refine so_some ?_)
    | (refine (?_ : SS _ _ _ _ _ _); first | refine ss_one ?_ | refine ss_cons ?_)
    | (refine (?_ : S1 _ _ _ _ _ _); first | refine s_ret ?_ | refine s_if ?_ | refine s_M rfl (by assumption) (blkOk_by rfl) ?_ | refine s_F rfl (by assumption) (blkOk_by rfl) ?_ | refine s_Dc rfl (by assumption) (blkOk_by rfl) ?_ | refine s_st (by assumption) ?_ | refine s_aug (by assumption) rfl ?_ | refine s_asg ?_ | refine s_expr ?_)
    | (refine (?_ : SG _ _ _ _ _ _ _); first | refine sg_nm (by assumption) ?_ | refine sg_par rfl ?_ | refine sg_tup rfl ?_)
    | (refine (?_ : SGs _ _ _ _ _ _ _); first | refine sgs_cons ?_ | refine sgs_nil ?_)
    | (refine (?_ : SGb _ _ _ _ _ _ _ _); first | refine sgb_nm (by assumption) ?_ (by first | exact vs_self | exact vs_one | exact vs_two) | refine sgb_par rfl ?_ | refine sgb_tup rfl ?_)
    | (refine (?_ : SGbs _ _ _ _ _ _ _ _); first | refine sgbs_cons ?_ | refine sgbs_nil ?_)
    | (refine (?_ : SW _ _ _ _ _ _ _); first | refine sw_vals ?_ | refine sw_zipT (by assumption) ?_ | refine sw_range (by assumption) ?_ | refine sw_seq ?_)
    | (refine (?_ : OpV _ _ _ _ _ _ _ _); first | refine ov_eqN ?_ | refine ov_neN ?_ | refine ov_inN ?_ | refine ov_ninN ?_ | refine ov_inNT ?_ | refine ov_ninNT ?_ | refine oi_add ?_ | refine oi_catT (by fail "z") ?_ | refine ov_cat (by fail "z") ?_ | refine ov_catT (by fail "z") ?_ | refine ov_add ?_ | refine ov_sub ?_ | refine ov_lt ?_ | refine ov_le ?_ | refine ov_gt ?_ | refine ov_ge ?_ | refine ov_eqI ?_ | refine ov_neI ?_ | refine ov_eqS ?_ | refine ov_neS ?_ | refine ov_eqB ?_ | refine ov_neB ?_)
    | (refine (?_ : IxV _ _ _ _ _ _ _); first | refine iv_cons ?_ | refine iv_consT ?_)
    | (refine (?_ : SlV _ _ _ _ _ _ _ _); first | refine sv_fromL (by decide) ?_ | refine sv_fromT (by decide) ?_ | refine sv_toL (by decide) ?_ | refine sv_toT (by decide) ?_)
    | (refine (?_ : ClV _ _ _ _ _ _ _); first | refine cv_anyM rfl ?_ | refine cv_allM rfl ?_ | refine cv_len rfl ?_ | refine cv_tuple rfl ?_ | refine cv_list rfl ?_ | refine cv_abs ?_ | refine cv_isStr rfl ?_ | refine cv_isTup rfl ?_ | refine cv_isInt rfl ?_ | refine cv_isBool rfl ?_ | refine cv_sum rfl ?_)
    | refine turn0I (fun _ _ _ _ _ _ => ?_) | refine turn1I (fun _ _ _ _ _ _ => ?_) | refine turnDI (fun _ _ _ _ _ _ => ?_) | refine abI (fun _ _ _ _ _ => ?_) | refine iteT ?_ | refine iteF ?_ | refine And.intro (show _ ≤ sizeLine by fail "z") ?_ | refine ⟨_, rfl, ?_⟩)
namespace W
open PySem L2 D PyProof.Rows
def isDem (L : List (List Nm)) (t : Nm × Nm × Nat) : Bool := match L[t.2.2]? with
  | none => false
  | some r => decide (t.1 ∈ r) && (decide (t.2.1 ∈ r) && decide (ixN r t.1 < ixN r t.2.1))
def linked : List (Nm × Nm × Nat) → Bool
  | [] => true
  | [_] => true
  | t :: u :: r => decide (t.2.1 = u.1) && linked (u :: r)
def isRoadB (L : List (List Nm)) (r : List (Nm × Nm × Nat)) : Bool := !r.isEmpty && r.all (isDem L) && linked r
def isRingB (L : List (List Nm)) (r : List (Nm × Nm × Nat)) : Bool := isRoadB L r && decide (1 < r.length) && (match r.getLast?, r.head? with
  | some t, some u => decide (t.2.1 = u.1)
  | _, _ => false)
def morD (L : List (List Nm)) : Dt := match merge L with
  | none => .tup [.non, roadD (leastRing L)]
  | some m => .tup [nT m, .non]
section
variable {P : Program} {w : World} {K : PySem.W.Frag} {mg : Str → Option Value} {base : Heap}
abbrev D_merge_or_none (P : Program) (w : World) (K : PySem.W.Frag) (mg : Str → Option Value) (base : Heap) : Prop := DefOk P w K mg base 2 "merge_or_none" ["lists"] (sp_merge_or_none K)
abbrev D_least_ring (P : Program) (w : World) (K : PySem.W.Frag) (mg : Str → Option Value) (base : Heap) : Prop := DefOk P w K mg base 3 "least_ring" ["lists"] (sp_least_ring K)
abbrev MOk (L : List (List Nm)) : Prop := RowsOk L ∧ (merge L = none → HasRing L)
abbrev sp_merge_or_ring (K : PySem.W.Frag) : Sp := spP K (fun L : List (List Nm) => [lisD L]) MOk (fun L d => d = morD L)
theorem ok_merge_or_ring {f : Addr} {fd : FuncData} (Fu : Fun K "merge_or_ring" "merge_or_ring" s_merge_or_ring f fd) (Dn : D_merge_or_none P w K mg base) (Dl : D_least_ring P w K mg base) : FnOk P w K mg base (L2.CX P w) 4 f fd ["lists"] (sp_merge_or_ring K) := by
  refine fn_P Fu sc_merge_or_ring (fun a => rfl) (fun cdv A outer s H E0 F L hp hr => ?_)
  obtain ⟨hL, hring⟩ := hp
  have nd := sc_merge_or_ring.nd
  refine ss_cons (s_st nd (se_fP Dn (hr.mono (by decide)) ?_))
  repeat fail
  refine ⟨hL, ?_⟩
  rintro _ rfl
  repeat fail
  refine ov_isN (by cases merge L <;> exact fun _ z => nomatch z) ?_
  repeat fail
  cases hm : merge L with
  | none =>
    repeat fail
    refine se_fP Dl hr ?_
    repeat fail
    refine ⟨⟨hL, hring hm⟩, ?_⟩
    rintro _ rfl
    repeat fail
    exact ⟨rfl, by unfold morD; rw [hm]⟩
  | some m =>
    repeat fail
    exact ⟨rfl, by unfold morD; rw [hm]; rfl⟩
abbrev D_merge_or_ring (P : Program) (w : World) (K : PySem.W.Frag) (mg : Str → Option Value) (base : Heap) : Prop := DefOk P w K mg base 4 "merge_or_ring" ["lists"] (sp_merge_or_ring K)
/-- NoMerge -/
abbrev anyD (_ : Dt) : Prop := True
abbrev sp_merged (K : PySem.W.Frag) (C : Addr) : Sp := spG K (fun L : List (List Nm) => [lisD L]) (fun _ => []) MOk (fun L c' d => c' = [] ∧ ∃ m, merge L = some m ∧ d = nT m) (fun L c' x => c' = [] ∧ merge L = none ∧ x = ⟨C, some [("ring", roadD (leastRing L))]⟩)
theorem ok_merged {f C : Addr} {fd : FuncData} (Fu : Fun K "merged" "merged" s_merged f fd) (TE : ExC P w K mg base C "NoMerge" "ring" anyD) (Dm : D_merge_or_ring P w K mg base) : FnOk P w K mg base (L2.CX P w) 5 f fd ["lists"] (sp_merged K C) := by
  refine fn_G Fu sc_merged (fun a => rfl) (fun cdv A outer s H E0 F L hp hr xt => ?_)
  have nd := sc_merged.nd
  have hMOk := hp
  obtain ⟨hL, hring⟩ := hp
  refine ss_cons (s_asg (se_fP Dm hr ?_))
  repeat fail
  refine ⟨hMOk, ?_⟩
  rintro _ rfl
  unfold morD
  cases hm : merge L with
  | none =>
    repeat fail
    refine ov_isN (fun _ z => nomatch z) ?_
    repeat fail
    refine s_raise TE rfl xt (hr.mono (by decide)) ?_
    repeat fail
    exact ⟨True.intro, rfl, hm, rfl⟩
  | some m =>
    repeat fail
    refine ov_isN (fun _ z => nomatch z) ?_
    repeat fail
    refine ss_nil ?_
    repeat fail
    exact ⟨rfl, m, rfl, rfl⟩
theorem ok_NoMerge {f C : Addr} {fd : FuncData} (Fu : Fun K "__init__" "NoMerge.__init__" s_NoMerge___init__ f fd) (TO : OexC K C) (nof : PySem.W.findIn K (.ref C) "ring" = some none) (hve : mg "ValueError" = none)
    (vV : PySem.W.findCls K (.type "ValueError") (.type "type") "__init__" = some (.val (.builtin "ValueError.__init__"))) : FnOk P w K mg base CX0 1 f fd ["self", "ring"] (spI K C "ring" anyD) := by
  refine Fu.ok sc_NoMerge___init__ (fun vs H Q E h => ?_) (fun cdv A outer s H vs Q E hr h => ?_)
  · obtain ⟨a, v, M, d, rfl, _⟩ := h; rfl
  · obtain ⟨a, v, M, d, rfl, ha, dv, _, k⟩ := h
    refine ⟨_, pss_cons (ps_expr (pe_veinit rfl hve vV (pa_cons (pv 0) (pa_cons pe_str pa_nil)))) (pss_one (ps_ost (pv 0) (pv 1))), ?_⟩
    refine ⟨_, rfl, a, C, _, rfl, by show 1 ≤ 1000; decide, TO, ha, ?_⟩
    exact ⟨_, rfl, _, rfl, a, C, rfl, TO, nof, Or.inl ⟨ha, fun dx hdx ne => k dx hdx ne⟩⟩
abbrev sp_is_integer (K : PySem.W.Frag) : Sp := spP K (fun d : Dt => [d]) (fun d => noRaw d = true) (fun d e => e = .bl (isIntD d && !isBoolD d))
theorem ok_is_integer {f : Addr} {fd : FuncData} (Fu : Fun K "is_integer" "is_integer" s_is_integer f fd) (T : Txt mg) : FnOk P w K mg base (L2.CX P w) 1 f fd ["thing"] (sp_is_integer K) := by
  refine fn_P Fu sc_is_integer (fun a => rfl) (fun cdv A outer s H E0 F d hp hr => ?_)
  have h1 := T.isi
  have h2 := T.int
  have h3 := T.bool
  repeat fail
  refine cv_isInt hp ?_
  repeat fail
  refine ite2 (fun h => ?_) (fun h => ?_)
  · repeat fail
    refine cv_isBool hp ?_
    repeat fail
    exact ⟨rfl, by rw [h]; rfl⟩
  · refine ⟨rfl, ?_⟩
    rw [show isIntD d = false by simpa using h]; rfl
abbrev D_is_integer (P : Program) (w : World) (K : PySem.W.Frag) (mg : Str → Option Value) (base : Heap) : Prop := DefOk P w K mg base 1 "is_integer" ["thing"] (sp_is_integer K)
abbrev sp_is_demand (K : PySem.W.Frag) : Sp := spP K (fun x : List (List Nm) × (Nm × Nm × Nat) => [lisD x.1, demD1 x.2]) (fun x => RowsOk x.1) (fun x d => d = .bl (isDem x.1 x.2))
theorem ok_is_demand {f : Addr} {fd : FuncData} (Fu : Fun K "is_demand" "is_demand" s_is_demand f fd) (T : Txt mg) (Di : D_is_integer P w K mg base) : FnOk P w K mg base (L2.CX P w) 2 f fd ["lists", "thing"] (sp_is_demand K) := by
  refine fn_P Fu sc_is_demand (fun a => rfl) (fun cdv A outer s H E0 F x hp hr => ?_)
  obtain ⟨L, x, y, i⟩ := x
  have nd := sc_is_demand.nd
  have h1 := T.isi
  have h2 := T.tuple
  have h3 := T.str
  have h4 := T.len
  repeat fail
  refine ss_nil ?_
  repeat fail
  refine se_fP Di hr ?_
  repeat fail
  refine ⟨rfl, ?_⟩
  rintro _ rfl
  repeat fail
  refine ite2 (fun h => ?_) (fun h => ?_)
  · have hi : ¬ i < L.length := by simpa using h
    repeat fail
    refine ⟨rfl, ?_⟩
    unfold isDem
    rw [List.getElem?_eq_none (by show L.length ≤ i; omega)]
  · have hi : i < L.length := by simpa using h
    have hLi : L[i]? = some L[i] := List.getElem?_eq_getElem hi
    have hdem : isDem L (x, y, i) = (decide (x ∈ L[i]) && (decide (y ∈ L[i]) && decide (ixN L[i] x < ixN L[i] y))) := by unfold isDem; rw [hLi]
    refine ss_nil ?_
    repeat fail
    refine iv_tup (d := nT L[i]) ?_ ?_
    · unfold atI L2.ixN
      rw [if_pos (by omega), if_pos (by simpa using hi)]
      simp [hLi]
    repeat fail
    refine ite2 (fun h6 => ?_) (fun h6 => ?_)
    · repeat fail
      refine ite2 (fun h7 => ?_) (fun h7 => ?_)
      · repeat fail
        refine ⟨of_decide_eq_true h6, ?_⟩
        repeat fail
        refine ⟨of_decide_eq_true h7, ?_⟩
        repeat fail
        refine ⟨rfl, ?_⟩
        rw [hdem, h6, h7]; simp
      · refine ⟨rfl, ?_⟩
        rw [hdem, h6, show decide (y ∈ L[i]) = false by simpa using h7]; rfl
    · refine ⟨rfl, ?_⟩
      rw [hdem, show decide (x ∈ L[i]) = false by simpa using h6]; rfl
abbrev D_is_demand (P : Program) (w : World) (K : PySem.W.Frag) (mg : Str → Option Value) (base : Heap) : Prop := DefOk P w K mg base 2 "is_demand" ["lists", "thing"] (sp_is_demand K)
abbrev sp_is_road (K : PySem.W.Frag) : Sp := spP K (fun x : List (List Nm) × List (Nm × Nm × Nat) => [lisD x.1, roadD x.2]) (fun x => RowsOk x.1 ∧ x.2.length ≤ 20000) (fun x d => d = .bl (isRoadB x.1 x.2))
theorem linked_zip : ∀ r : List (Nm × Nm × Nat), linked r = (r.zip (r.drop 1)).all fun p => decide (p.1.2.1 = p.2.1)
  | [] => rfl
  | [_] => rfl
  | t :: u :: r => by
    have := linked_zip (u :: r)
    show (decide (t.2.1 = u.1) && linked (u :: r)) = (((t, u) :: ((u :: r).zip r)).all _)
    rw [this]; rfl
theorem fit_road (r : List (Nm × Nm × Nat)) : Fit 64 (roadD r) := (fit_tup (n := 1) fun d hd => by
  obtain ⟨t, _, rfl⟩ := List.mem_map.mp hd
  refine fit_tup (n := 0) fun d hd => ?_
  rcases List.mem_cons.mp hd with e | hd
  · rw [e]; exact fit_n _
  · rcases List.mem_cons.mp hd with e | hd
    · rw [e]; exact fit_n _
    · rw [List.mem_singleton.mp hd]; exact fit_int).mono (by decide)
theorem ok_is_road {f : Addr} {fd : FuncData} (Fu : Fun K "is_road" "is_road" s_is_road f fd) (T : Txt mg) (Dd : D_is_demand P w K mg base) : FnOk P w K mg base (L2.CX P w) 3 f fd ["lists", "thing"] (sp_is_road K) := by
  refine fn_P Fu sc_is_road (fun a => rfl) (fun cdv A outer s H E0 F x hp hr => ?_)
  obtain ⟨L, r⟩ := x
  obtain ⟨hL, hrl⟩ := (show RowsOk L ∧ r.length ≤ 20000 from hp)
  have nd := sc_is_road.nd
  have h1 := T.isi
  have h2 := T.tuple
  have h3 := T.all
  have h4 := T.zip
  repeat fail
  refine ov_eqD hr.units (fit_road r) (fit_tup fun _ h => nomatch h) ?_
  rw [eqd_tup_nil, isE_map]
  repeat fail
  refine ite2 (fun h => ?_) (fun h => ?_)
  · repeat fail
    refine ⟨rfl, ?_⟩
    unfold isRoadB; rw [h]; rfl
  · have hne : r.isEmpty = false := by simpa using h
    repeat fail
    refine lcM (fun t => .bl (isDem L t)) ?_ ?_ ?_
    · fail "z"
    · intro t ht
      repeat fail
      refine se_fP Dd hr ?_
      repeat fail
      refine ⟨(L, t), rfl, hL, ?_⟩
      rintro _ rfl
      exact ⟨rfl, rfl⟩
    repeat fail
    refine ite2 (fun h5 => ?_) (fun h5 => ?_)
    · repeat fail
      refine ⟨rfl, ?_⟩
      unfold isRoadB
      rw [hne, show r.all (isDem L) = false by simpa using h5]; rfl
    · have hall : r.all (isDem L) = true := by simpa using h5
      refine ss_nil ?_
      repeat fail
      refine ⟨r.map demD1, (r.drop 1).map demD1, rfl, ?_⟩
      rw [zipD_map demD1 demD1]
      refine lcM (fun p => .bl (decide (p.1.2.1 = p.2.1))) ?_ ?_ ?_
      · rw [List.length_zip]; have := big_line; omega
      · intro p hp
        repeat fail
        refine iv_tup (d := nD p.1.2.1) rfl ?_
        repeat fail
        exact ⟨rfl, rfl⟩
      repeat fail
      refine ⟨rfl, ?_⟩
      unfold isRoadB
      rw [hne, hall, linked_zip]; rfl
abbrev D_is_road (P : Program) (w : World) (K : PySem.W.Frag) (mg : Str → Option Value) (base : Heap) : Prop := DefOk P w K mg base 3 "is_road" ["lists", "thing"] (sp_is_road K)
abbrev sp_is_ring (K : PySem.W.Frag) : Sp := spP K (fun x : List (List Nm) × List (Nm × Nm × Nat) => [lisD x.1, roadD x.2]) (fun x => RowsOk x.1 ∧ x.2.length ≤ 20000) (fun x d => d = .bl (isRingB x.1 x.2))
theorem ok_is_ring {f : Addr} {fd : FuncData} (Fu : Fun K "is_ring" "is_ring" s_is_ring f fd) (T : Txt mg) (Dr : D_is_road P w K mg base) : FnOk P w K mg base (L2.CX P w) 4 f fd ["lists", "thing"] (sp_is_ring K) := by
  refine fn_P Fu sc_is_ring (fun a => rfl) (fun cdv A outer s H E0 F x hp hr => ?_)
  obtain ⟨L, r⟩ := x
  obtain ⟨hL, hrl⟩ := (show RowsOk L ∧ r.length ≤ 20000 from hp)
  have nd := sc_is_ring.nd
  have h1 := T.len
  repeat fail
  refine se_fP Dr hr ?_
  repeat fail
  refine ⟨⟨hL, hrl⟩, ?_⟩
  rintro _ rfl
  repeat fail
  refine ite2 (fun h => ?_) (fun h => ?_)
  · repeat fail
    refine ite2 (fun h5 => ?_) (fun h5 => ?_)
    · have hlen : 1 < r.length := by have : (1 : Int) < r.length := by simpa using h5
                                     omega
      cases r with
      | nil => simp at hlen
      | cons t r =>
      have hne : (t :: r) ≠ [] := List.cons_ne_nil _ _
      have hlast : (t :: r).getLast? = some ((t :: r).getLast hne) := List.getLast?_eq_some_getLast hne
      repeat fail
      refine iv_tup (d := demD1 ((t :: r).getLast hne)) ?_ ?_
      · show atI ((t :: r).map demD1) (-1) = _
        conv => lhs; rw [← List.dropLast_concat_getLast hne, List.map_append]
        exact atI_last _ _
      repeat fail
      refine iv_tup (d := nD ((t :: r).getLast hne).2.1) rfl ?_
      repeat fail
      refine ⟨rfl, ?_⟩
      unfold isRingB
      rw [h, decide_eq_true hlen, hlast]
      rfl
    · refine ⟨rfl, ?_⟩
      unfold isRingB
      rw [h, show decide (1 < r.length) = false from decide_eq_false fun z => h5 (decide_eq_true (by rw [List.length_map]; show (1 : Int) < r.length; omega))]; simp
  · refine ⟨rfl, ?_⟩
    unfold isRingB
    rw [show isRoadB L r = false by simpa using h]; rfl
end
end W
end
section
set_option Elab.async false
set_option linter.all false
set_option maxRecDepth 100000
set_option maxHeartbeats 4000000
open PySem L2 D PyProof.Rows
local macro_rules
  | `(tactic| fail "z") => `(tactic| ((try simp only [List.length_map, List.length_cons, List.length_nil, List.length_append, List.length_drop, List.length_take]); have := big_line; omega))
local macro_rules
  | `(tactic| fail) => `(tactic| first
    | (refine (?_ : SE _ _ _ _ _ _); first | refine se_nm rfl ?_ | refine se_tyTuple (by assumption) ?_ | refine se_tyStr (by assumption) ?_ | refine se_tyInt (by assumption) ?_ | refine se_tyBool (by assumption) ?_ | refine se_int ?_ | refine se_str ?_ | refine se_non ?_ | refine se_bl ?_ | refine se_cmp ?_ | refine se_bin ?_ | refine se_ix ?_ | refine se_slice ?_ | refine se_tup ?_ | refine se_lst ?_ | (refine (?_ : SE _ _ _ _ (.Call _ _ _ _) _); first | refine se_any (by assumption) ?_ | refine se_all (by assumption) ?_ | refine se_len (by assumption) ?_ | refine se_min (by assumption) ?_ | refine se_max (by assumption) ?_ | refine se_sorted (by assumption) ?_ | refine se_isi (by assumption) ?_ | refine se_abs (by assumption) ?_ | refine se_sum (by assumption) ?_ | refine se_tupleC (by assumption) ?_ | refine se_listC (by assumption) ?_) | refine se_M rfl (by assumption) (blkOk_by rfl) ?_ | refine se_F rfl (by assumption) (blkOk_by rfl) ?_ | refine se_Dc rfl (by assumption) (blkOk_by rfl) ?_ | refine se_chain ?_ | refine se_indexN ?_ | refine se_not ?_ | refine se_if ?_ | refine se_one ?_ | refine se_and ?_ | refine se_or ?_ | refine se_neg ?_)
    | (refine (?_ : ST _ _ _ _ _ _); first | refine st_cmp ?_ | refine st_chain ?_ | refine st_not ?_ | refine st_w (sw_and ?_) | refine st_w (sw_or ?_) | refine st_val ?_)
    | (refine (?_ : SWt _ _ _ _ _ _); first | refine sw_and ?_ | refine sw_and1 ?_ | refine sw_or ?_ | refine sw_or1 ?_)
    | (refine (?_ : SA _ _ _ _ _ _); first | refine sa_cons ?_ | refine sa_nil ?_)
    | (refine (?_ : SO _ _ _ _ _ _); first | refine so_none ?_ | refine so_some ?_)
    | (refine (?_ : SS _ _ _ _ _ _); first | refine ss_one ?_ | refine ss_cons ?_)
    | (refine (?_ : S1 _ _ _ _ _ _); first | refine s_ret ?_ | refine s_if ?_ | refine s_M rfl (by assumption) (blkOk_by rfl) ?_ | refine s_F rfl (by assumption) (blkOk_by rfl) ?_ | refine s_Dc rfl (by assumption) (blkOk_by rfl) ?_ | refine s_st (by assumption) ?_ | refine s_aug (by assumption) rfl ?_ | refine s_asg ?_ | refine s_expr ?_)
    | (refine (?_ : SG _ _ _ _ _ _ _); first | refine sg_nm (by assumption) ?_ | refine sg_par rfl ?_ | refine sg_tup rfl ?_)
    | (refine (?_ : SGs _ _ _ _ _ _ _); first | refine sgs_cons ?_ | refine sgs_nil ?_)
    | (refine (?_ : SGb _ _ _ _ _ _ _ _); first | refine sgb_nm (by assumption) ?_ (by first | exact vs_self | exact vs_one | exact vs_two) | refine sgb_par rfl ?_ | refine sgb_tup rfl ?_)
    | (refine (?_ : SGbs _ _ _ _ _ _ _ _); first | refine sgbs_cons ?_ | refine sgbs_nil ?_)
    | (refine (?_ : SW _ _ _ _ _ _ _); first | refine sw_vals ?_ | refine sw_zipT (by assumption) ?_ | refine sw_range (by assumption) ?_ | refine sw_seq ?_)
    | (refine (?_ : OpV _ _ _ _ _ _ _ _); first | refine ov_eqN ?_ | refine ov_neN ?_ | refine ov_inN ?_ | refine ov_ninN ?_ | refine ov_inNT ?_ | refine ov_ninNT ?_ | refine oi_add ?_ | refine oi_catT (by fail "z") ?_ | refine ov_cat (by fail "z") ?_ | refine ov_catT (by fail "z") ?_ | refine ov_add ?_ | refine ov_sub ?_ | refine ov_lt ?_ | refine ov_le ?_ | refine ov_gt ?_ | refine ov_ge ?_ | refine ov_eqI ?_ | refine ov_neI ?_ | refine ov_eqS ?_ | refine ov_neS ?_ | refine ov_eqB ?_ | refine ov_neB ?_)
    | (refine (?_ : IxV _ _ _ _ _ _ _); first | refine iv_cons ?_ | refine iv_consT ?_)
    | (refine (?_ : SlV _ _ _ _ _ _ _ _); first | refine sv_fromL (by decide) ?_ | refine sv_fromT (by decide) ?_ | refine sv_toL (by decide) ?_ | refine sv_toT (by decide) ?_)
    | (refine (?_ : ClV _ _ _ _ _ _ _); first | refine cv_anyM rfl ?_ | refine cv_allM rfl ?_ | refine cv_len rfl ?_ | refine cv_tuple rfl ?_ | refine cv_list rfl ?_ | refine cv_abs ?_ | refine cv_isStr rfl ?_ | refine cv_isTup rfl ?_ | refine cv_isInt rfl ?_ | refine cv_isBool rfl ?_ | refine cv_sum rfl ?_)
    | refine turn0I (fun _ _ _ _ _ _ => ?_) | refine turn1I (fun _ _ _ _ _ _ => ?_) | refine turnDI (fun _ _ _ _ _ _ => ?_) | refine abI (fun _ _ _ _ _ => ?_) | refine iteT ?_ | refine iteF ?_ | refine And.intro (show _ ≤ sizeLine by fail "z") ?_ | refine ⟨_, rfl, ?_⟩)
local macro_rules
  | `(tactic| fail "e") => `(tactic| first
    | (refine (?_ : SE _ _ _ _ _ _); first | refine se_nm rfl ?_ | refine se_tyTuple (by assumption) ?_ | refine se_tyStr (by assumption) ?_ | refine se_tyInt (by assumption) ?_ | refine se_tyBool (by assumption) ?_ | refine se_int ?_ | refine se_str ?_ | refine se_non ?_ | refine se_bl ?_ | refine se_cmp ?_ | refine se_bin ?_ | refine se_ix ?_ | refine se_slice ?_ | refine se_tup ?_ | refine se_lst ?_ | (refine (?_ : SE _ _ _ _ (.Call _ _ _ _) _); first | refine se_any (by assumption) ?_ | refine se_all (by assumption) ?_ | refine se_len (by assumption) ?_ | refine se_min (by assumption) ?_ | refine se_max (by assumption) ?_ | refine se_sorted (by assumption) ?_ | refine se_isi (by assumption) ?_ | refine se_abs (by assumption) ?_ | refine se_sum (by assumption) ?_ | refine se_tupleC (by assumption) ?_ | refine se_listC (by assumption) ?_) | refine se_M rfl (by assumption) (blkOk_by rfl) ?_ | refine se_F rfl (by assumption) (blkOk_by rfl) ?_ | refine se_Dc rfl (by assumption) (blkOk_by rfl) ?_ | refine se_chain ?_ | refine se_indexN ?_ | refine se_not ?_ | refine se_if ?_ | refine se_one ?_ | refine se_and ?_ | refine se_or ?_ | refine se_neg ?_)
    | (refine (?_ : ST _ _ _ _ _ _); first | refine st_cmp ?_ | refine st_chain ?_ | refine st_not ?_ | refine st_w (sw_and ?_) | refine st_w (sw_or ?_) | refine st_val ?_)
    | (refine (?_ : SWt _ _ _ _ _ _); first | refine sw_and ?_ | refine sw_and1 ?_ | refine sw_or ?_ | refine sw_or1 ?_)
    | (refine (?_ : SA _ _ _ _ _ _); first | refine sa_cons ?_ | refine sa_nil ?_)
    | (refine (?_ : SO _ _ _ _ _ _); first | refine so_none ?_ | refine so_some ?_)
    | (refine (?_ : SG _ _ _ _ _ _ _); first | refine sg_nm (by assumption) ?_ | refine sg_par rfl ?_ | refine sg_tup rfl ?_)
    | (refine (?_ : SGs _ _ _ _ _ _ _); first | refine sgs_cons ?_ | refine sgs_nil ?_)
    | (refine (?_ : SGb _ _ _ _ _ _ _ _); first | refine sgb_nm (by assumption) ?_ (by first | exact vs_self | exact vs_one | exact vs_two) | refine sgb_par rfl ?_ | refine sgb_tup rfl ?_)
    | (refine (?_ : SGbs _ _ _ _ _ _ _ _); first | refine sgbs_cons ?_ | refine sgbs_nil ?_)
    | (refine (?_ : SW _ _ _ _ _ _ _); first | refine sw_vals ?_ | refine sw_zipT (by assumption) ?_ | refine sw_range (by assumption) ?_ | refine sw_seq ?_)
    | (refine (?_ : OpV _ _ _ _ _ _ _ _); first | refine ov_eqN ?_ | refine ov_neN ?_ | refine ov_inN ?_ | refine ov_ninN ?_ | refine ov_inNT ?_ | refine ov_ninNT ?_ | refine oi_add ?_ | refine oi_catT (by fail "z") ?_ | refine ov_cat (by fail "z") ?_ | refine ov_catT (by fail "z") ?_ | refine ov_add ?_ | refine ov_sub ?_ | refine ov_lt ?_ | refine ov_le ?_ | refine ov_gt ?_ | refine ov_ge ?_ | refine ov_eqI ?_ | refine ov_neI ?_ | refine ov_eqS ?_ | refine ov_neS ?_ | refine ov_eqB ?_ | refine ov_neB ?_)
    | (refine (?_ : IxV _ _ _ _ _ _ _); first | refine iv_cons ?_ | refine iv_consT ?_)
    | (refine (?_ : SlV _ _ _ _ _ _ _ _); first | refine sv_fromL (by decide) ?_ | refine sv_fromT (by decide) ?_ | refine sv_toL (by decide) ?_ | refine sv_toT (by decide) ?_)
    | (refine (?_ : ClV _ _ _ _ _ _ _); first | refine cv_anyM rfl ?_ | refine cv_allM rfl ?_ | refine cv_len rfl ?_ | refine cv_tuple rfl ?_ | refine cv_list rfl ?_ | refine cv_abs ?_ | refine cv_isStr rfl ?_ | refine cv_isTup rfl ?_ | refine cv_isInt rfl ?_ | refine cv_isBool rfl ?_ | refine cv_sum rfl ?_)
    | refine turn0I (fun _ _ _ _ _ _ => ?_) | refine turn1I (fun _ _ _ _ _ _ => ?_) | refine turnDI (fun _ _ _ _ _ _ => ?_) | refine abI (fun _ _ _ _ _ => ?_) | refine iteT ?_ | refine iteF ?_ | refine And.intro (show _ ≤ sizeLine by fail "z") ?_ | refine ⟨_, rfl, ?_⟩)
namespace W
open PySem L2 D PyProof.Rows
theorem mod_lt {a b : Int} (h : 0 < b) : 0 ≤ a % b ∧ a % b < b := ⟨Int.emod_nonneg a (by omega), Int.emod_lt_of_pos a h⟩
theorem atI_nat' {α : Type} {l : List α} {i : Int} (h0 : 0 ≤ i) (h1 : i < l.length) : ∃ d, atI l i = some d ∧ d ∈ l := by
  unfold atI L2.ixN
  rw [if_pos h0, if_pos h1]
  have hl : i.toNat < l.length := by omega
  exact ⟨l[i.toNat], List.getElem?_eq_getElem hl, List.getElem_mem hl⟩
section
variable {P : Program} {w : World} {K : PySem.W.Frag} {mg : Str → Option Value} {base : Heap}
abbrev sp_bag (K : PySem.W.Frag) : Sp := spG K (fun x : List Int × Int => [.fzl (x.1.map .int), .int x.2]) (fun _ => []) (fun x => 0 ≤ x.2 ∧ x.2 < 1000) (fun _ c' d => ∃ a, c' = [(a, .bag 0)] ∧ d = .raw (.ref a)) fun _ _ _ => False
theorem ok_bag {f : Addr} {fd : FuncData} (Fu : Fun K "_law_bag" "_law_bag" s__law_bag f fd) (T : Txt mg) : FnOk P w K mg base (L2.CX P w) 1 f fd ["_law_script", "_law_at"] (sp_bag K) := by
  refine fn_G Fu sc__law_bag (fun a => rfl) (fun cdv A outer s H E F x hp hr xt => ?_)
  obtain ⟨ns, i⟩ := x
  obtain ⟨h0, h1⟩ := (show 0 ≤ i ∧ i < 1000 from hp)
  have nd := sc__law_bag.nd
  have habs := T.abs
  have hlen := T.len
  have key2 : ∀ n m : Int, 0 ≤ m → SS F (cxOf (L2.CX P w) P w K mg base n__law_bag "_law_bag" (defScope s__law_bag) f cdv A outer s H E) (((startP n__law_bag [.fzl (ns.map .int), .int i]).set 2 (.dat (.int n))).set 3 (.dat (.int m))) [] ((defBody s__law_bag).drop 2)
      { nx := fun _ c' => ∃ a, c' = [(a, .bag 0)] ∧ Dt.non = .raw (.ref a), rt := fun _ c' d => ∃ a, c' = [(a, .bag 0)] ∧ d = .raw (.ref a) } := by
    intro n m hm
    have hn := mod_lt (a := n) (b := 2147483647) (by decide)
    have hb : (n % 2147483647 + 7121 * i + 11).natAbs < 2 ^ 64 := by omega
    have hx := mod_lt (a := (n % 2147483647 + 7121 * i + 11) ^ (3 : Int).toNat) (b := 2147483629) (by decide)
    refine ss_one (s_ret (SE.closeBag (SEL.sc (sel_lst ?_))))
    repeat fail
    refine ov_mod (by decide) ?_
    repeat fail
    refine ov_mul (.inl ⟨by decide, by decide⟩) ?_
    repeat fail
    refine ov_pow ⟨by decide, by decide, hb⟩ ?_
    repeat fail
    refine ov_mod (by decide) ?_
    repeat fail
    intro a
    exact ⟨0, a, m, _, 0, 0, rfl, hm, hx.1, by omega, by decide, by decide, a, rfl, rfl⟩
  have key : ∀ n : Int, SS F (cxOf (L2.CX P w) P w K mg base n__law_bag "_law_bag" (defScope s__law_bag) f cdv A outer s H E) ((startP n__law_bag [.fzl (ns.map .int), .int i]).set 2 (.dat (.int n))) [] ((defBody s__law_bag).drop 1)
      { nx := fun _ c' => ∃ a, c' = [(a, .bag 0)] ∧ Dt.non = .raw (.ref a), rt := fun _ c' d => ∃ a, c' = [(a, .bag 0)] ∧ d = .raw (.ref a) } := by
    intro n
    repeat fail
    refine ov_pow ⟨by decide, by decide, by decide⟩ ?_
    repeat fail
    refine ite2 (fun h => ?_) (fun h => ?_)
    · repeat fail "e"
      exact key2 n _ (by split <;> omega)
    · repeat fail "e"
      exact key2 n 0 (by decide)
  repeat fail
  refine cv_lenF  ?_
  repeat fail "e"
  refine ite2 (fun h => ?_) (fun h => ?_)
  · repeat fail "e"
    have h := of_decide_eq_true h
    obtain ⟨d, hd, hm⟩ := atI_nat' (l := ns.map Dt.int) h0 (by simpa using h)
    obtain ⟨n, _, rfl⟩ := List.mem_map.mp hm
    exact iv_fzl hd (key n)
  · repeat fail "e"
    exact key 0
abbrev sp_take (K : PySem.W.Frag) : Sp := spB K (fun n : Int => [.int n]) (fun n => 0 < n ∧ n < 1000000) (fun _ => 1) (fun n z => ∃ k, z = .int k ∧ 0 ≤ k ∧ k < n)
theorem ok_take {f : Addr} {fd : FuncData} (Fu : Fun K "_law_take" "_law_take" s__law_take f fd) : FnOk P w K mg base (L2.CX P w) 1 f fd ["_law_bag_here", "_law_many"] (sp_take K) := by
  refine fn_B Fu sc__law_take (fun a => rfl) (fun cdv A outer s H E F b c n hp hc hr => ?_)
  obtain ⟨hn0, hn1⟩ := hp
  have nd := sc__law_take.nd
  have hc' : (c : Int) + 1 ≤ 1000000000 := by have : c + 1 ≤ 1000000000 := hc; omega
  refine ss_openBag 0 rfl fun d s' k' h1 h2 h3 h4 h5 => ?_
  repeat fail
  refine iv_lcel 0 rfl rfl ?_
  repeat fail
  refine ite2 (fun h => ?_) (fun h => ?_)
  · have hd : 0 < d := of_decide_eq_true h
    repeat fail
    refine iv_lcel 0 rfl rfl ?_
    repeat fail "e"
    refine ov_mod hn0 ?_
    refine ss_cons (s_lput ?_)
    repeat fail
    refine iv_lcel 0 rfl rfl ?_
    repeat fail "e"
    refine ov_div ⟨hn0, by omega⟩ ?_
    repeat fail "e"
    refine ⟨0, _, _, 0, rfl, rfl, rfl, ?_⟩
    refine ss_one (s_ret (SE.closeBag ?_))
    repeat fail
    refine ⟨0, b, d / n, s', k', c + 1, rfl, Int.ediv_nonneg (by omega) (by omega), h2, h3, h4, by omega, ?_⟩
    exact ⟨⟨_, Nat.le_refl _, rfl⟩, _, rfl, mod_lt hn0⟩
  · refine ss_nil ?_
    refine ss_cons (s_lput ?_)
    repeat fail "e"
    refine iv_lcel 0 rfl rfl ?_
    repeat fail "e"
    refine ⟨0, _, _, 2, rfl, rfl, rfl, ?_⟩
    refine ss_cons (s_lput ?_)
    repeat fail
    refine iv_lcel 0 rfl rfl ?_
    repeat fail
    refine ov_mul (.inr ⟨by decide, by decide⟩) ?_
    repeat fail
    refine iv_lcel 0 rfl rfl ?_
    repeat fail
    refine ov_mul (.inl ⟨by decide, by decide⟩) ?_
    repeat fail
    refine iv_lcel 0 rfl rfl ?_
    repeat fail
    refine ov_mul (.inr ⟨by omega, by omega⟩) ?_
    repeat fail
    refine ov_mod (by decide) ?_
    repeat fail
    refine ⟨0, _, _, 1, rfl, rfl, rfl, ?_⟩
    have hm := mod_lt (a := s' * 48271 + 6607 * (k' + 1) * (k' + 1) + 5) (b := 2147483647) (by decide)
    have hb : ((s' * 48271 + 6607 * (k' + 1) * (k' + 1) + 5) % 2147483647 / 16).natAbs < 2 ^ 64 := by omega
    refine ss_one (s_ret (SE.closeBag ?_))
    repeat fail
    refine iv_lcel 0 rfl rfl ?_
    repeat fail
    refine ov_div ⟨by decide, by decide⟩ ?_
    repeat fail
    refine ov_pow ⟨by decide, by decide, hb⟩ ?_
    repeat fail
    refine ov_mod (by decide) ?_
    repeat fail
    refine ov_mod hn0 ?_
    refine ⟨0, b, d, _, _, c + 1, rfl, h1, hm.1, hm.2, by omega, by omega, ?_⟩
    exact ⟨⟨_, Nat.le_refl _, rfl⟩, _, rfl, mod_lt hn0⟩
end
end W
end
section
set_option Elab.async false
set_option linter.all false
set_option maxRecDepth 100000
set_option maxHeartbeats 4000000
open PySem L2 D PyProof.Rows
local macro_rules
  | `(tactic| fail "z") => `(tactic| ((try simp only [List.length_map, List.length_cons, List.length_nil, List.length_append, List.length_drop, List.length_take]); have := big_line; omega))
local macro_rules
  | `(tactic| fail) => `(tactic| first
    | (refine (?_ : SE _ _ _ _ _ _); first | refine se_nm rfl ?_ | refine se_tyTuple (by assumption) ?_ | refine se_tyStr (by assumption) ?_ | refine se_tyInt (by assumption) ?_ | refine se_tyBool (by assumption) ?_ | refine se_int ?_ | refine se_str ?_ | refine se_non ?_ | refine se_bl ?_ | refine se_cmp ?_ | refine se_bin ?_ | refine se_ix ?_ | refine se_slice ?_ | refine se_tup ?_ | refine se_lst ?_ | (refine (?_ : SE _ _ _ _ (.Call _ _ _ _) _); first | refine se_any (by assumption) ?_ | refine se_all (by assumption) ?_ | refine se_len (by assumption) ?_ | refine se_min (by assumption) ?_ | refine se_max (by assumption) ?_ | refine se_sorted (by assumption) ?_ | refine se_isi (by assumption) ?_ | refine se_abs (by assumption) ?_ | refine se_sum (by assumption) ?_ | refine se_tupleC (by assumption) ?_ | refine se_listC (by assumption) ?_) | refine se_M rfl (by assumption) (blkOk_by rfl) ?_ | refine se_F rfl (by assumption) (blkOk_by rfl) ?_ | refine se_Dc rfl (by assumption) (blkOk_by rfl) ?_ | refine se_chain ?_ | refine se_indexN ?_ | refine se_not ?_ | refine se_if ?_ | refine se_one ?_ | refine se_and ?_ | refine se_or ?_ | refine se_neg ?_)
    | (refine (?_ : ST _ _ _ _ _ _); first | refine st_cmp ?_ | refine st_chain ?_ | refine st_not ?_ | refine st_w (sw_and ?_) | refine st_w (sw_or ?_) | refine st_val ?_)
    | (refine (?_ : SWt _ _ _ _ _ _); first | refine sw_and ?_ | refine sw_and1 ?_ | refine sw_or ?_ | refine sw_or1 ?_)
    | (refine (?_ : SA _ _ _ _ _ _); first | refine sa_cons ?_ | refine sa_nil ?_)
    | (refine (?_ : SO _ _ _ _ _ _); first | refine so_none ?_ | refine so_some ?_)
    | (refine (?_ : SS _ _ _ _ _ _); first | refine ss_one ?_ | refine ss_cons ?_)
    | (refine (?_ : S1 _ _ _ _ _ _); first | refine s_ret ?_ | refine s_if ?_ | refine s_M rfl (by assumption) (blkOk_by rfl) ?_ | refine s_F rfl (by assumption) (blkOk_by rfl) ?_ | refine s_Dc rfl (by assumption) (blkOk_by rfl) ?_ | refine s_st (by assumption) ?_ | refine s_aug (by assumption) rfl ?_ | refine s_asg ?_ | refine s_expr ?_)
    | (refine (?_ : SG _ _ _ _ _ _ _); first | refine sg_nm (by assumption) ?_ | refine sg_par rfl ?_ | refine sg_tup rfl ?_)
    | (refine (?_ : SGs _ _ _ _ _ _ _); first | refine sgs_cons ?_ | refine sgs_nil ?_)
    | (refine (?_ : SGb _ _ _ _ _ _ _ _); first | refine sgb_nm (by assumption) ?_ (by first | exact vs_self | exact vs_one | exact vs_two) | refine sgb_par rfl ?_ | refine sgb_tup rfl ?_)
    | (refine (?_ : SGbs _ _ _ _ _ _ _ _); first | refine sgbs_cons ?_ | refine sgbs_nil ?_)
    | (refine (?_ : SW _ _ _ _ _ _ _); first | refine sw_vals ?_ | refine sw_zipT (by assumption) ?_ | refine sw_range (by assumption) ?_ | refine sw_seq ?_)
    | (refine (?_ : OpV _ _ _ _ _ _ _ _); first | refine ov_eqN ?_ | refine ov_neN ?_ | refine ov_inN ?_ | refine ov_ninN ?_ | refine ov_inNT ?_ | refine ov_ninNT ?_ | refine oi_add ?_ | refine oi_catT (by fail "z") ?_ | refine ov_cat (by fail "z") ?_ | refine ov_catT (by fail "z") ?_ | refine ov_add ?_ | refine ov_sub ?_ | refine ov_lt ?_ | refine ov_le ?_ | refine ov_gt ?_ | refine ov_ge ?_ | refine ov_eqI ?_ | refine ov_neI ?_ | refine ov_eqS ?_ | refine ov_neS ?_ | refine ov_eqB ?_ | refine ov_neB ?_)
    | (refine (?_ : IxV _ _ _ _ _ _ _); first | refine iv_cons ?_ | refine iv_consT ?_)
    | (refine (?_ : SlV _ _ _ _ _ _ _ _); first | refine sv_fromL (by decide) ?_ | refine sv_fromT (by decide) ?_ | refine sv_toL (by decide) ?_ | refine sv_toT (by decide) ?_)
    | (refine (?_ : ClV _ _ _ _ _ _ _); first | refine cv_anyM rfl ?_ | refine cv_allM rfl ?_ | refine cv_len rfl ?_ | refine cv_tuple rfl ?_ | refine cv_list rfl ?_ | refine cv_abs ?_ | refine cv_isStr rfl ?_ | refine cv_isTup rfl ?_ | refine cv_isInt rfl ?_ | refine cv_isBool rfl ?_ | refine cv_sum rfl ?_)
    | refine turn0I (fun _ _ _ _ _ _ => ?_) | refine turn1I (fun _ _ _ _ _ _ => ?_) | refine turnDI (fun _ _ _ _ _ _ => ?_) | refine abI (fun _ _ _ _ _ => ?_) | refine iteT ?_ | refine iteF ?_ | refine And.intro (show _ ≤ sizeLine by fail "z") ?_ | refine ⟨_, rfl, ?_⟩)
local macro_rules
  | `(tactic| fail "e") => `(tactic| first
    | (refine (?_ : SE _ _ _ _ _ _); first | refine se_nm rfl ?_ | refine se_tyTuple (by assumption) ?_ | refine se_tyStr (by assumption) ?_ | refine se_tyInt (by assumption) ?_ | refine se_tyBool (by assumption) ?_ | refine se_int ?_ | refine se_str ?_ | refine se_non ?_ | refine se_bl ?_ | refine se_cmp ?_ | refine se_bin ?_ | refine se_ix ?_ | refine se_slice ?_ | refine se_tup ?_ | refine se_lst ?_ | (refine (?_ : SE _ _ _ _ (.Call _ _ _ _) _); first | refine se_any (by assumption) ?_ | refine se_all (by assumption) ?_ | refine se_len (by assumption) ?_ | refine se_min (by assumption) ?_ | refine se_max (by assumption) ?_ | refine se_sorted (by assumption) ?_ | refine se_isi (by assumption) ?_ | refine se_abs (by assumption) ?_ | refine se_sum (by assumption) ?_ | refine se_tupleC (by assumption) ?_ | refine se_listC (by assumption) ?_) | refine se_M rfl (by assumption) (blkOk_by rfl) ?_ | refine se_F rfl (by assumption) (blkOk_by rfl) ?_ | refine se_Dc rfl (by assumption) (blkOk_by rfl) ?_ | refine se_chain ?_ | refine se_indexN ?_ | refine se_not ?_ | refine se_if ?_ | refine se_one ?_ | refine se_and ?_ | refine se_or ?_ | refine se_neg ?_)
    | (refine (?_ : ST _ _ _ _ _ _); first | refine st_cmp ?_ | refine st_chain ?_ | refine st_not ?_ | refine st_w (sw_and ?_) | refine st_w (sw_or ?_) | refine st_val ?_)
    | (refine (?_ : SWt _ _ _ _ _ _); first | refine sw_and ?_ | refine sw_and1 ?_ | refine sw_or ?_ | refine sw_or1 ?_)
    | (refine (?_ : SA _ _ _ _ _ _); first | refine sa_cons ?_ | refine sa_nil ?_)
    | (refine (?_ : SO _ _ _ _ _ _); first | refine so_none ?_ | refine so_some ?_)
    | (refine (?_ : SG _ _ _ _ _ _ _); first | refine sg_nm (by assumption) ?_ | refine sg_par rfl ?_ | refine sg_tup rfl ?_)
    | (refine (?_ : SGs _ _ _ _ _ _ _); first | refine sgs_cons ?_ | refine sgs_nil ?_)
    | (refine (?_ : SGb _ _ _ _ _ _ _ _); first | refine sgb_nm (by assumption) ?_ (by first | exact vs_self | exact vs_one | exact vs_two) | refine sgb_par rfl ?_ | refine sgb_tup rfl ?_)
    | (refine (?_ : SGbs _ _ _ _ _ _ _ _); first | refine sgbs_cons ?_ | refine sgbs_nil ?_)
    | (refine (?_ : SW _ _ _ _ _ _ _); first | refine sw_vals ?_ | refine sw_zipT (by assumption) ?_ | refine sw_range (by assumption) ?_ | refine sw_seq ?_)
    | (refine (?_ : OpV _ _ _ _ _ _ _ _); first | refine ov_eqN ?_ | refine ov_neN ?_ | refine ov_inN ?_ | refine ov_ninN ?_ | refine ov_inNT ?_ | refine ov_ninNT ?_ | refine oi_add ?_ | refine oi_catT (by fail "z") ?_ | refine ov_cat (by fail "z") ?_ | refine ov_catT (by fail "z") ?_ | refine ov_add ?_ | refine ov_sub ?_ | refine ov_lt ?_ | refine ov_le ?_ | refine ov_gt ?_ | refine ov_ge ?_ | refine ov_eqI ?_ | refine ov_neI ?_ | refine ov_eqS ?_ | refine ov_neS ?_ | refine ov_eqB ?_ | refine ov_neB ?_)
    | (refine (?_ : IxV _ _ _ _ _ _ _); first | refine iv_cons ?_ | refine iv_consT ?_)
    | (refine (?_ : SlV _ _ _ _ _ _ _ _); first | refine sv_fromL (by decide) ?_ | refine sv_fromT (by decide) ?_ | refine sv_toL (by decide) ?_ | refine sv_toT (by decide) ?_)
    | (refine (?_ : ClV _ _ _ _ _ _ _); first | refine cv_anyM rfl ?_ | refine cv_allM rfl ?_ | refine cv_len rfl ?_ | refine cv_tuple rfl ?_ | refine cv_list rfl ?_ | refine cv_abs ?_ | refine cv_isStr rfl ?_ | refine cv_isTup rfl ?_ | refine cv_isInt rfl ?_ | refine cv_isBool rfl ?_ | refine cv_sum rfl ?_)
    | refine turn0I (fun _ _ _ _ _ _ => ?_) | refine turn1I (fun _ _ _ _ _ _ => ?_) | refine turnDI (fun _ _ _ _ _ _ => ?_) | refine abI (fun _ _ _ _ _ => ?_) | refine iteT ?_ | refine iteF ?_ | refine And.intro (show _ ≤ sizeLine by fail "z") ?_ | refine ⟨_, rfl, ?_⟩)
namespace W
open PySem L2 D PyProof.Rows
def lett (s : Str) : Prop := s.length = 1 ∧ ∀ a ∈ s.cps.toList, a ∈ abc.cps.toList
theorem pick_abc {k : Int} (h0 : 0 ≤ k) (h1 : k < 26) : ∃ a, atI abc.cps.toList k = some a ∧ a ∈ abc.cps.toList := atI_nat' h0 (by rw [show abc.cps.toList.length = 26 from by decide +kernel]; omega)
theorem lett_sign {a : Nat} (h : a ∈ abc.cps.toList) : lett ⟨#[a]⟩ := ⟨rfl, fun b hb => by simp at hb; subst hb; exact h⟩
/-- the sign at a place of the letters -/
def abcAt (k : Int) : Nat := (atI abc.cps.toList k).getD 97
theorem abcAt_eq {k : Int} (h0 : 0 ≤ k) (h1 : k < 26) : atI abc.cps.toList k = some (abcAt k) := by
  obtain ⟨a, ha, _⟩ := pick_abc h0 h1
  unfold abcAt; rw [ha]; rfl
theorem abcAt_inj {k m : Int} (h0 : 0 ≤ k) (h1 : k < 26) (g0 : 0 ≤ m) (g1 : m < 26) (h : abcAt k = abcAt m) : k = m := by
  have key : ∀ k : Nat, k < 26 → abcAt (k : Int) = 97 + k := by decide +kernel
  have h2 := key k.toNat (by omega)
  have h3 := key m.toNat (by omega)
  rw [Int.toNat_of_nonneg h0] at h2
  rw [Int.toNat_of_nonneg g0] at h3
  omega
theorem seven {f : Int} {i j : Nat} (hi : i < 20) (hj : j < 20) (h : (f + 7 * (i : Int)) % 26 = (f + 7 * (j : Int)) % 26) : i = j := by omega
def wordN (sp : Int) (bs : Str) (a : Nat) : Str := if sp = 0 then bs ++ ⟨#[a]⟩ else ⟨#[a]⟩ ++ bs
theorem word_name {sp : Int} {bs : Str} {a : Nat} (hl : bs.length ≤ 7) (hb : ∀ x ∈ tl bs, x ∈ tl abc) (ha : a ∈ abc.cps.toList) : nameC (wordN sp bs a) = true := by
  have hx := lett_sign ha
  rw [nameC_iff]
  unfold wordN
  split
  · rw [len_app]
    refine ⟨by have := hx.1; omega, by have := hx.1; omega, fun z hz => ?_⟩
    have hz : z ∈ tl (bs ++ ⟨#[a]⟩) := hz
    rw [tl_app] at hz
    rcases List.mem_append.mp hz with q | q
    · exact hb z q
    · exact hx.2 z q
  · rw [len_app]
    refine ⟨by have := hx.1; omega, by have := hx.1; omega, fun z hz => ?_⟩
    have hz : z ∈ tl (⟨#[a]⟩ ++ bs) := hz
    rw [tl_app] at hz
    rcases List.mem_append.mp hz with q | q
    · exact hx.2 z q
    · exact hb z q
theorem word_inj {sp : Int} {bs : Str} {a b : Nat} (h : wordN sp bs a = wordN sp bs b) : a = b := by
  unfold wordN at h
  split at h
  · have := congrArg tl h
    rw [tl_app, tl_app] at this
    have := List.append_cancel_left this
    simpa [tl] using this
  · have := congrArg tl h
    rw [tl_app, tl_app] at this
    have := List.append_cancel_right this
    simpa [tl] using this
section
variable {P : Program} {w : World} {K : PySem.W.Frag} {mg : Str → Option Value} {base : Heap}
abbrev D_take (P : Program) (w : World) (K : PySem.W.Frag) (mg : Str → Option Value) (base : Heap) : Prop := DefOk P w K mg base 1 "_law_take" ["_law_bag_here", "_law_many"] (sp_take K)
abbrev sp_names (K : PySem.W.Frag) : Sp := spB K (fun n : Int => [.int n]) (fun n => 0 ≤ n ∧ n ≤ 20) (fun _ => 10) (fun n z => ∃ l : List Nm, z = nL l ∧ (l.length : Int) = n ∧ l.Nodup)
theorem ok_names {f : Addr} {fd : FuncData} (Fu : Fun K "_law_names" "_law_names" s__law_names f fd) (T : Txt mg) (Dt' : D_take P w K mg base) : FnOk P w K mg base (L2.CX P w) 2 f fd ["_law_bag_here", "_law_many"] (sp_names K) := by
  refine fn_B Fu sc__law_names (fun a => rfl) (fun cdv A outer s H E F b c n hp hc hr => ?_)
  obtain ⟨hn0, hn1⟩ := hp
  have hl : c + 10 ≤ LIM := hc
  have nd := sc__law_names.nd
  have hrg := T.range
  repeat fail
  refine se_fB 0 Dt' hr ?_
  repeat fail
  refine ⟨b, c, 5, rfl, rfl, ⟨by decide, by decide⟩, by show c + 1 ≤ LIM; omega, ?_⟩
  rintro _ ⟨k, rfl, hk0, hk1⟩
  obtain ⟨m, hm, hm0, hm1⟩ : ∃ m : Int, atI [Dt.int 0, .int 0, .int 1, .int 3, .int 7] k = some (.int m) ∧ 0 ≤ m ∧ m ≤ 7 := by
    have hk : k = 0 ∨ k = 1 ∨ k = 2 ∨ k = 3 ∨ k = 4 := by omega
    rcases hk with rfl | rfl | rfl | rfl | rfl
    · exact ⟨0, rfl, by decide, by decide⟩
    · exact ⟨0, rfl, by decide, by decide⟩
    · exact ⟨1, rfl, by decide, by decide⟩
    · exact ⟨3, rfl, by decide, by decide⟩
    · exact ⟨7, rfl, by decide, by decide⟩
  refine iv_tup hm ?_
  repeat fail
  refine se_fB 0 Dt' hr ?_
  repeat fail
  refine ⟨b, c + 1, 2, rfl, rfl, ⟨by decide, by decide⟩, by show c + 1 + 1 ≤ LIM; omega, ?_⟩
  rintro _ ⟨sp, rfl, hs0, hs1⟩
  repeat fail
  refine se_fB 0 Dt' hr ?_
  repeat fail
  refine ⟨b, c + 1 + 1, 26, rfl, rfl, ⟨by decide, by decide⟩, by show c + 1 + 1 + 1 ≤ LIM; omega, ?_⟩
  rintro _ ⟨fi, rfl, hf0, hf1⟩
  repeat fail
  refine se_join (se_str ⟨_, rfl, se_J rfl nd (blkOk_by rfl) (sw_range hrg ?_)⟩)
  repeat fail "e"
  refine ⟨by omega, by omega, ?_⟩
  rw [idxs_eq]
  refine lcJ Dt.str (fun i c' acc => ∃ n', c' = [(b, .bag n')] ∧ n' ≤ c + 3 + i ∧ acc.length = i ∧ ∀ x ∈ acc, lett x) ?_ ⟨_, rfl, by omega, rfl, fun _ h => nomatch h⟩ ?_ ?_
  · rw [List.length_range]; have := big_line; omega
  · rintro i r c' acc hi ⟨n', rfl, hn', hl', hx⟩
    have hi7 : i < 7 := by
      have := (List.getElem?_eq_some_iff.mp hi).1
      rw [List.length_range] at this; omega
    repeat fail "e"
    refine se_fB 0 Dt' hr ?_
    repeat fail "e"
    refine ⟨b, n', 26, rfl, rfl, ⟨by decide, by decide⟩, by show n' + 1 ≤ LIM; omega, ?_⟩
    rintro _ ⟨k', rfl, hk0', hk1'⟩
    obtain ⟨a, ha, ham⟩ := pick_abc hk0' hk1'
    refine iv_str (by decide +kernel) ha ⟨⟨#[a]⟩, rfl, _, rfl, by omega, by rw [List.length_append, hl']; rfl, fun x hx' => ?_⟩
    rcases List.mem_append.mp hx' with h | h
    · exact hx x h
    · rw [List.mem_singleton.mp h]; exact lett_sign ham
  rintro c' l ⟨n', rfl, hn', hl', hx⟩
  rw [List.length_range] at hn' hl'
  have hjl : tl (Txt.join "" l) = (l.map tl).flatten := tl_join0 rfl l
  have hbl : (Txt.join "" l).length ≤ 7 := by
    rw [len_tl, hjl, List.length_flatten, List.map_map]
    have : (l.map (List.length ∘ tl)).sum ≤ l.length := by
      clear hl' hjl
      induction l with
      | nil => exact Nat.le_refl _
      | cons x l ih =>
        have h1 := (hx x (List.mem_cons_self ..)).1
        have h2 := ih fun y hy => hx y (List.mem_cons_of_mem _ hy)
        rw [len_tl] at h1
        rw [List.map_cons, List.sum_cons, List.length_cons]
        show (tl x).length + _ ≤ _
        omega
    omega
  have hbm : ∀ a ∈ tl (Txt.join "" l), a ∈ tl abc := fun a ha => by
    rw [hjl] at ha
    obtain ⟨p, hp, ha⟩ := List.mem_flatten.mp ha
    obtain ⟨x, hx', rfl⟩ := List.mem_map.mp hp
    exact (hx x hx').2 a ha
  refine ⟨l, rfl, ?_, ?_⟩
  · have : (l.map (·.length)).sum ≤ 7 := by
      have e : (l.map (·.length)) = l.map (List.length ∘ tl) := List.map_congr_left fun x _ => len_tl x
      rw [len_tl, hjl, List.length_flatten, List.map_map] at hbl
      rw [e]; exact hbl
    show _ + l.length * 0 ≤ _
    omega
  generalize Txt.join "" l = bs at hbl hbm
  repeat fail
  refine ⟨by omega, by omega, ?_⟩
  rw [idxs_eq]
  refine lcM (fun k => .str ⟨#[abcAt ((fi + 7 * (k : Int)) % 26)]⟩) (by rw [List.length_range]; have := big_line; omega) ?_ ?_
  · intro k hk
    have hmod := mod_lt (a := fi + 7 * (k : Int)) (b := 26) (by decide)
    repeat fail "e"
    refine ov_mul (.inl ⟨by decide, by decide⟩) ?_
    repeat fail "e"
    refine ov_mod (by decide) ?_
    exact iv_str (by decide +kernel) (abcAt_eq hmod.1 hmod.2) ⟨rfl, rfl⟩
  repeat fail
  refine lcM (fun k => .str (wordN sp bs (abcAt ((fi + 7 * (k : Int)) % 26)))) (by rw [List.length_range]; have := big_line; omega) ?_ ?_
  · intro k hk
    have hz : bs.length + 1 ≤ sizeLine := by have := big_line; omega
    repeat fail "e"
    refine ite2 (fun h => ?_) (fun h => ?_)
    · repeat fail "e"
      refine ov_addS hz ⟨rfl, ?_⟩
      unfold wordN; rw [if_pos (of_decide_eq_true h)]
    · repeat fail "e"
      refine ov_addS (by rw [Nat.add_comm]; exact hz) ⟨rfl, ?_⟩
      unfold wordN; rw [if_neg fun z => h (decide_eq_true z)]
  have hok : ∀ k : Nat, nameC (wordN sp bs (abcAt ((fi + 7 * (k : Int)) % 26))) = true := fun k => by
    have hmod := mod_lt (a := fi + 7 * (k : Int)) (b := 26) (by decide)
    obtain ⟨a, ha, ham⟩ := pick_abc hmod.1 hmod.2
    have := abcAt_eq hmod.1 hmod.2
    rw [ha] at this
    rw [← Option.some.inj this]
    exact word_name hbl hbm ham
  refine ⟨⟨_, by omega, rfl⟩, (List.range n.toNat).map fun k => ⟨_, hok k⟩, ?_, ?_, ?_⟩
  · rw [nL, List.map_map]; rfl
  · rw [List.length_map, List.length_range]; omega
  · rw [List.Nodup, List.pairwise_map]
    refine List.Pairwise.imp_of_mem ?_ List.nodup_range
    intro i j hi hj hne e
    have e := congrArg Subtype.val e
    have e : wordN sp bs (abcAt ((fi + 7 * (i : Int)) % 26)) = wordN sp bs (abcAt ((fi + 7 * (j : Int)) % 26)) := e
    have h1 := mod_lt (a := fi + 7 * (i : Int)) (b := 26) (by decide)
    have h2 := mod_lt (a := fi + 7 * (j : Int)) (b := 26) (by decide)
    have hi := List.mem_range.mp hi
    have hj := List.mem_range.mp hj
    exact hne (seven (by omega) (by omega) (abcAt_inj h1.1 h1.2 h2.1 h2.2 (word_inj e)))
end
end W
end
section
set_option Elab.async false
set_option linter.all false
set_option maxRecDepth 100000
set_option maxHeartbeats 4000000
open PySem L2 D PyProof.Rows
local macro_rules
  | `(tactic| fail "z") => `(tactic| ((try simp only [List.length_map, List.length_cons, List.length_nil, List.length_append, List.length_drop, List.length_take]); have := big_line; omega))
local macro_rules
  | `(tactic| fail) => `(tactic| first
    | (refine (?_ : SE _ _ _ _ _ _); first | refine se_nm rfl ?_ | refine se_tyTuple (by assumption) ?_ | refine se_tyStr (by assumption) ?_ | refine se_tyInt (by assumption) ?_ | refine se_tyBool (by assumption) ?_ | refine se_int ?_ | refine se_str ?_ | refine se_non ?_ | refine se_bl ?_ | refine se_cmp ?_ | refine se_bin ?_ | refine se_ix ?_ | refine se_slice ?_ | refine se_tup ?_ | refine se_lst ?_ | (refine (?_ : SE _ _ _ _ (.Call _ _ _ _) _); first | refine se_any (by assumption) ?_ | refine se_all (by assumption) ?_ | refine se_len (by assumption) ?_ | refine se_min (by assumption) ?_ | refine se_max (by assumption) ?_ | refine se_sorted (by assumption) ?_ | refine se_isi (by assumption) ?_ | refine se_abs (by assumption) ?_ | refine se_sum (by assumption) ?_ | refine se_tupleC (by assumption) ?_ | refine se_listC (by assumption) ?_) | refine se_M rfl (by assumption) (blkOk_by rfl) ?_ | refine se_F rfl (by assumption) (blkOk_by rfl) ?_ | refine se_Dc rfl (by assumption) (blkOk_by rfl) ?_ | refine se_chain ?_ | refine se_indexN ?_ | refine se_not ?_ | refine se_if ?_ | refine se_one ?_ | refine se_and ?_ | refine se_or ?_ | refine se_neg ?_)
    | (refine (?_ : ST _ _ _ _ _ _); first | refine st_cmp ?_ | refine st_chain ?_ | refine st_not ?_ | refine st_w (sw_and ?_) | refine st_w (sw_or ?_) | refine st_val ?_)
    | (refine (?_ : SWt _ _ _ _ _ _); first | refine sw_and ?_ | refine sw_and1 ?_ | refine sw_or ?_ | refine sw_or1 ?_)
    | (refine (?_ : SA _ _ _ _ _ _); first | refine sa_cons ?_ | refine sa_nil ?_)
    | (refine (?_ : SO _ _ _ _ _ _); first | refine so_none ?_ | refine so_some ?_)
    | (refine (?_ : SS _ _ _ _ _ _); first | refine ss_one ?_ | refine ss_cons ?_)
    | (refine (?_ : S1 _ _ _ _ _ _); first | refine s_ret ?_ | refine s_if ?_ | refine s_M rfl (by assumption) (blkOk_by rfl) ?_ | refine s_F rfl (by assumption) (blkOk_by rfl) ?_ | refine s_Dc rfl (by assumption) (blkOk_by rfl) ?_ | refine s_st (by assumption) ?_ | refine s_aug (by assumption) rfl ?_ | refine s_asg ?_ | refine s_expr ?_)
    | (refine (?_ : SG _ _ _ _ _ _ _); first | refine sg_nm (by assumption) ?_ | refine sg_par rfl ?_ | refine sg_tup rfl ?_)
    | (refine (?_ : SGs _ _ _ _ _ _ _); first | refine sgs_cons ?_ | refine sgs_nil ?_)
    | (refine (?_ : SGb _ _ _ _ _ _ _ _); first | refine sgb_nm (by assumption) ?_ (by first | exact vs_self | exact vs_one | exact vs_two) | refine sgb_par rfl ?_ | refine sgb_tup rfl ?_)
    | (refine (?_ : SGbs _ _ _ _ _ _ _ _); first | refine sgbs_cons ?_ | refine sgbs_nil ?_)
    | (refine (?_ : SW _ _ _ _ _ _ _); first | refine sw_vals ?_ | refine sw_zipT (by assumption) ?_ | refine sw_range (by assumption) ?_ | refine sw_seq ?_)
    | (refine (?_ : OpV _ _ _ _ _ _ _ _); first | refine ov_eqN ?_ | refine ov_neN ?_ | refine ov_inN ?_ | refine ov_ninN ?_ | refine ov_inNT ?_ | refine ov_ninNT ?_ | refine oi_add ?_ | refine oi_catT (by fail "z") ?_ | refine ov_cat (by fail "z") ?_ | refine ov_catT (by fail "z") ?_ | refine ov_add ?_ | refine ov_sub ?_ | refine ov_lt ?_ | refine ov_le ?_ | refine ov_gt ?_ | refine ov_ge ?_ | refine ov_eqI ?_ | refine ov_neI ?_ | refine ov_eqS ?_ | refine ov_neS ?_ | refine ov_eqB ?_ | refine ov_neB ?_)
    | (refine (?_ : IxV _ _ _ _ _ _ _); first | refine iv_cons ?_ | refine iv_consT ?_)
    | (refine (?_ : SlV _ _ _ _ _ _ _ _); first | refine sv_fromL (by decide) ?_ | refine sv_fromT (by decide) ?_ | refine sv_toL (by decide) ?_ | refine sv_toT (by decide) ?_)
    | (refine (?_ : ClV _ _ _ _ _ _ _); first | refine cv_anyM rfl ?_ | refine cv_allM rfl ?_ | refine cv_len rfl ?_ | refine cv_tuple rfl ?_ | refine cv_list rfl ?_ | refine cv_abs ?_ | refine cv_isStr rfl ?_ | refine cv_isTup rfl ?_ | refine cv_isInt rfl ?_ | refine cv_isBool rfl ?_ | refine cv_sum rfl ?_)
    | refine turn0I (fun _ _ _ _ _ _ => ?_) | refine turn1I (fun _ _ _ _ _ _ => ?_) | refine turnDI (fun _ _ _ _ _ _ => ?_) | refine abI (fun _ _ _ _ _ => ?_) | refine iteT ?_ | refine iteF ?_ | refine And.intro (show _ ≤ sizeLine by fail "z") ?_ | refine ⟨_, rfl, ?_⟩)
local macro_rules
  | `(tactic| fail "e") => `(tactic| first
    | (refine (?_ : SE _ _ _ _ _ _); first | refine se_nm rfl ?_ | refine se_tyTuple (by assumption) ?_ | refine se_tyStr (by assumption) ?_ | refine se_tyInt (by assumption) ?_ | refine se_tyBool (by assumption) ?_ | refine se_int ?_ | refine se_str ?_ | refine se_non ?_ | refine se_bl ?_ | refine se_cmp ?_ | refine se_bin ?_ | refine se_ix ?_ | refine se_slice ?_ | refine se_tup ?_ | refine se_lst ?_ | (refine (?_ : SE _ _ _ _ (.Call _ _ _ _) _); first | refine se_any (by assumption) ?_ | refine se_all (by assumption) ?_ | refine se_len (by assumption) ?_ | refine se_min (by assumption) ?_ | refine se_max (by assumption) ?_ | refine se_sorted (by assumption) ?_ | refine se_isi (by assumption) ?_ | refine se_abs (by assumption) ?_ | refine se_sum (by assumption) ?_ | refine se_tupleC (by assumption) ?_ | refine se_listC (by assumption) ?_) | refine se_M rfl (by assumption) (blkOk_by rfl) ?_ | refine se_F rfl (by assumption) (blkOk_by rfl) ?_ | refine se_Dc rfl (by assumption) (blkOk_by rfl) ?_ | refine se_chain ?_ | refine se_indexN ?_ | refine se_not ?_ | refine se_if ?_ | refine se_one ?_ | refine se_and ?_ | refine se_or ?_ | refine se_neg ?_)
    | (refine (?_ : ST _ _ _ _ _ _); first | refine st_cmp ?_ | refine st_chain ?_ | refine st_not ?_ | refine st_w (sw_and ?_) | refine st_w (sw_or ?_) | refine st_val ?_)
    | (refine (?_ : SWt _ _ _ _ _ _); first | refine sw_and ?_ | refine sw_and1 ?_ | refine sw_or ?_ | refine sw_or1 ?_)
    | (refine (?_ : SA _ _ _ _ _ _); first | refine sa_cons ?_ | refine sa_nil ?_)
    | (refine (?_ : SO _ _ _ _ _ _); first | refine so_none ?_ | refine so_some ?_)
    | (refine (?_ : SG _ _ _ _ _ _ _); first | refine sg_nm (by assumption) ?_ | refine sg_par rfl ?_ | refine sg_tup rfl ?_)
    | (refine (?_ : SGs _ _ _ _ _ _ _); first | refine sgs_cons ?_ | refine sgs_nil ?_)
    | (refine (?_ : SGb _ _ _ _ _ _ _ _); first | refine sgb_nm (by assumption) ?_ (by first | exact vs_self | exact vs_one | exact vs_two) | refine sgb_par rfl ?_ | refine sgb_tup rfl ?_)
    | (refine (?_ : SGbs _ _ _ _ _ _ _ _); first | refine sgbs_cons ?_ | refine sgbs_nil ?_)
    | (refine (?_ : SW _ _ _ _ _ _ _); first | refine sw_vals ?_ | refine sw_zipT (by assumption) ?_ | refine sw_range (by assumption) ?_ | refine sw_seq ?_)
    | (refine (?_ : OpV _ _ _ _ _ _ _ _); first | refine ov_eqN ?_ | refine ov_neN ?_ | refine ov_inN ?_ | refine ov_ninN ?_ | refine ov_inNT ?_ | refine ov_ninNT ?_ | refine oi_add ?_ | refine oi_catT (by fail "z") ?_ | refine ov_cat (by fail "z") ?_ | refine ov_catT (by fail "z") ?_ | refine ov_add ?_ | refine ov_sub ?_ | refine ov_lt ?_ | refine ov_le ?_ | refine ov_gt ?_ | refine ov_ge ?_ | refine ov_eqI ?_ | refine ov_neI ?_ | refine ov_eqS ?_ | refine ov_neS ?_ | refine ov_eqB ?_ | refine ov_neB ?_)
    | (refine (?_ : IxV _ _ _ _ _ _ _); first | refine iv_cons ?_ | refine iv_consT ?_)
    | (refine (?_ : SlV _ _ _ _ _ _ _ _); first | refine sv_fromL (by decide) ?_ | refine sv_fromT (by decide) ?_ | refine sv_toL (by decide) ?_ | refine sv_toT (by decide) ?_)
    | (refine (?_ : ClV _ _ _ _ _ _ _); first | refine cv_anyM rfl ?_ | refine cv_allM rfl ?_ | refine cv_len rfl ?_ | refine cv_tuple rfl ?_ | refine cv_list rfl ?_ | refine cv_abs ?_ | refine cv_isStr rfl ?_ | refine cv_isTup rfl ?_ | refine cv_isInt rfl ?_ | refine cv_isBool rfl ?_ | refine cv_sum rfl ?_)
    | refine turn0I (fun _ _ _ _ _ _ => ?_) | refine turn1I (fun _ _ _ _ _ _ => ?_) | refine turnDI (fun _ _ _ _ _ _ => ?_) | refine abI (fun _ _ _ _ _ => ?_) | refine iteT ?_ | refine iteF ?_ | refine And.intro (show _ ≤ sizeLine by fail "z") ?_ | refine ⟨_, rfl, ?_⟩)
namespace W
open PySem L2 D PyProof.Rows
theorem erase_perm {α : Type} : ∀ {l : List α} {k : Nat} (h : k < l.length), l.Perm (l[k] :: l.eraseIdx k)
  | x :: l, 0, _ => .refl _
  | x :: l, k + 1, h => by
    have := erase_perm (l := l) (k := k) (by simpa using h)
    exact (List.Perm.cons x this).trans (List.Perm.swap ..)
theorem erase_map {α β : Type} (f : α → β) : ∀ (l : List α) (k : Nat), (l.map f).eraseIdx k = (l.eraseIdx k).map f
  | [], k => by simp
  | x :: l, 0 => rfl
  | x :: l, k + 1 => by simp [erase_map f l k]
section
variable {P : Program} {w : World} {K : PySem.W.Frag} {mg : Str → Option Value} {base : Heap}
abbrev sp_some (K : PySem.W.Frag) : Sp := spB K (fun x : List Nm × Int => [nL x.1, .int x.2]) (fun x => x.1.Nodup ∧ x.1.length ≤ 100 ∧ 0 ≤ x.2 ∧ x.2 ≤ 100) (fun x => x.2.toNat + 1) (fun x z => ∃ r : List Nm, z = nT r ∧ r.Nodup ∧ (∀ y ∈ r, y ∈ x.1) ∧ (r.length : Int) ≤ x.2)
theorem ok_some {f : Addr} {fd : FuncData} (Fu : Fun K "_law_some" "_law_some" s__law_some f fd) (T : Txt mg) (Dt' : D_take P w K mg base) : FnOk P w K mg base (L2.CX P w) 2 f fd ["_law_bag_here", "_law_things", "_law_most"] (sp_some K) := by
  refine fn_B Fu sc__law_some (fun a => rfl) (fun cdv A outer s H E F b c x hp hc hr => ?_)
  obtain ⟨l, mo⟩ := x
  obtain ⟨hnd, hl, hm0, hm1⟩ := (show l.Nodup ∧ l.length ≤ 100 ∧ 0 ≤ mo ∧ mo ≤ 100 from hp)
  have hc : c + (mo.toNat + 1) ≤ LIM := hc
  have nd := sc__law_some.nd
  have hrg := T.range
  have hmin := T.min
  have hlen := T.len
  have hlist := T.list
  have htup := T.tuple
  refine ss_cons (s_par 3 4 rfl nd (by decide) (sa_cons (SEL.sc (sel_list hlist ?_))))
  repeat fail "e"
  intro al
  refine sa_cons (SEL.sc (sel_lst ?_))
  repeat fail "e"
  intro af
  repeat fail "e"
  refine ⟨_, _, rfl, ?_⟩
  refine ss_cons (s_for (passes_of rfl) rfl (sw_range hrg ?_))
  repeat fail "e"
  refine se_fB 0 Dt' hr ?_
  repeat fail "e"
  refine ⟨b, c, mo + 1, rfl, rfl, ⟨by omega, by omega⟩, by show c + 1 ≤ LIM; omega, ?_⟩
  rintro _ ⟨k, rfl, hk0, hk1⟩
  repeat fail "e"
  refine cv_lenC 1 rfl ?_
  repeat fail "e"
  refine cv_min2 rfl ?_
  repeat fail "e"
  rw [List.length_map]
  obtain ⟨m, hmdef⟩ : ∃ m : Nat, (m : Int) = if (l.length : Int) < k then (l.length : Int) else k := ⟨(if (l.length : Int) < k then (l.length : Int) else k).toNat, by split <;> omega⟩
  have hmk : (m : Int) ≤ k ∧ m ≤ l.length := by split at hmdef <;> omega
  rw [← hmdef]
  refine ⟨by omega, by omega, ?_⟩
  rw [Int.toNat_natCast, idxs_eq]
  refine for_t (fun rest Γ cc => ∃ u, Γ = [.dat (.raw (.ref b)), .dat (nL l), .dat (.int mo), .dat (.raw (.ref al)), .dat (.raw (.ref af)), u] ∧ ∃ n' l' r, cc = [(b, .bag n'), (al, .lst (l'.map nD)), (af, .lst (r.map nD))] ∧ n' ≤ c + 1 + r.length ∧ r.length + rest.length = m ∧ l'.length + r.length = l.length ∧ (l' ++ r).Nodup ∧ ∀ y ∈ l' ++ r, y ∈ l)
    ⟨_, rfl, c + 1, l, [], rfl, Nat.le_refl _, by simp, rfl, by simpa using hnd, by simp⟩ ?_ ?_
  · rintro pre i rest Γ cc hpre ⟨u, rfl, n', l', r, rfl, hn', hrl, hll, hnd', hmem⟩
    rw [List.length_cons] at hrl
    have hl'0 : 0 < l'.length := by omega
    repeat fail
    refine se_append 2 (l := r.map nD) (a := af) ?_
    repeat fail "e"
    refine ⟨rfl, ⟨_, rfl⟩, ?_⟩
    refine se_popAt ?_
    repeat fail "e"
    refine ⟨al, 1, _, rfl, rfl, ?_⟩
    refine se_fB 0 Dt' hr ?_
    repeat fail "e"
    refine cv_lenC 1 rfl ?_
    repeat fail "e"
    refine ⟨b, n', (l'.map nD).length, rfl, rfl, ⟨by rw [List.length_map]; omega, by rw [List.length_map]; omega⟩, by show n' + 1 ≤ LIM; omega, ?_⟩
    rintro _ ⟨k', rfl, hk0', hk1'⟩
    rw [List.length_map] at hk1'
    have hkl : k'.toNat < l'.length := by omega
    refine ⟨l'.map nD, k', k'.toNat, nD l'[k'.toNat], rfl, rfl, ?_, by omega, by omega, ?_, ?_⟩
    · unfold L2.ixN; rw [if_pos hk0', List.length_map, if_pos hk1']
    · rw [List.getElem?_map, List.getElem?_eq_getElem hkl]; rfl
    refine ⟨rfl, ?_, ?_⟩
    · rw [List.length_map]; have := big_line; omega
    have hperm : (l'.eraseIdx k'.toNat ++ (r ++ [l'[k'.toNat]])).Perm (l' ++ r) := by
      have h1 : l'.Perm (l'[k'.toNat] :: l'.eraseIdx k'.toNat) := erase_perm hkl
      have h2 : (l'.eraseIdx k'.toNat ++ (r ++ [l'[k'.toNat]])).Perm (l'[k'.toNat] :: (l'.eraseIdx k'.toNat ++ r)) := by
        rw [← List.append_assoc]; exact List.perm_append_singleton _ _
      exact h2.trans (List.Perm.append_right r h1.symm)
    refine ⟨_, rfl, n' + 1, l'.eraseIdx k'.toNat, r ++ [l'[k'.toNat]], ?_, ?_, ?_, ?_, hperm.nodup_iff.mpr hnd', fun y hy => hmem y (hperm.mem_iff.mp hy)⟩
    · rw [List.map_append]
      have : (l'.map nD).eraseIdx k'.toNat = (l'.eraseIdx k'.toNat).map nD := erase_map nD l' _
      show [(b, Cel.bag (n' + 1)), (al, Cel.lst ((l'.map nD).eraseIdx k'.toNat)), (af, Cel.lst (r.map nD ++ [nD l'[k'.toNat]]))] = _
      rw [this]; rfl
    · rw [List.length_append]; show _ ≤ c + 1 + (r.length + 1); omega
    · rw [List.length_append]; show r.length + 1 + _ = m; omega
    · rw [List.length_append, List.length_eraseIdx_of_lt hkl]; show l'.length - 1 + (r.length + 1) = _; omega
  · rintro Γ cc ⟨u, rfl, n', l', r, rfl, hn', hrl, hll, hnd', hmem⟩
    refine ss_freeze 4 2 rfl rfl ?_
    refine ss_dropC 1 rfl ?_
    repeat fail
    refine ⟨⟨n', by show n' ≤ c + (mo.toNat + 1); simp at hrl; omega, rfl⟩, r, rfl, (List.nodup_append.mp hnd').2.1, fun y hy => hmem y (List.mem_append_right _ hy), ?_⟩
    show (r.length : Int) ≤ mo
    simp at hrl; omega
end
end W
end
section
set_option Elab.async false
set_option linter.all false
set_option maxRecDepth 100000
set_option maxHeartbeats 4000000
open PySem L2 D PyProof.Rows
local macro_rules
  | `(tactic| fail "z") => `(tactic| ((try simp only [List.length_map, List.length_cons, List.length_nil, List.length_append, List.length_drop, List.length_take]); have := big_line; omega))
local macro_rules
  | `(tactic| fail) => `(tactic| first
    | (refine (?_ : SE _ _ _ _ _ _); first | refine se_nm rfl ?_ | refine se_tyTuple (by assumption) ?_ | refine se_tyStr (by assumption) ?_ | refine se_tyInt (by assumption) ?_ | refine se_tyBool (by assumption) ?_ | refine se_int ?_ | refine se_str ?_ | refine se_non ?_ | refine se_bl ?_ | refine se_cmp ?_ | refine se_bin ?_ | refine se_ix ?_ | refine se_slice ?_ | refine se_tup ?_ | refine se_lst ?_ | (refine (?_ : SE _ _ _ _ (.Call _ _ _ _) _); first | refine se_any (by assumption) ?_ | refine se_all (by assumption) ?_ | refine se_len (by assumption) ?_ | refine se_min (by assumption) ?_ | refine se_max (by assumption) ?_ | refine se_sorted (by assumption) ?_ | refine se_isi (by assumption) ?_ | refine se_abs (by assumption) ?_ | refine se_sum (by assumption) ?_ | refine se_tupleC (by assumption) ?_ | refine se_listC (by assumption) ?_) | refine se_M rfl (by assumption) (blkOk_by rfl) ?_ | refine se_F rfl (by assumption) (blkOk_by rfl) ?_ | refine se_Dc rfl (by assumption) (blkOk_by rfl) ?_ | refine se_chain ?_ | refine se_indexN ?_ | refine se_not ?_ | refine se_if ?_ | refine se_one ?_ | refine se_and ?_ | refine se_or ?_ | refine se_neg ?_)
    | (refine (?_ : ST _ _ _ _ _ _); first | refine st_cmp ?_ | refine st_chain ?_ | refine st_not ?_ | refine st_w (sw_and ?_) | refine st_w (sw_or ?_) | refine st_val ?_)
    | (refine (?_ : SWt _ _ _ _ _ _); first | refine sw_and ?_ | refine sw_and1 ?_ | refine sw_or ?_ | refine sw_or1 ?_)
    | (refine (?_ : SA _ _ _ _ _ _); first | refine sa_cons ?_ | refine sa_nil ?_)
    | (refine (?_ : SO _ _ _ _ _ _); first | refine so_none ?_ | refine so_some ?_)
    | (refine (?_ : SS _ _ _ _ _ _); first | refine ss_one ?_ | refine ss_cons ?_)
    | (refine (?_ : S1 _ _ _ _ _ _); first | refine s_ret ?_ | refine s_if ?_ | refine s_M rfl (by assumption) (blkOk_by rfl) ?_ | refine s_F rfl (by assumption) (blkOk_by rfl) ?_ | refine s_Dc rfl (by assumption) (blkOk_by rfl) ?_ | refine s_st (by assumption) ?_ | refine s_aug (by assumption) rfl ?_ | refine s_asg ?_ | refine s_expr ?_)
    | (refine (?_ : SG _ _ _ _ _ _ _); first | refine sg_nm (by assumption) ?_ | refine sg_par rfl ?_ | refine sg_tup rfl ?_)
    | (refine (?_ : SGs _ _ _ _ _ _ _); first | refine sgs_cons ?_ | refine sgs_nil ?_)
    | (refine (?_ : SGb _ _ _ _ _ _ _ _); first | refine sgb_nm (by assumption) ?_ (by first | exact vs_self | exact vs_one | exact vs_two) | refine sgb_par rfl ?_ | refine sgb_tup rfl ?_)
    | (refine (?_ : SGbs _ _ _ _ _ _ _ _); first | refine sgbs_cons ?_ | refine sgbs_nil ?_)
    | (refine (?_ : SW _ _ _ _ _ _ _); first | refine sw_vals ?_ | refine sw_zipT (by assumption) ?_ | refine sw_range (by assumption) ?_ | refine sw_seq ?_)
    | (refine (?_ : OpV _ _ _ _ _ _ _ _); first | refine ov_eqN ?_ | refine ov_neN ?_ | refine ov_inN ?_ | refine ov_ninN ?_ | refine ov_inNT ?_ | refine ov_ninNT ?_ | refine oi_add ?_ | refine oi_catT (by fail "z") ?_ | refine ov_cat (by fail "z") ?_ | refine ov_catT (by fail "z") ?_ | refine ov_add ?_ | refine ov_sub ?_ | refine ov_lt ?_ | refine ov_le ?_ | refine ov_gt ?_ | refine ov_ge ?_ | refine ov_eqI ?_ | refine ov_neI ?_ | refine ov_eqS ?_ | refine ov_neS ?_ | refine ov_eqB ?_ | refine ov_neB ?_)
    | (refine (?_ : IxV _ _ _ _ _ _ _); first | refine iv_cons ?_ | refine iv_consT ?_)
    | (refine (?_ : SlV _ _ _ _ _ _ _ _); first | refine sv_fromL (by decide) ?_ | refine sv_fromT (by decide) ?_ | refine sv_toL (by decide) ?_ | refine sv_toT (by decide) ?_)
    | (refine (?_ : ClV _ _ _ _ _ _ _); first | refine cv_anyM rfl ?_ | refine cv_allM rfl ?_ | refine cv_len rfl ?_ | refine cv_tuple rfl ?_ | refine cv_list rfl ?_ | refine cv_abs ?_ | refine cv_isStr rfl ?_ | refine cv_isTup rfl ?_ | refine cv_isInt rfl ?_ | refine cv_isBool rfl ?_ | refine cv_sum rfl ?_)
    | refine turn0I (fun _ _ _ _ _ _ => ?_) | refine turn1I (fun _ _ _ _ _ _ => ?_) | refine turnDI (fun _ _ _ _ _ _ => ?_) | refine abI (fun _ _ _ _ _ => ?_) | refine iteT ?_ | refine iteF ?_ | refine And.intro (show _ ≤ sizeLine by fail "z") ?_ | refine ⟨_, rfl, ?_⟩)
local macro_rules
  | `(tactic| fail "e") => `(tactic| first
    | (refine (?_ : SE _ _ _ _ _ _); first | refine se_nm rfl ?_ | refine se_tyTuple (by assumption) ?_ | refine se_tyStr (by assumption) ?_ | refine se_tyInt (by assumption) ?_ | refine se_tyBool (by assumption) ?_ | refine se_int ?_ | refine se_str ?_ | refine se_non ?_ | refine se_bl ?_ | refine se_cmp ?_ | refine se_bin ?_ | refine se_ix ?_ | refine se_slice ?_ | refine se_tup ?_ | refine se_lst ?_ | (refine (?_ : SE _ _ _ _ (.Call _ _ _ _) _); first | refine se_any (by assumption) ?_ | refine se_all (by assumption) ?_ | refine se_len (by assumption) ?_ | refine se_min (by assumption) ?_ | refine se_max (by assumption) ?_ | refine se_sorted (by assumption) ?_ | refine se_isi (by assumption) ?_ | refine se_abs (by assumption) ?_ | refine se_sum (by assumption) ?_ | refine se_tupleC (by assumption) ?_ | refine se_listC (by assumption) ?_) | refine se_M rfl (by assumption) (blkOk_by rfl) ?_ | refine se_F rfl (by assumption) (blkOk_by rfl) ?_ | refine se_Dc rfl (by assumption) (blkOk_by rfl) ?_ | refine se_chain ?_ | refine se_indexN ?_ | refine se_not ?_ | refine se_if ?_ | refine se_one ?_ | refine se_and ?_ | refine se_or ?_ | refine se_neg ?_)
    | (refine (?_ : ST _ _ _ _ _ _); first | refine st_cmp ?_ | refine st_chain ?_ | refine st_not ?_ | refine st_w (sw_and ?_) | refine st_w (sw_or ?_) | refine st_val ?_)
    | (refine (?_ : SWt _ _ _ _ _ _); first | refine sw_and ?_ | refine sw_and1 ?_ | refine sw_or ?_ | refine sw_or1 ?_)
    | (refine (?_ : SA _ _ _ _ _ _); first | refine sa_cons ?_ | refine sa_nil ?_)
    | (refine (?_ : SO _ _ _ _ _ _); first | refine so_none ?_ | refine so_some ?_)
    | (refine (?_ : SG _ _ _ _ _ _ _); first | refine sg_nm (by assumption) ?_ | refine sg_par rfl ?_ | refine sg_tup rfl ?_)
    | (refine (?_ : SGs _ _ _ _ _ _ _); first | refine sgs_cons ?_ | refine sgs_nil ?_)
    | (refine (?_ : SGb _ _ _ _ _ _ _ _); first | refine sgb_nm (by assumption) ?_ (by first | exact vs_self | exact vs_one | exact vs_two) | refine sgb_par rfl ?_ | refine sgb_tup rfl ?_)
    | (refine (?_ : SGbs _ _ _ _ _ _ _ _); first | refine sgbs_cons ?_ | refine sgbs_nil ?_)
    | (refine (?_ : SW _ _ _ _ _ _ _); first | refine sw_vals ?_ | refine sw_zipT (by assumption) ?_ | refine sw_range (by assumption) ?_ | refine sw_seq ?_)
    | (refine (?_ : OpV _ _ _ _ _ _ _ _); first | refine ov_eqN ?_ | refine ov_neN ?_ | refine ov_inN ?_ | refine ov_ninN ?_ | refine ov_inNT ?_ | refine ov_ninNT ?_ | refine oi_add ?_ | refine oi_catT (by fail "z") ?_ | refine ov_cat (by fail "z") ?_ | refine ov_catT (by fail "z") ?_ | refine ov_add ?_ | refine ov_sub ?_ | refine ov_lt ?_ | refine ov_le ?_ | refine ov_gt ?_ | refine ov_ge ?_ | refine ov_eqI ?_ | refine ov_neI ?_ | refine ov_eqS ?_ | refine ov_neS ?_ | refine ov_eqB ?_ | refine ov_neB ?_)
    | (refine (?_ : IxV _ _ _ _ _ _ _); first | refine iv_cons ?_ | refine iv_consT ?_)
    | (refine (?_ : SlV _ _ _ _ _ _ _ _); first | refine sv_fromL (by decide) ?_ | refine sv_fromT (by decide) ?_ | refine sv_toL (by decide) ?_ | refine sv_toT (by decide) ?_)
    | (refine (?_ : ClV _ _ _ _ _ _ _); first | refine cv_anyM rfl ?_ | refine cv_allM rfl ?_ | refine cv_len rfl ?_ | refine cv_tuple rfl ?_ | refine cv_list rfl ?_ | refine cv_abs ?_ | refine cv_isStr rfl ?_ | refine cv_isTup rfl ?_ | refine cv_isInt rfl ?_ | refine cv_isBool rfl ?_ | refine cv_sum rfl ?_)
    | refine turn0I (fun _ _ _ _ _ _ => ?_) | refine turn1I (fun _ _ _ _ _ _ => ?_) | refine turnDI (fun _ _ _ _ _ _ => ?_) | refine abI (fun _ _ _ _ _ => ?_) | refine iteT ?_ | refine iteF ?_ | refine And.intro (show _ ≤ sizeLine by fail "z") ?_ | refine ⟨_, rfl, ?_⟩)
namespace W
open PySem L2 D PyProof.Rows
def freeOf (R : List (List Nm)) : List Nm := R.flatten.filter fun x => freeIn R x
def openF : Nat → List (List Nm) → Bool
  | 0, _ => false
  | n + 1, R => if (freeOf R).isEmpty = true then R.flatten.isEmpty else openF n (R.map fun r => r.filter fun x => !decide (x ∈ freeOf R))
def openB (L : List (List Nm)) : Bool := openF (total L + 1) L
theorem flat_len2 {R : List (List Nm)} (h : RowsOk R) : R.flatten.length ≤ 10000 := by
  have := total_ok h
  rw [List.length_flatten]; exact this
section
variable {P : Program} {w : World} {K : PySem.W.Frag} {mg : Str → Option Value} {base : Heap}
abbrev lltD (L : List (List Nm)) : Dt := .lst (L.map nT)
abbrev sp_open (K : PySem.W.Frag) : Sp := spP K (fun L : List (List Nm) => [lltD L]) RowsOk (fun L z => z = .bl (openB L))
theorem ok_open {f : Addr} {fd : FuncData} (Fu : Fun K "_law_open" "_law_open" s__law_open f fd) (T : Txt mg) : FnOk P w K mg base (L2.CX P w) 1 f fd ["_law_lists"] (sp_open K) := by
  refine fn_P Fu sc__law_open (fun a => rfl) (fun cdv A outer s H E F L hp hr => ?_)
  have nd := sc__law_open.nd
  have hrg := T.range
  have hlist := T.list
  have hany := T.any
  have hsum := T.sum
  have hlen := T.len
  have hok := hp
  obtain ⟨hp1, hp2⟩ := hp
  have htot := total_ok hok
  repeat fail
  apply lcM
  · fail "z"
  · intro r hr'
    repeat fail "e"
    exact ⟨rfl, rfl⟩
  repeat fail
  refine s_for (passes_of rfl) rfl (sw_range hrg ?_)
  repeat fail "e"
  refine lcM (fun r => .int (r.length : Int)) ?_ ?_ ?_
  · fail "z"
  · intro r hr'
    repeat fail "e"
    exact ⟨rfl, by rw [List.length_map]⟩
  repeat fail "e"
  rw [show (L.map fun r : List Nm => Dt.int (r.length : Int)) = (L.map fun r : List Nm => (r.length : Int)).map Dt.int by rw [List.map_map]; rfl]
  repeat fail "e"
  have hsumeq : (L.map fun r : List Nm => (r.length : Int)).sum = (total L : Int) := by
    clear hok hp1 hp2 htot
    induction L with
    | nil => rfl
    | cons r L ih => rw [List.map_cons, List.sum_cons, ih]; show _ = ((r.length + total L : Nat) : Int); omega
  rw [hsumeq]
  refine ⟨by omega, by omega, ?_⟩
  rw [show ((total L : Int) + 1).toNat = total L + 1 by omega, idxs_eq]
  refine for_t (fun rest Γ c => ∃ d1 u2 u3 u4 u5 u6, (Γ = [.dat (lltD L), .dat d1, u2, u3, u4, u5, u6] ∧ c = []) ∧ ∃ R, d1 = rowsD R ∧ RowsOk R ∧ openF rest.length R = openB L) ⟨_, _, _, _, _, _, ⟨rfl, rfl⟩, L, rfl, hok, by rw [List.length_range]; rfl⟩ ?_ ?_
  · rintro pre i rest Γ c hl ⟨_, u2, u3, u4, u5, u6, ⟨rfl, rfl⟩, R, rfl, hR, ho⟩
    rw [List.length_cons] at ho
    unfold openF at ho
    have hR1 := hR.1
    have hfl := flat_len2 hR
    repeat fail
    refine s_for (passes_of rfl) rfl ?_
    repeat fail "e"
    refine for_t (fun left Γ c => ∃ d3 u4, (Γ = [.dat (lltD L), .dat (rowsD R), .dat (.int (i : Int)), .dat d3, u4, u5, u6] ∧ c = []) ∧ ∃ acc, d3 = nL acc ∧ acc ++ left.flatten = R.flatten) ⟨_, _, ⟨rfl, rfl⟩, [], rfl, rfl⟩ ?_ ?_
    · rintro pre' r left Γ c hl' ⟨_, u4, ⟨rfl, rfl⟩, acc, rfl, hacc⟩
      have hlen2 := congrArg List.length hacc
      rw [List.length_append, List.flatten_cons, List.length_append] at hlen2
      repeat fail
      refine ⟨_, _, ⟨rfl, rfl⟩, acc ++ r, by rw [nL, List.map_append], by rw [List.append_assoc]; exact hacc⟩
    · rintro Γ c ⟨_, u4, ⟨rfl, rfl⟩, acc, rfl, hacc⟩
      rw [List.flatten_nil, List.append_nil] at hacc
      subst hacc
      repeat fail
      refine lcF (fun x => freeIn R x) nD ?_ ?_ ?_
      · fail "z"
      · intro x hx
        repeat fail "e"
        refine lcM (fun r => .bl (decide (x ∈ r.drop 1))) ?_ ?_ ?_
        · fail "z"
        · intro r hr'
          repeat fail "e"
          exact ⟨rfl, rfl⟩
        repeat fail "e"
        refine filt_end (fun h => ?_) (fun h => ?_)
        · repeat fail "e"
          exact ⟨h, rfl, rfl⟩
        · exact ⟨rfl, h⟩
      repeat fail
      refine ov_eqNil hr.units (fit_nL (freeOf R)) ?_
      repeat fail
      refine ite2 (fun h => ?_) (fun h => ?_)
      · rw [if_pos (show (freeOf R).isEmpty = true from h)] at ho
        repeat fail
        refine ov_eqNil hr.units (fit_nL R.flatten) ?_
        exact ⟨rfl, by rw [← ho]⟩
      · rw [if_neg (show ¬ (freeOf R).isEmpty = true from h)] at ho
        refine ss_nil ?_
        repeat fail
        refine lcM (fun r => nL (r.filter fun x => !decide (x ∈ freeOf R))) ?_ ?_ ?_
        · fail "z"
        · intro r hr'
          have := hR.2 r hr'
          repeat fail "e"
          refine lcF (fun x => !decide (x ∈ freeOf R)) nD ?_ ?_ ?_
          · fail "z"
          · intro x hx
            repeat fail "e"
            refine filt_end (fun h => ?_) (fun h => ?_)
            · repeat fail "e"
              exact ⟨h, rfl, rfl⟩
            · exact ⟨rfl, h⟩
          repeat fail "e"
          exact ⟨rfl, rfl⟩
        refine ⟨_, _, _, _, _, _, ⟨rfl, rfl⟩, R.map fun r => r.filter fun x => !decide (x ∈ freeOf R), by rw [rowsD, List.map_map]; rfl, ⟨by rw [List.length_map]; exact hR.1, fun r hr' => ?_⟩, ho⟩
        obtain ⟨r', h1, rfl⟩ := List.mem_map.mp hr'
        exact Nat.le_trans (List.length_filter_le _ _) (hR.2 r' h1)
  · rintro Γ c ⟨_, u2, u3, u4, u5, u6, ⟨rfl, rfl⟩, R, rfl, hR, ho⟩
    repeat fail
    exact ⟨rfl, by rw [← ho]; rfl⟩
def toldD (L : List (List Nm)) : Dt := match merge L with
  | some m => .tup [.str "merge", nT m]
  | none => .tup [.str "ring", roadD (leastRing L)]
abbrev D_merged (P : Program) (w : World) (K : PySem.W.Frag) (mg : Str → Option Value) (base : Heap) (C : Addr) : Prop := DefOk P w K mg base 5 "merged" ["lists"] (sp_merged K C)
abbrev sp_told (K : PySem.W.Frag) : Sp := spP K (fun L : List (List Nm) => [lisD L]) MOk (fun L d => d = toldD L)
theorem ok_told {f C : Addr} {fd : FuncData} (Fu : Fun K "_law_told" "_law_told" s__law_told f fd) (TE : ExC P w K mg base C "NoMerge" "ring" anyD) (Dm : D_merged P w K mg base C) : FnOk P w K mg base (L2.CX P w) 6 f fd ["_law_lists"] (sp_told K) := by
  refine fn_P Fu sc__law_told (fun a => rfl) (fun cdv A outer s H E0 F L hp hr => ?_)
  have nd := sc__law_told.nd
  refine ss_one (s_try 1 (fun Γ1 c1 d => Γ1 = startP n__law_told [lisD L] ∧ c1 = [] ∧ merge L = none ∧ d = roadD (leastRing L)) TE nd ?_ ?_)
  · intro F' pn xe xt
    repeat fail
    refine se_fG Dm hr xt ?_
    repeat fail "e"
    refine ⟨L, [], [], rfl, rfl, hp, ?_, ?_⟩
    · rintro c' d ⟨rfl, m, hm, rfl⟩
      repeat fail "e"
      exact ⟨rfl, by unfold toldD; rw [hm]⟩
    · rintro c' y ⟨rfl, hm, rfl⟩
      exact ⟨_, rfl, rfl, rfl, hm, rfl⟩
  · rintro F' Γ1 a oe pn dd d c1 ⟨rfl, rfl, hm, rfl⟩ hz hf
    refine ss_one (s_ret (se_tup (sa_cons (se_str (sa_cons (se_xf 1 TE.xf TE.nof hz hf rfl rfl (sa_nil ?_)))))))
    repeat fail "e"
    exact ⟨rfl, by unfold toldD; rw [hm]⟩
theorem eqv_names : ∀ a b : List Nm, PyData.eqvAll (pys (a.map nD)) (pys (b.map nD)) = decide (a = b)
  | [], [] => rfl
  | [], _ :: _ => rfl
  | _ :: _, [] => rfl
  | x :: a, y :: b => by
    show (PyData.eqv (.str x.1) (.str y.1) && PyData.eqvAll (pys (a.map nD)) (pys (b.map nD))) = _
    rw [eqv_names a b]
    have h : PyData.eqv (.str x.1) (.str y.1) = decide (x = y) := by
      rw [← nm_eq x y]
      by_cases e : x.1 = y.1
      · rw [e]; simp [PyData.eqv]
      · have : ¬ x.1.cps.toList = y.1.cps.toList := fun z => e (str_ext z)
        simp [PyData.eqv, e, this]
    rw [h]
    by_cases e1 : x = y <;> by_cases e2 : a = b <;> simp [e1, e2]
theorem eqd_nT (a b : List Nm) : eqd (nT a) (nT b) = decide (a = b) := eqv_names a b
theorem eqd_nL (a b : List Nm) : eqd (nL a) (nL b) = decide (a = b) := eqv_names a b
def keepsB (m r : List Nm) : Bool := decide ((m.filter fun x => decide (x ∈ r)) = r)
abbrev sp_keeps (K : PySem.W.Frag) : Sp := spP K (fun x : List Nm × List Nm => [nT x.1, nT x.2]) (fun x => x.1.length ≤ 10000) (fun x d => d = .bl (keepsB x.1 x.2))
theorem ok_keeps {f : Addr} {fd : FuncData} (Fu : Fun K "_law_keeps" "_law_keeps" s__law_keeps f fd) (T : Txt mg) : FnOk P w K mg base (L2.CX P w) 1 f fd ["_law_whole", "_law_row"] (sp_keeps K) := by
  refine fn_P Fu sc__law_keeps (fun a => rfl) (fun cdv A outer s H E0 F x hp hr => ?_)
  obtain ⟨m, r⟩ := x
  have hm : m.length ≤ 10000 := hp
  have nd := sc__law_keeps.nd
  have htup := T.tuple
  repeat fail
  refine lcF (fun x => decide (x ∈ r)) nD ?_ ?_ ?_
  · fail "z"
  · intro x hx
    repeat fail "e"
    refine filt_end (fun h => ?_) (fun h => ?_)
    · repeat fail "e"
      exact ⟨h, rfl, rfl⟩
    · exact ⟨rfl, h⟩
  repeat fail
  refine ov_eqD hr.units (fit_nT _) (fit_nT _) ?_
  rw [eqd_nT]
  exact ⟨rfl, rfl⟩
end
end W
end
section
set_option Elab.async false
set_option linter.all false
namespace W
open PySem L2 D PyProof.Rows
def Ranked (R : List (List Nm)) (f : Nm → Nat) : Prop := ∀ r ∈ R, r.Pairwise fun a b => f a < f b
abbrev Rows1 (R : List (List Nm)) : Prop := ∀ r ∈ R, r.Nodup
theorem least_by (f : Nm → Nat) : ∀ {l : List Nm}, l ≠ [] → ∃ x ∈ l, ∀ y ∈ l, f x ≤ f y
  | [x], _ => ⟨x, List.mem_singleton.mpr rfl, fun y hy => by rw [List.mem_singleton.mp hy]; exact Nat.le_refl _⟩
  | x :: y :: l, _ => by
    obtain ⟨z, hz, h⟩ := least_by f (l := y :: l) (List.cons_ne_nil _ _)
    by_cases e : f x ≤ f z
    · refine ⟨x, List.mem_cons_self .., fun u hu => ?_⟩
      rcases List.mem_cons.mp hu with q | q
      · rw [q]; exact Nat.le_refl _
      · exact Nat.le_trans e (h u q)
    · refine ⟨z, List.mem_cons_of_mem _ hz, fun u hu => ?_⟩
      rcases List.mem_cons.mp hu with q | q
      · rw [q]; omega
      · exact h u q
theorem freeIn_iff {R : List (List Nm)} {x : Nm} : freeIn R x = true ↔ ∀ o ∈ R, x ∉ o.drop 1 := by
  unfold freeIn
  rw [Bool.not_eq_true', List.any_eq_false]
  constructor
  · intro h o ho; have := h o ho; simpa using this
  · intro h o ho; have := h o ho; simpa using this
theorem any_ne {R : List (List Nm)} : (R.any fun r => !r.isEmpty) = true ↔ R.flatten ≠ [] := by
  rw [List.any_eq_true]
  constructor
  · rintro ⟨r, hr, h⟩ z
    cases r with
    | nil => simp at h
    | cons x r =>
      have : x ∈ R.flatten := List.mem_flatten.mpr ⟨_, hr, List.mem_cons_self ..⟩
      rw [z] at this; cases this
  · intro h
    obtain ⟨x, hx⟩ := List.exists_mem_of_ne_nil _ h
    obtain ⟨r, hr, hx⟩ := List.mem_flatten.mp hx
    refine ⟨r, hr, ?_⟩
    cases r with
    | nil => cases hx
    | cons y r => rfl
/-- the least name is at the head of its rows, and free -/
theorem ranked_free {R : List (List Nm)} {f : Nm → Nat} (h : Ranked R f) (hne : R.flatten ≠ []) : ∃ x r, (x :: r) ∈ R ∧ freeIn R x = true := by
  obtain ⟨x, hx, hmin⟩ := least_by f hne
  have hno : ∀ o ∈ R, x ∉ o.drop 1 := fun o ho hxo => by
    cases o with
    | nil => cases hxo
    | cons y o =>
      have h1 := (List.pairwise_cons.mp (h _ ho)).1 x hxo
      have h2 := hmin y (List.mem_flatten.mpr ⟨_, ho, List.mem_cons_self ..⟩)
      omega
  obtain ⟨o, ho, hxo⟩ := List.mem_flatten.mp hx
  cases o with
  | nil => cases hxo
  | cons y o =>
    rcases List.mem_cons.mp hxo with e | hxo
    · subst e; exact ⟨x, o, ho, freeIn_iff.mpr hno⟩
    · exact absurd hxo (hno _ ho)
theorem ranked_filter {R : List (List Nm)} {f : Nm → Nat} (h : Ranked R f) (q : Nm → Bool) : Ranked (R.map fun r => r.filter q) f := fun r hr => by
  obtain ⟨r', h1, rfl⟩ := List.mem_map.mp hr
  exact (h r' h1).filter q
theorem mergeF_some {f : Nm → Nat} : ∀ (n : Nat) {R : List (List Nm)} (acc : List Nm), Ranked R f → mergeF n R acc ≠ none
  | 0, R, acc, _ => by simp [mergeF]
  | n + 1, R, acc, h => by
    unfold mergeF
    split
    · rename_i hany
      obtain ⟨x, r, hr, hf⟩ := ranked_free h (any_ne.mp hany)
      cases hn : nextFrom R R with
      | none =>
        have := nextFrom_none hn x r hr
        rw [hf] at this; cases this
      | some y => exact mergeF_some n _ (ranked_filter h _)
    · simp
theorem merge_some {R : List (List Nm)} {f : Nm → Nat} (h : Ranked R f) : ∃ m, merge R = some m := by
  cases e : merge R with
  | none => exact absurd e (mergeF_some _ _ h)
  | some m => exact ⟨m, rfl⟩
theorem mem_without {R : List (List Nm)} {x y : Nm} : y ∈ (without R x).flatten ↔ y ∈ R.flatten ∧ y ≠ x := by
  unfold without
  rw [List.mem_flatten, List.mem_flatten]
  constructor
  · rintro ⟨r, hr, hy⟩
    obtain ⟨r', h1, rfl⟩ := List.mem_map.mp hr
    obtain ⟨h2, h3⟩ := List.mem_filter.mp hy
    exact ⟨⟨r', h1, h2⟩, by simpa using h3⟩
  · rintro ⟨⟨r, hr, hy⟩, ne⟩
    exact ⟨_, List.mem_map.mpr ⟨r, hr, rfl⟩, List.mem_filter.mpr ⟨hy, by simpa using ne⟩⟩
/-- what a merge is -/
structure Mg (R : List (List Nm)) (m : List Nm) : Prop where
  nd : m.Nodup
  mem : ∀ x, x ∈ m ↔ x ∈ R.flatten
  keep : ∀ r ∈ R, (m.filter fun x => decide (x ∈ r)) = r
theorem filter_self {m : List Nm} {r : List Nm} (h : ∀ x ∈ m, x ∈ r) : (m.filter fun x => decide (x ∈ r)) = m := List.filter_eq_self.mpr fun x hx => decide_eq_true (h x hx)
theorem mergeF_mg : ∀ (n : Nat) {R : List (List Nm)} {acc m : List Nm}, Rows1 R → total R < n → mergeF n R acc = some m → ∃ m', m = acc ++ m' ∧ Mg R m'
  | 0, R, acc, m, _, h, _ => absurd h (Nat.not_lt_zero _)
  | n + 1, R, acc, m, h1, hn, hm => by
    unfold mergeF at hm
    by_cases hany : (R.any fun r => !r.isEmpty) = true
    · rw [if_pos hany] at hm
      cases hx : nextFrom R R with
      | none => rw [hx] at hm; cases hm
      | some x =>
        rw [hx] at hm
        obtain ⟨⟨r0, hr0⟩, hf⟩ := nextFrom_some hx
        have hlt := total_without_lt hr0 (List.mem_cons_self ..)
        have h1' : Rows1 (without R x) := fun r hr => by
          obtain ⟨r', g1, rfl⟩ := List.mem_map.mp hr
          exact (h1 r' g1).filter _
        obtain ⟨m', rfl, hM⟩ := mergeF_mg n h1' (by omega) hm
        have hxm : x ∉ m' := fun z => (mem_without.mp ((hM.mem x).mp z)).2 rfl
        refine ⟨x :: m', by rw [List.append_assoc]; rfl, List.nodup_cons.mpr ⟨hxm, hM.nd⟩, fun y => ?_, fun r hr => ?_⟩
        · rw [List.mem_cons, hM.mem, mem_without]
          constructor
          · rintro (rfl | ⟨h, _⟩)
            · exact List.mem_flatten.mpr ⟨_, hr0, List.mem_cons_self ..⟩
            · exact h
          · intro h
            by_cases e : y = x
            · exact .inl e
            · exact .inr ⟨h, e⟩
        · have hk := hM.keep _ (List.mem_map.mpr ⟨r, hr, rfl⟩)
          have e1 : (m'.filter fun y => decide (y ∈ r)) = r.filter fun o => !decide (o = x) := by
            conv => rhs; rw [← hk]
            refine List.filter_congr fun y hy => ?_
            have ne : y ≠ x := fun e => hxm (e ▸ hy)
            congr 1
            exact propext ⟨fun h => List.mem_filter.mpr ⟨h, by simpa using ne⟩, fun h => (List.mem_filter.mp h).1⟩
          by_cases hxr : x ∈ r
          · rw [List.filter_cons_of_pos (by simpa using hxr), e1]
            have hfr := freeIn_iff.mp hf r hr
            cases r with
            | nil => cases hxr
            | cons y r =>
              have hyx : y = x := by
                rcases List.mem_cons.mp hxr with e | e
                · exact e.symm
                · exact absurd e hfr
              subst hyx
              rw [List.filter_cons_of_neg (by simp)]
              congr 1
              refine List.filter_eq_self.mpr fun z hz => ?_
              have : z ≠ y := fun e => hfr (by rw [← e]; exact hz)
              simpa using this
          · rw [List.filter_cons_of_neg (by simpa using hxr), e1]
            refine List.filter_eq_self.mpr fun z hz => ?_
            have : z ≠ x := fun e => hxr (e ▸ hz)
            simpa using this
    · rw [if_neg hany] at hm
      cases hm
      have hfl : R.flatten = [] := Classical.byContradiction fun z => hany (any_ne.mpr z)
      refine ⟨[], by simp, .nil, fun x => by rw [hfl], fun r hr => ?_⟩
      cases r with
      | nil => rfl
      | cons y r =>
        have : y ∈ R.flatten := List.mem_flatten.mpr ⟨_, hr, List.mem_cons_self ..⟩
        rw [hfl] at this; cases this
theorem merge_mg {R : List (List Nm)} {m : List Nm} (h1 : Rows1 R) (h : merge R = some m) : Mg R m := by
  obtain ⟨m', rfl, hM⟩ := mergeF_mg _ h1 (Nat.lt_succ_self _) h
  exact hM
theorem ix_rise : ∀ {m : List Nm}, m.Nodup → m.Pairwise fun a b => ixN m a < ixN m b
  | [], _ => .nil
  | x :: m, h => by
    have n2 := List.nodup_cons.mp h
    refine List.pairwise_cons.mpr ⟨fun b hb => ?_, ?_⟩
    · have : ¬ x = b := fun e => n2.1 (e ▸ hb)
      simp [D.ixN, this]
    · refine (ix_rise n2.2).imp_of_mem ?_
      intro a b ha hb hab
      have h1 : ¬ x = a := fun e => n2.1 (e ▸ ha)
      have h2 : ¬ x = b := fun e => n2.1 (e ▸ hb)
      simp [D.ixN, h1, h2]; exact hab
theorem mg_ranked {R : List (List Nm)} {m : List Nm} (h : Mg R m) : Ranked R (ixN m) := fun r hr => by
  rw [← h.keep r hr]
  exact (ix_rise h.nd).filter _
/-- rows that are parts of rows -/
theorem ranked_sub {R R' : List (List Nm)} {f : Nm → Nat} (h : Ranked R f) (hs : ∀ r' ∈ R', ∃ r ∈ R, List.Sublist r' r) : Ranked R' f := fun r' hr' => by
  obtain ⟨r, hr, s⟩ := hs r' hr'
  exact (h r hr).sublist s
/-- the merge of rows among which their merge stands -/
theorem merge_with {R' : List (List Nm)} {m : List Nm} (hnd : m.Nodup) (hm : m ∈ R') (hs : ∀ r' ∈ R', List.Sublist r' m) : merge R' = some m := by
  have hr : Ranked R' (ixN m) := fun r' hr' => (ix_rise hnd).sublist (hs r' hr')
  obtain ⟨m', hm'⟩ := merge_some hr
  have hM := merge_mg (fun r' hr' => hnd.sublist (hs r' hr')) hm'
  have h1 : m'.filter (fun x => decide (x ∈ m)) = m := hM.keep m hm
  have h2 : ∀ x ∈ m', x ∈ m := fun x hx => by
    obtain ⟨r, hr, hx⟩ := List.mem_flatten.mp ((hM.mem x).mp hx)
    exact (hs r hr).subset hx
  rw [filter_self h2] at h1
  rw [hm', h1]
theorem mg_sub {R : List (List Nm)} {m : List Nm} (h : Mg R m) : ∀ r ∈ R, List.Sublist r m := fun r hr => by
  have := List.filter_sublist (p := fun x => decide (x ∈ r)) (l := m)
  rw [h.keep r hr] at this
  exact this
theorem total_filter_le (q : Nm → Bool) : ∀ R : List (List Nm), total (R.map fun r => r.filter q) ≤ total R
  | [] => Nat.le_refl _
  | r :: R => by
    have h1 : (r.filter q).length ≤ r.length := List.length_filter_le _ _
    have h2 := total_filter_le q R
    show (r.filter q).length + total (R.map fun r => r.filter q) ≤ r.length + total R
    omega
theorem total_filter_lt {q : Nm → Bool} : ∀ {R : List (List Nm)} {r : List Nm} {x : Nm}, r ∈ R → x ∈ r → q x = false → total (R.map fun r => r.filter q) < total R
  | r' :: R, r, x, hr, hx, hq => by
    show (r'.filter q).length + total (R.map fun r => r.filter q) < r'.length + total R
    rcases List.mem_cons.mp hr with e | h
    · subst e
      have h1 := filter_lt hx hq
      have h2 := total_filter_le q R
      omega
    · have h1 : (r'.filter q).length ≤ r'.length := List.length_filter_le _ _
      have h2 := total_filter_lt h hx hq
      omega
theorem openF_true {f : Nm → Nat} : ∀ (n : Nat) {R : List (List Nm)}, Ranked R f → total R < n → openF n R = true
  | 0, R, _, h => absurd h (Nat.not_lt_zero _)
  | n + 1, R, hr, h => by
    unfold openF
    by_cases he : (freeOf R).isEmpty = true
    · rw [if_pos he]
      cases hfl : R.flatten with
      | nil => rfl
      | cons y l =>
        obtain ⟨x, r, hx, hf⟩ := ranked_free hr (by rw [hfl]; exact List.cons_ne_nil _ _)
        have : x ∈ freeOf R := List.mem_filter.mpr ⟨List.mem_flatten.mpr ⟨_, hx, List.mem_cons_self ..⟩, hf⟩
        rw [List.isEmpty_iff.mp he] at this; cases this
    · rw [if_neg he]
      refine openF_true n (ranked_filter hr _) ?_
      obtain ⟨x, hx⟩ := List.exists_mem_of_ne_nil (freeOf R) (fun z => he (by rw [z]; rfl))
      obtain ⟨hxf, _⟩ := List.mem_filter.mp hx
      obtain ⟨r, hr', hxr⟩ := List.mem_flatten.mp hxf
      have := total_filter_lt (R := R) (q := fun x => !decide (x ∈ freeOf R)) hr' hxr (by simpa using hx)
      omega
theorem openF_ranked : ∀ (n : Nat) {R : List (List Nm)}, openF n R = true → ∃ f, Ranked R f
  | 0, R, h => by cases h
  | n + 1, R, h => by
    unfold openF at h
    by_cases he : (freeOf R).isEmpty = true
    · rw [if_pos he] at h
      refine ⟨fun _ => 0, fun r hr => ?_⟩
      cases r with
      | nil => exact .nil
      | cons x r =>
        have : x ∈ R.flatten := List.mem_flatten.mpr ⟨_, hr, List.mem_cons_self ..⟩
        rw [List.isEmpty_iff.mp h] at this; cases this
    · rw [if_neg he] at h
      obtain ⟨f, hf⟩ := openF_ranked n h
      refine ⟨fun x => if x ∈ freeOf R then 0 else f x + 1, fun r hr => ?_⟩
      have h1 := hf _ (List.mem_map.mpr ⟨r, hr, rfl⟩)
      have key : ∀ (pre post : List Nm), r = pre ++ post → post.Pairwise fun a b => (if a ∈ freeOf R then 0 else f a + 1) < (if b ∈ freeOf R then 0 else f b + 1) := by
        intro pre post
        induction post generalizing pre with
        | nil => intro _; exact .nil
        | cons a post ih =>
          intro e
          refine List.pairwise_cons.mpr ⟨fun b hb => ?_, ih (pre ++ [a]) (by rw [e]; simp)⟩
          have hbn : b ∉ freeOf R := fun z => by
            have := freeIn_iff.mp (List.mem_filter.mp z).2 r hr
            apply this
            rw [e]
            cases pre with
            | nil => exact hb
            | cons p pre => exact List.mem_append_right _ (List.mem_cons_of_mem _ hb)
          rw [if_neg hbn]
          by_cases ha : a ∈ freeOf R
          · rw [if_pos ha]; omega
          · rw [if_neg ha]
            have h2 : (r.filter fun x => !decide (x ∈ freeOf R)) = (pre.filter fun x => !decide (x ∈ freeOf R)) ++ a :: (post.filter fun x => !decide (x ∈ freeOf R)) := by
              rw [e, List.filter_append, List.filter_cons_of_pos (by simpa using ha)]
            rw [h2] at h1
            have h3 := (List.pairwise_append.mp h1).2.1
            have := (List.pairwise_cons.mp h3).1 b (List.mem_filter.mpr ⟨hb, by simpa using hbn⟩)
            omega
      exact key [] r rfl
theorem open_iff {L : List (List Nm)} (h1 : Rows1 L) : openB L = (merge L).isSome := by
  cases hm : merge L with
  | none =>
    cases ho : openB L with
    | false => rfl
    | true =>
      obtain ⟨f, hf⟩ := openF_ranked _ ho
      obtain ⟨m, e⟩ := merge_some hf
      rw [hm] at e; cases e
  | some m => exact openF_true _ (mg_ranked (merge_mg h1 hm)) (Nat.lt_succ_self _)
end W
end
section
set_option Elab.async false
set_option linter.all false
namespace W
open PySem L2 D PyProof.Rows
/-- x stands ahead of y in a row -/
def Ahead (r : List Nm) (x y : Nm) : Prop := ∃ p q, r = p ++ x :: q ∧ y ∈ q
theorem ahead_ix {r : List Nm} (h : r.Nodup) {x y : Nm} (a : Ahead r x y) : x ∈ r ∧ y ∈ r ∧ D.ixN r x < D.ixN r y := by
  obtain ⟨p, q, rfl, hy⟩ := a
  refine ⟨by simp, by simp [hy], ?_⟩
  have := (List.pairwise_append.mp (ix_rise h)).2.1
  exact (List.pairwise_cons.mp this).1 y hy
theorem ahead_ne {r : List Nm} (h : r.Nodup) {x y : Nm} (a : Ahead r x y) : x ≠ y := fun e => by
  have := (ahead_ix h a).2.2
  rw [e] at this; exact Nat.lt_irrefl _ this
theorem hasK_setDef {l : List (Nm × Nat)} {y z : Nm} {i : Nat} : hasK (setDef l y i) z = (hasK l z || decide (y = z)) := by
  unfold setDef hasK
  split
  · rename_i h
    by_cases e : y = z
    · subst e; rw [h]; simp
    · simp [e]
  · rw [List.any_append]; simp
theorem outs_put {E : Dem} (nd : (E.map (·.1)).Nodup) (x y : Nm) (i : Nat) (z : Nm) : outs (demPut E x y i) z = if z = x ∧ z ∈ E.map (·.1) then setDef (outs E z) y i else outs E z := by
  unfold outs demPut
  rw [List.find?_map]
  induction E with
  | nil => simp
  | cons p E ih =>
    have n2 := List.nodup_cons.mp nd
    rw [List.find?_cons, List.find?_cons]
    by_cases e : p.1 = z
    · subst e
      by_cases ex : p.1 = x
      · simp [Function.comp, ex]
      · simp [Function.comp, ex]
    · have e1 : decide ((if p.1 = x then (p.1, setDef p.2 y i) else p).1 = z) = false := by
        split <;> simpa using e
      have ih := ih n2.2
      simp only [Function.comp] at ih ⊢
      rw [e1, decide_eq_false e]
      simp only []
      rw [ih]
      have : (z = x ∧ z ∈ (p :: E).map (·.1)) ↔ (z = x ∧ z ∈ E.map (·.1)) := by
        rw [List.map_cons, List.mem_cons]
        constructor
        · rintro ⟨a, b | b⟩
          · exact absurd b.symm e
          · exact ⟨a, b⟩
        · rintro ⟨a, b⟩; exact ⟨a, .inr b⟩
      by_cases h : z = x ∧ z ∈ E.map (·.1)
      · rw [if_pos h, if_pos (this.mpr h)]
      · rw [if_neg h, if_neg fun z => h (this.mp z)]
/-- what is demanded, and where it was said first: all marks are below i, or told by φ -/
def Said (E : Dem) (φ : Nm → Nm → Nat → Prop) : Prop := ∀ x y k, natAt (outs E x) y = some k → φ x y k
def Full (E : Dem) (ψ : Nm → Nm → Prop) : Prop := ∀ x y, ψ x y → hasK (outs E x) y = true
theorem natAt_setDef {l : List (Nm × Nat)} {y z : Nm} {i k : Nat} (h : natAt (setDef l y i) z = some k) : natAt l z = some k ∨ (y = z ∧ k = i) := by
  unfold setDef at h
  split at h
  · exact .inl h
  · unfold natAt at h ⊢
    rw [List.find?_append] at h
    cases hf : l.find? fun q => decide (q.1 = z) with
    | some q => rw [hf] at h; exact .inl h
    | none =>
      rw [hf] at h
      by_cases e : y = z
      · refine .inr ⟨e, ?_⟩
        simpa [List.find?_cons, e] using h.symm
      · simp [List.find?_cons, e] at h
theorem said_put {E : Dem} (nd : (E.map (·.1)).Nodup) {φ : Nm → Nm → Nat → Prop} {x y : Nm} {i : Nat} (h : Said E φ) (hxy : φ x y i) : Said (demPut E x y i) φ := fun a b k hk => by
  rw [outs_put nd] at hk
  split at hk
  · rename_i e
    rcases natAt_setDef hk with g | ⟨g1, g2⟩
    · exact h a b k g
    · subst g1 g2; rw [e.1]; exact hxy
  · exact h a b k hk
theorem full_put {E : Dem} (nd : (E.map (·.1)).Nodup) {ψ : Nm → Nm → Prop} {x y : Nm} {i : Nat} (h : Full E ψ) (hx : x ∈ E.map (·.1)) : Full (demPut E x y i) fun a b => ψ a b ∨ (a = x ∧ b = y) := fun a b hab => by
  rw [outs_put nd]
  rcases hab with g | ⟨rfl, rfl⟩
  · have := h a b g
    split
    · rw [hasK_setDef, this]; rfl
    · exact this
  · rw [if_pos ⟨rfl, hx⟩, hasK_setDef]; simp
theorem nodup_put {E : Dem} (nd : (E.map (·.1)).Nodup) (x y : Nm) (i : Nat) : ((demPut E x y i).map (·.1)).Nodup := by rw [demPut_keys]; exact nd
theorem puts_all {φ : Nm → Nm → Nat → Prop} {x : Nm} {i : Nat} : ∀ (r : List Nm) {E : Dem} {ψ : Nm → Nm → Prop}, (E.map (·.1)).Nodup → x ∈ E.map (·.1) → Said E φ → (∀ y ∈ r, φ x y i) → Full E ψ →
    (demPuts i x E r).map (·.1) = E.map (·.1) ∧ Said (demPuts i x E r) φ ∧ Full (demPuts i x E r) fun a b => ψ a b ∨ (a = x ∧ b ∈ r)
  | [], E, ψ, nd, hx, hs, hr, hf => ⟨rfl, hs, fun a b h => hf a b (h.resolve_right fun z => nomatch z.2)⟩
  | y :: r, E, ψ, nd, hx, hs, hr, hf => by
    have hk := demPut_keys E x y i
    obtain ⟨h1, h2, h3⟩ := puts_all r (E := demPut E x y i) (nodup_put nd x y i) (by rw [hk]; exact hx) (said_put nd hs (hr y (List.mem_cons_self ..))) (fun z hz => hr z (List.mem_cons_of_mem _ hz)) (full_put (i := i) (y := y) nd hf hx)
    refine ⟨by rw [← hk]; exact h1, h2, fun a b h => h3 a b ?_⟩
    rcases h with g | ⟨g1, g2⟩
    · exact .inl (.inl g)
    · rcases List.mem_cons.mp g2 with e | e
      · exact .inl (.inr ⟨g1, e⟩)
      · exact .inr ⟨g1, e⟩
theorem row_all {φ : Nm → Nm → Nat → Prop} {i : Nat} : ∀ (r : List Nm) {E : Dem} {ψ : Nm → Nm → Prop}, (E.map (·.1)).Nodup → (∀ x ∈ r, x ∈ E.map (·.1)) → Said E φ → (∀ x y, Ahead r x y → φ x y i) → Full E ψ →
    (demRow i E r).map (·.1) = E.map (·.1) ∧ Said (demRow i E r) φ ∧ Full (demRow i E r) fun a b => ψ a b ∨ Ahead r a b
  | [], E, ψ, nd, hx, hs, hr, hf => ⟨rfl, hs, fun a b h => hf a b (h.resolve_right fun ⟨p, q, e, _⟩ => by cases p <;> cases e)⟩
  | x :: r, E, ψ, nd, hx, hs, hr, hf => by
    obtain ⟨h1, h2, h3⟩ := puts_all (i := i) r nd (hx x (List.mem_cons_self ..)) hs (fun y hy => hr x y ⟨[], r, rfl, hy⟩) hf
    obtain ⟨g1, g2, g3⟩ := row_all r (E := demPuts i x E r) (by rw [h1]; exact nd) (fun z hz => by rw [h1]; exact hx z (List.mem_cons_of_mem _ hz)) h2 (fun a b ⟨p, q, e, hb⟩ => hr a b ⟨x :: p, q, by rw [e]; rfl, hb⟩) h3
    refine ⟨g1.trans h1, g2, fun a b h => g3 a b ?_⟩
    rcases h with z | ⟨p, q, e, hb⟩
    · exact .inl (.inl z)
    · cases p with
      | nil => cases e; exact .inl (.inr ⟨rfl, hb⟩)
      | cons u p => cases e; exact .inr ⟨p, q, rfl, hb⟩
theorem rows_all {φ : Nm → Nm → Nat → Prop} : ∀ (R : List (List Nm × Nat)) {E : Dem} {ψ : Nm → Nm → Prop}, (E.map (·.1)).Nodup → (∀ p ∈ R, ∀ x ∈ p.1, x ∈ E.map (·.1)) → Said E φ → (∀ p ∈ R, ∀ x y, Ahead p.1 x y → φ x y p.2) → Full E ψ →
    Said (demRows E R) φ ∧ Full (demRows E R) fun a b => ψ a b ∨ ∃ p ∈ R, Ahead p.1 a b
  | [], E, ψ, nd, hx, hs, hr, hf => ⟨hs, fun a b h => hf a b (h.resolve_right fun ⟨p, hp, _⟩ => nomatch hp)⟩
  | (r, i) :: R, E, ψ, nd, hx, hs, hr, hf => by
    obtain ⟨h1, h2, h3⟩ := row_all (i := i) r nd (hx _ (List.mem_cons_self ..)) hs (hr _ (List.mem_cons_self ..)) hf
    obtain ⟨g2, g3⟩ := rows_all R (E := demRow i E r) (by rw [h1]; exact nd) (fun p hp z hz => by rw [h1]; exact hx p (List.mem_cons_of_mem _ hp) z hz) h2 (fun p hp => hr p (List.mem_cons_of_mem _ hp)) h3
    refine ⟨g2, fun a b h => g3 a b ?_⟩
    rcases h with z | ⟨p, hp, ha⟩
    · exact .inl (.inl z)
    · rcases List.mem_cons.mp hp with e | hp
      · subst e; exact .inl (.inr ha)
      · exact .inr ⟨p, hp, ha⟩
theorem mem_zip {L : List (List Nm)} {r : List Nm} {i : Nat} : (r, i) ∈ L.zipIdx ↔ L[i]? = some r := by
  constructor
  · intro h
    obtain ⟨j, hj⟩ := List.getElem?_of_mem h
    rw [List.getElem?_zipIdx] at hj
    obtain ⟨r', h1, e⟩ := Option.map_eq_some_iff.mp hj
    cases e; simpa using h1
  · intro h
    refine List.mem_of_getElem? (i := i) ?_
    rw [List.getElem?_zipIdx, h]; simp
theorem earliest_all (L : List (List Nm)) : (∀ x y k, natAt (outs (earliest L) x) y = some k → ∃ r, L[k]? = some r ∧ Ahead r x y) ∧ ∀ x y r, r ∈ L → Ahead r x y → hasK (outs (earliest L) x) y = true := by
  have hnd : ((initE L).map (·.1)).Nodup := by
    unfold initE; rw [List.map_map, show ((fun x : Nm × List (Nm × Nat) => x.1) ∘ fun x => (x, [])) = id from rfl, List.map_id]; exact nodup_keysOf L.flatten
  have hkeys : (initE L).map (·.1) = keysOf L.flatten := by unfold initE; rw [List.map_map]; exact List.map_id _
  have houts : ∀ x, outs (initE L) x = [] := fun x => by
    unfold outs
    cases h : (initE L).find? fun p => decide (p.1 = x) with
    | none => rfl
    | some p =>
      obtain ⟨y, _, rfl⟩ := List.mem_map.mp (List.mem_of_find?_eq_some h)
      rfl
  obtain ⟨h1, h2⟩ := rows_all (φ := fun x y k => ∃ r, L[k]? = some r ∧ Ahead r x y) L.zipIdx (E := initE L) (ψ := fun _ _ => False) hnd
    (fun p hp x hx => by rw [hkeys, mem_keysOf]; exact List.mem_flatten.mpr ⟨p.1, List.mem_of_getElem? (mem_zip.mp hp), hx⟩)
    (fun x y k h => by rw [houts] at h; cases h) (fun p hp x y ha => ⟨p.1, mem_zip.mp hp, ha⟩) (fun _ _ h => h.elim)
  refine ⟨h1, fun x y r hr ha => h2 x y (.inr ?_)⟩
  obtain ⟨i, hi⟩ := List.getElem?_of_mem hr
  exact ⟨(r, i), mem_zip.mpr hi, ha⟩
end W
end
section
set_option Elab.async false
set_option linter.all false
namespace W
open PySem L2 D PyProof.Rows
theorem key_of_out {E : Dem} {x y : Nm} (h : hasK (outs E x) y = true) : ∃ p ∈ E, p.1 = x ∧ p.2 = outs E x := by
  unfold outs at h ⊢
  cases e : E.find? fun p => decide (p.1 = x) with
  | none => rw [e] at h; cases h
  | some p => exact ⟨p, List.mem_of_find?_eq_some e, by simpa using List.find?_some e, rfl⟩
def Closed (E : Dem) (g : Nm) (found : List (Nm × Nat)) : Prop := ∀ x y, hasK (outs E x) y = true → (y = g ∨ y ∈ found.map (·.1)) → x ∈ found.map (·.1)
theorem distF_closed {E : Dem} (hE : EOk E) {g : Nm} : ∀ (n : Nat) (found : List (Nm × Nat)) (level : List Nm) (s : Nat), FOk E found → (E.length - found.length) + (if level.isEmpty = true then 0 else 1) < n →
    (∀ x y, hasK (outs E x) y = true → (y = g ∨ y ∈ found.map (·.1)) → y ∉ level → x ∈ found.map (·.1)) → Closed E g (distF n E found level s)
  | 0, found, level, s, hF, hn, hI => absurd hn (Nat.not_lt_zero _)
  | n + 1, found, level, s, hF, hn, hI => by
    unfold distF
    by_cases hl : level.isEmpty = true
    · rw [if_pos hl]
      intro x y h1 h2
      exact hI x y h1 h2 (by rw [List.isEmpty_iff.mp hl]; exact List.not_mem_nil)
    · rw [if_neg hl]
      rw [if_neg hl] at hn
      have hF2 := hF.next hE level (s + 1)
      have hl2 := hF2.len
      have hkeys : (found ++ (nextL E found level).map fun x => (x, s + 1)).map (·.1) = found.map (·.1) ++ nextL E found level := by
        rw [List.map_append, List.map_map, show ((fun q : Nm × Nat => q.1) ∘ fun x => (x, s + 1)) = id from rfl, List.map_id]
      refine distF_closed hE n _ _ _ hF2 ?_ ?_
      · rw [List.length_append, List.length_map] at hl2 ⊢
        cases hx : nextL E found level with
        | nil => simp; omega
        | cons a l => rw [hx] at hl2; simp at hl2 ⊢; omega
      · intro x y h1 h2 h3
        rw [hkeys] at h2 ⊢
        have h2' : y = g ∨ y ∈ found.map (·.1) := by
          rcases h2 with e | e
          · exact .inl e
          · rcases List.mem_append.mp e with q | q
            · exact .inr q
            · exact absurd q h3
        by_cases hyl : y ∈ level
        · by_cases hxf : hasK found x = true
          · exact List.mem_append_left _ (hasK_iff.mp hxf)
          · refine List.mem_append_right _ ?_
            obtain ⟨p, hp, e1, e2⟩ := key_of_out h1
            refine List.mem_map.mpr ⟨p, List.mem_filter.mpr ⟨hp, ?_⟩, e1⟩
            rw [e1, e2]
            simp only [Bool.and_eq_true, List.any_eq_true]
            exact ⟨by simpa using hxf, y, hyl, h1⟩
        · exact List.mem_append_left _ (hI x y h1 h2' hyl)
theorem dist_closed {E : Dem} (hE : EOk E) (g : Nm) : Closed E g (dist E g) :=
  distF_closed hE _ [] [g] 0 ⟨.nil, fun _ h => nomatch h⟩ (by simp) fun x y _ h2 h3 => by
    rcases h2 with e | e
    · exact absurd (by rw [e]; exact List.mem_singleton.mpr rfl) h3
    · cases e
inductive Way (E : Dem) : Nm → Nm → Prop
  | one {x y : Nm} : hasK (outs E x) y = true → Way E x y
  | more {x y z : Nm} : hasK (outs E x) y = true → Way E y z → Way E x z
theorem Way.trans {E : Dem} {x y z : Nm} (a : Way E x y) (b : Way E y z) : Way E x z := by
  induction a with
  | one h => exact .more h b
  | more h _ ih => exact .more h (ih b)
theorem way_dist {E : Dem} (hE : EOk E) {x g : Nm} (w : Way E x g) : x ∈ (dist E g).map (·.1) := by
  induction w with
  | one h => exact dist_closed hE _ _ _ h (.inl rfl)
  | more h _ ih => exact dist_closed hE _ _ _ h (.inr ih)
theorem natAt_isSome {l : List (Nm × Nat)} {x : Nm} (h : x ∈ l.map (·.1)) : (natAt l x).isSome = true := by
  unfold natAt
  obtain ⟨q, hq, e⟩ := List.mem_map.mp h
  cases hf : l.find? fun q => decide (q.1 = x) with
  | none => exact absurd (decide_eq_true e) (by simpa using List.find?_eq_none.mp hf q hq)
  | some p => rfl
theorem ring_of_way {L : List (List Nm)} (hL : RowsOk L) {x : Nm} (w : Way (earliest L) x x) : HasRing L := by
  have hE := (dmOk_earliest hL).1
  have hy : ∃ y, hasK (outs (earliest L) x) y = true := by
    cases w with
    | one h => exact ⟨_, h⟩
    | more h _ => exact ⟨_, h⟩
  obtain ⟨y, hy⟩ := hy
  obtain ⟨p, hp, e, _⟩ := key_of_out hy
  exact ⟨p, hp, by rw [e]; exact natAt_isSome (way_dist hE w)⟩
theorem ahead_sub {r' r : List Nm} {x y : Nm} (s : List.Sublist r' r) (h : Ahead r' x y) : Ahead r x y := by
  induction s with
  | slnil => exact h
  | cons a _ ih =>
    obtain ⟨p, q, e, hy⟩ := ih h
    exact ⟨a :: p, q, by rw [e]; rfl, hy⟩
  | cons_cons a s ih =>
    obtain ⟨p, q, e, hy⟩ := h
    cases p with
    | nil => cases e; exact ⟨[], _, rfl, s.subset hy⟩
    | cons b p =>
      cases e
      obtain ⟨p2, q2, e2, hy2⟩ := ih ⟨p, q, rfl, hy⟩
      exact ⟨a :: p2, q2, by rw [e2]; rfl, hy2⟩
theorem stuck : ∀ (n : Nat) {R : List (List Nm)} {acc : List Nm}, mergeF n R acc = none → ∃ R', (∀ r' ∈ R', ∃ r ∈ R, List.Sublist r' r) ∧ R'.flatten ≠ [] ∧ nextFrom R' R' = none
  | 0, R, acc, h => by cases h
  | n + 1, R, acc, h => by
    unfold mergeF at h
    by_cases hany : (R.any fun r => !r.isEmpty) = true
    · rw [if_pos hany] at h
      cases hx : nextFrom R R with
      | none => exact ⟨R, fun r hr => ⟨r, hr, List.Sublist.refl r⟩, any_ne.mp hany, hx⟩
      | some x =>
        rw [hx] at h
        obtain ⟨R', h1, h2, h3⟩ := stuck n (R := without R x) h
        refine ⟨R', fun r' hr' => ?_, h2, h3⟩
        obtain ⟨r, hr, s⟩ := h1 r' hr'
        obtain ⟨r0, g1, rfl⟩ := List.mem_map.mp hr
        exact ⟨r0, g1, s.trans List.filter_sublist⟩
    · rw [if_neg hany] at h; cases h
theorem minimal {W' : Nm → Nm → Prop} (tr : ∀ a b c, W' a b → W' b c → W' a c) (ir : ∀ a, ¬ W' a a) : ∀ (n : Nat) (S : List Nm), S.length ≤ n → S ≠ [] → ∃ x ∈ S, ∀ y ∈ S, ¬ W' y x
  | 0, S, h, hne => absurd (List.eq_nil_of_length_eq_zero (Nat.le_zero.mp h)) hne
  | n + 1, S, h, hne => by
    classical
    obtain ⟨x, hx⟩ := List.exists_mem_of_ne_nil S hne
    by_cases he : (S.filter fun y => decide (W' y x)) = []
    · refine ⟨x, hx, fun y hy w => ?_⟩
      have : y ∈ S.filter fun y => decide (W' y x) := List.mem_filter.mpr ⟨hy, decide_eq_true w⟩
      rw [he] at this; cases this
    · have hlt := filter_lt (q := fun y => decide (W' y x)) hx (decide_eq_false (ir x))
      obtain ⟨z, hz, hmin⟩ := minimal tr ir n _ (by omega) he
      obtain ⟨hzS, hzx⟩ := List.mem_filter.mp hz
      refine ⟨z, hzS, fun y hy w => hmin y (List.mem_filter.mpr ⟨hy, decide_eq_true (tr _ _ _ w (of_decide_eq_true hzx))⟩) w⟩
/-- no merge: a ring -/
theorem ring_of_none {L : List (List Nm)} (hL : RowsOk L) (h : merge L = none) : HasRing L := by
  refine Classical.byContradiction fun hno => ?_
  have ir : ∀ a, ¬ Way (earliest L) a a := fun a w => hno (ring_of_way hL w)
  obtain ⟨R', h1, h2, h3⟩ := stuck _ h
  obtain ⟨_, hfull⟩ := earliest_all L
  have hne : (R'.filterMap List.head?) ≠ [] := by
    obtain ⟨x, hx⟩ := List.exists_mem_of_ne_nil _ h2
    obtain ⟨r, hr, hx⟩ := List.mem_flatten.mp hx
    cases r with
    | nil => cases hx
    | cons y r =>
      intro z
      have : y ∈ R'.filterMap List.head? := List.mem_filterMap.mpr ⟨_, hr, rfl⟩
      rw [z] at this; cases this
  obtain ⟨x, hx, hmin⟩ := minimal (W' := Way (earliest L)) (fun _ _ _ a b => Way.trans a b) ir _ _ (Nat.le_refl _) hne
  obtain ⟨r, hr, hxr⟩ := List.mem_filterMap.mp hx
  cases r with
  | nil => cases hxr
  | cons y r =>
    cases hxr
    have hf := nextFrom_none h3 x r hr
    have : ¬ ∀ o ∈ R', x ∉ o.drop 1 := fun z => by rw [freeIn_iff.mpr z] at hf; cases hf
    apply this
    intro o ho hxo
    cases o with
    | nil => cases hxo
    | cons y o =>
      obtain ⟨r1, hr1, s⟩ := h1 _ ho
      exact hmin y (List.mem_filterMap.mpr ⟨_, ho, rfl⟩) (.one (hfull y x r1 hr1 (ahead_sub s ⟨[], o, rfl, hxo⟩)))
theorem natAt_of_mem {l : List (Nm × Nat)} {x : Nm} (h : ∃ q ∈ l, q.1 = x) : ∃ k, natAt l x = some k := Option.isSome_iff_exists.mp (natAt_isSome (by obtain ⟨q, hq, e⟩ := h; exact List.mem_map.mpr ⟨q, hq, e⟩))
theorem road_ok {E : Dem} (hE : EOk E) {g : Nm} : ∀ (n : Nat) {x : Nm}, natAt (dist E g) x = some (n + 1) → ∃ t r, roadF E (dist E g) g (n + 1) x = t :: r ∧ t.1 = x ∧ (t :: r).length = n + 1 ∧ linked (t :: r) = true ∧ (t :: r).getLast? = some ((t :: r).getLast (List.cons_ne_nil _ _)) ∧ ((t :: r).getLast (List.cons_ne_nil _ _)).2.1 = g ∧ ∀ u ∈ t :: r, natAt (outs E u.1) u.2.1 = some u.2.2
  | n, x, h => by
    cases hnr : nearer E (dist E g) g x n with
    | nil => exact absurd hnr (nearer_ne hE h)
    | cons y ys =>
      obtain ⟨hq, hnext⟩ := near_min hnr
      obtain ⟨k, hk⟩ := natAt_of_mem hq
      have hroad : roadF E (dist E g) g (n + 1) x = (x, minN y ys, k) :: roadF E (dist E g) g n (minN y ys) := by
        conv => lhs; unfold roadF
        rw [hnr]
        show (x, minN y ys, (natAt (outs E x) (minN y ys)).getD 0) :: _ = _
        rw [hk]; rfl
      rcases hnext with ⟨rfl, e⟩ | ⟨h0, hn⟩
      · refine ⟨_, _, hroad, rfl, rfl, rfl, rfl, e, fun u hu => ?_⟩
        rw [List.mem_singleton.mp hu]; exact hk
      · cases n with
        | zero => omega
        | succ n =>
          obtain ⟨t, r, e1, e2, e3, e4, e5, e6, e7⟩ := road_ok hE n hn
          rw [e1] at hroad
          refine ⟨_, _, hroad, rfl, by rw [List.length_cons, e3], ?_, List.getLast?_eq_some_getLast _, ?_, fun u hu => ?_⟩
          · show (decide (minN y ys = t.1) && linked (t :: r)) = true
            rw [e4, e2]; simp
          · rw [List.getLast_cons (List.cons_ne_nil _ _)]; exact e6
          · rcases List.mem_cons.mp hu with e | hu
            · rw [e]; exact hk
            · exact e7 u hu
theorem ring_is {L : List (List Nm)} (hL : RowsOk L) (h1 : Rows1 L) (h : HasRing L) : isRingB L (leastRing L) = true ∧ (leastRing L).length ≤ 20000 := by
  have hE := (dmOk_earliest hL).1
  obtain ⟨hsaid, _⟩ := earliest_all L
  have hst := starts_ne h
  obtain ⟨s, hs⟩ : ∃ s, startOf (earliest L) = some s := by
    unfold startOf
    cases e : starts (earliest L) with
    | nil => exact absurd e hst
    | cons x xs => exact ⟨_, rfl⟩
  have hss := (start_sz hs).1
  obtain ⟨n, hn, _⟩ := Option.map_eq_some_iff.mp hss
  have hn : natAt (dist (earliest L) s) s = some n := hn
  obtain ⟨k, ek, _⟩ := (dist_came hE s).2 _ (natAt_some hn)
  cases ek
  obtain ⟨t, r, e1, e2, e3, e4, e5, e6, e7⟩ := road_ok hE k hn
  have hring : leastRing L = t :: r := by
    unfold leastRing
    rw [hs]
    show leastRoad _ s s = _
    unfold leastRoad
    rw [hn]; exact e1
  have hdem : ∀ u ∈ t :: r, isDem L u = true := fun u hu => by
    obtain ⟨row, h2, h3⟩ := hsaid _ _ _ (e7 u hu)
    obtain ⟨a, b, c⟩ := ahead_ix (h1 row (List.mem_of_getElem? h2)) h3
    unfold isDem
    rw [h2]
    simp [a, b, c]
  have hk : 0 < k := by
    cases k with
    | succ k => exact Nat.succ_pos _
    | zero =>
      exfalso
      cases r with
      | cons _ _ => simp at e3
      | nil =>
        obtain ⟨row, h2, h3⟩ := hsaid _ _ _ (e7 t (List.mem_cons_self ..))
        have := ahead_ne (h1 row (List.mem_of_getElem? h2)) h3
        exact this (by rw [e2]; exact e6.symm)
  refine ⟨?_, ?_⟩
  · rw [hring]
    unfold isRingB isRoadB
    rw [e4, e5, show (t :: r).all (isDem L) = true from List.all_eq_true.mpr hdem]
    have : decide (1 < (t :: r).length) = true := decide_eq_true (by omega)
    rw [this]
    show (decide (((t :: r).getLast _).2.1 = t.1)) = true
    rw [e6, e2]; simp
  · rw [hring, e3]
    have := distF_top (E := earliest L) ((earliest L).length + 2) [] [s] 0 (fun _ h => nomatch h) _ (natAt_some hn)
    have h3 := hE.1
    have : k + 1 ≤ 0 + ((earliest L).length + 2) := this
    omega
theorem mOk_of {L : List (List Nm)} (hL : RowsOk L) : MOk L := ⟨hL, ring_of_none hL⟩
end W
end
section
set_option Elab.async false
set_option linter.all false
set_option maxRecDepth 100000
set_option maxHeartbeats 8000000
set_option pp.maxSteps 600
open PySem L2 D PyProof.Rows
local macro_rules
  | `(tactic| fail "z") => `(tactic| ((try simp only [List.length_map, List.length_cons, List.length_nil, List.length_append, List.length_drop, List.length_take]); have := big_line; omega))
local macro_rules
  | `(tactic| fail) => `(tactic| first
    | (refine (?_ : SE _ _ _ _ _ _); first | refine se_nm rfl ?_ | refine se_tyTuple (by assumption) ?_ | refine se_tyStr (by assumption) ?_ | refine se_tyInt (by assumption) ?_ | refine se_tyBool (by assumption) ?_ | refine se_int ?_ | refine se_str ?_ | refine se_non ?_ | refine se_bl ?_ | refine se_cmp ?_ | refine se_bin ?_ | refine se_ix ?_ | refine se_slice ?_ | refine se_tup ?_ | refine se_lst ?_ | (refine (?_ : SE _ _ _ _ (.Call _ _ _ _) _); first | refine se_any (by assumption) ?_ | refine se_all (by assumption) ?_ | refine se_len (by assumption) ?_ | refine se_min (by assumption) ?_ | refine se_max (by assumption) ?_ | refine se_sorted (by assumption) ?_ | refine se_isi (by assumption) ?_ | refine se_abs (by assumption) ?_ | refine se_sum (by assumption) ?_ | refine se_tupleC (by assumption) ?_ | refine se_listC (by assumption) ?_) | refine se_M rfl (by assumption) (blkOk_by rfl) ?_ | refine se_F rfl (by assumption) (blkOk_by rfl) ?_ | refine se_Dc rfl (by assumption) (blkOk_by rfl) ?_ | refine se_chain ?_ | refine se_indexN ?_ | refine se_not ?_ | refine se_if ?_ | refine se_one ?_ | refine se_and ?_ | refine se_or ?_ | refine se_neg ?_)
    | (refine (?_ : ST _ _ _ _ _ _); first | refine st_cmp ?_ | refine st_chain ?_ | refine st_not ?_ | refine st_w (sw_and ?_) | refine st_w (sw_or ?_) | refine st_val ?_)
    | (refine (?_ : SWt _ _ _ _ _ _); first | refine sw_and ?_ | refine sw_and1 ?_ | refine sw_or ?_ | refine sw_or1 ?_)
    | (refine (?_ : SA _ _ _ _ _ _); first | refine sa_cons ?_ | refine sa_nil ?_)
    | (refine (?_ : SO _ _ _ _ _ _); first | refine so_none ?_ | refine so_some ?_)
    | (refine (?_ : SS _ _ _ _ _ _); first | refine ss_one ?_ | refine ss_cons ?_)
    | (refine (?_ : S1 _ _ _ _ _ _); first | refine s_ret ?_ | refine s_if ?_ | refine s_M rfl (by assumption) (blkOk_by rfl) ?_ | refine s_F rfl (by assumption) (blkOk_by rfl) ?_ | refine s_Dc rfl (by assumption) (blkOk_by rfl) ?_ | refine s_st (by assumption) ?_ | refine s_aug (by assumption) rfl ?_ | refine s_asg ?_ | refine s_expr ?_)
    | (refine (?_ : SG _ _ _ _ _ _ _); first | refine sg_nm (by assumption) ?_ | refine sg_par rfl ?_ | refine sg_tup rfl ?_)
    | (refine (?_ : SGs _ _ _ _ _ _ _); first | refine sgs_cons ?_ | refine sgs_nil ?_)
    | (refine (?_ : SGb _ _ _ _ _ _ _ _); first | refine sgb_nm (by assumption) ?_ (by first | exact vs_self | exact vs_one | exact vs_two) | refine sgb_par rfl ?_ | refine sgb_tup rfl ?_)
    | (refine (?_ : SGbs _ _ _ _ _ _ _ _); first | refine sgbs_cons ?_ | refine sgbs_nil ?_)
    | (refine (?_ : SW _ _ _ _ _ _ _); first | refine sw_vals ?_ | refine sw_zipT (by assumption) ?_ | refine sw_range (by assumption) ?_ | refine sw_seq ?_)
    | (refine (?_ : OpV _ _ _ _ _ _ _ _); first | refine ov_eqN ?_ | refine ov_neN ?_ | refine ov_inN ?_ | refine ov_ninN ?_ | refine ov_inNT ?_ | refine ov_ninNT ?_ | refine oi_add ?_ | refine oi_catT (by fail "z") ?_ | refine ov_cat (by fail "z") ?_ | refine ov_catT (by fail "z") ?_ | refine ov_add ?_ | refine ov_sub ?_ | refine ov_lt ?_ | refine ov_le ?_ | refine ov_gt ?_ | refine ov_ge ?_ | refine ov_eqI ?_ | refine ov_neI ?_ | refine ov_eqS ?_ | refine ov_neS ?_ | refine ov_eqB ?_ | refine ov_neB ?_)
    | (refine (?_ : IxV _ _ _ _ _ _ _); first | refine iv_cons ?_ | refine iv_consT ?_)
    | (refine (?_ : SlV _ _ _ _ _ _ _ _); first | refine sv_fromL (by decide) ?_ | refine sv_fromT (by decide) ?_ | refine sv_toL (by decide) ?_ | refine sv_toT (by decide) ?_)
    | (refine (?_ : ClV _ _ _ _ _ _ _); first | refine cv_anyM rfl ?_ | refine cv_allM rfl ?_ | refine cv_len rfl ?_ | refine cv_tuple rfl ?_ | refine cv_list rfl ?_ | refine cv_abs ?_ | refine cv_isStr rfl ?_ | refine cv_isTup rfl ?_ | refine cv_isInt rfl ?_ | refine cv_isBool rfl ?_ | refine cv_sum rfl ?_)
    | refine turn0I (fun _ _ _ _ _ _ => ?_) | refine turn1I (fun _ _ _ _ _ _ => ?_) | refine turnDI (fun _ _ _ _ _ _ => ?_) | refine abI (fun _ _ _ _ _ => ?_) | refine iteT ?_ | refine iteF ?_ | refine And.intro (show _ ≤ sizeLine by fail "z") ?_ | refine ⟨_, rfl, ?_⟩)
local macro_rules
  | `(tactic| fail "e") => `(tactic| first
    | (refine (?_ : SE _ _ _ _ _ _); first | refine se_nm rfl ?_ | refine se_tyTuple (by assumption) ?_ | refine se_tyStr (by assumption) ?_ | refine se_tyInt (by assumption) ?_ | refine se_tyBool (by assumption) ?_ | refine se_int ?_ | refine se_str ?_ | refine se_non ?_ | refine se_bl ?_ | refine se_cmp ?_ | refine se_bin ?_ | refine se_ix ?_ | refine se_slice ?_ | refine se_tup ?_ | refine se_lst ?_ | (refine (?_ : SE _ _ _ _ (.Call _ _ _ _) _); first | refine se_any (by assumption) ?_ | refine se_all (by assumption) ?_ | refine se_len (by assumption) ?_ | refine se_min (by assumption) ?_ | refine se_max (by assumption) ?_ | refine se_sorted (by assumption) ?_ | refine se_isi (by assumption) ?_ | refine se_abs (by assumption) ?_ | refine se_sum (by assumption) ?_ | refine se_tupleC (by assumption) ?_ | refine se_listC (by assumption) ?_) | refine se_M rfl (by assumption) (blkOk_by rfl) ?_ | refine se_F rfl (by assumption) (blkOk_by rfl) ?_ | refine se_Dc rfl (by assumption) (blkOk_by rfl) ?_ | refine se_chain ?_ | refine se_indexN ?_ | refine se_not ?_ | refine se_if ?_ | refine se_one ?_ | refine se_and ?_ | refine se_or ?_ | refine se_neg ?_)
    | (refine (?_ : ST _ _ _ _ _ _); first | refine st_cmp ?_ | refine st_chain ?_ | refine st_not ?_ | refine st_w (sw_and ?_) | refine st_w (sw_or ?_) | refine st_val ?_)
    | (refine (?_ : SWt _ _ _ _ _ _); first | refine sw_and ?_ | refine sw_and1 ?_ | refine sw_or ?_ | refine sw_or1 ?_)
    | (refine (?_ : SA _ _ _ _ _ _); first | refine sa_cons ?_ | refine sa_nil ?_)
    | (refine (?_ : SO _ _ _ _ _ _); first | refine so_none ?_ | refine so_some ?_)
    | (refine (?_ : SG _ _ _ _ _ _ _); first | refine sg_nm (by assumption) ?_ | refine sg_par rfl ?_ | refine sg_tup rfl ?_)
    | (refine (?_ : SGs _ _ _ _ _ _ _); first | refine sgs_cons ?_ | refine sgs_nil ?_)
    | (refine (?_ : SGb _ _ _ _ _ _ _ _); first | refine sgb_nm (by assumption) ?_ (by first | exact vs_self | exact vs_one | exact vs_two) | refine sgb_par rfl ?_ | refine sgb_tup rfl ?_)
    | (refine (?_ : SGbs _ _ _ _ _ _ _ _); first | refine sgbs_cons ?_ | refine sgbs_nil ?_)
    | (refine (?_ : SW _ _ _ _ _ _ _); first | refine sw_vals ?_ | refine sw_zipT (by assumption) ?_ | refine sw_range (by assumption) ?_ | refine sw_seq ?_)
    | (refine (?_ : OpV _ _ _ _ _ _ _ _); first | refine ov_eqN ?_ | refine ov_neN ?_ | refine ov_inN ?_ | refine ov_ninN ?_ | refine ov_inNT ?_ | refine ov_ninNT ?_ | refine oi_add ?_ | refine oi_catT (by fail "z") ?_ | refine ov_cat (by fail "z") ?_ | refine ov_catT (by fail "z") ?_ | refine ov_add ?_ | refine ov_sub ?_ | refine ov_lt ?_ | refine ov_le ?_ | refine ov_gt ?_ | refine ov_ge ?_ | refine ov_eqI ?_ | refine ov_neI ?_ | refine ov_eqS ?_ | refine ov_neS ?_ | refine ov_eqB ?_ | refine ov_neB ?_)
    | (refine (?_ : IxV _ _ _ _ _ _ _); first | refine iv_cons ?_ | refine iv_consT ?_)
    | (refine (?_ : SlV _ _ _ _ _ _ _ _); first | refine sv_fromL (by decide) ?_ | refine sv_fromT (by decide) ?_ | refine sv_toL (by decide) ?_ | refine sv_toT (by decide) ?_)
    | (refine (?_ : ClV _ _ _ _ _ _ _); first | refine cv_anyM rfl ?_ | refine cv_allM rfl ?_ | refine cv_len rfl ?_ | refine cv_tuple rfl ?_ | refine cv_list rfl ?_ | refine cv_abs ?_ | refine cv_isStr rfl ?_ | refine cv_isTup rfl ?_ | refine cv_isInt rfl ?_ | refine cv_isBool rfl ?_ | refine cv_sum rfl ?_)
    | refine turn0I (fun _ _ _ _ _ _ => ?_) | refine turn1I (fun _ _ _ _ _ _ => ?_) | refine turnDI (fun _ _ _ _ _ _ => ?_) | refine abI (fun _ _ _ _ _ => ?_) | refine iteT ?_ | refine iteF ?_ | refine And.intro (show _ ≤ sizeLine by fail "z") ?_ | refine ⟨_, rfl, ?_⟩)
namespace D
theorem ss_mid {F : Fm} {X : Cx} {Γ : List Sl} {c : Cells} {Φ : PEnds} {s : Stmt} {rest : List Stmt} (Mid : List Sl → Cells → Prop) (h1 : S1 F X Γ c s { Φ with nx := Mid }) (h2 : ∀ Γ' c', Mid Γ' c' → SS F X Γ' c' rest Φ) : SS F X Γ c (s :: rest) Φ :=
  ss_cons (.mk fun σ H D S E => h1 σ H D S ⟨fun Γ c σ H p => E.nx Γ c σ H (h2 Γ c p), E.rt, E.bk, E.ct⟩)
end D
namespace W
open PySem L2 D PyProof.Rows
structure Good (L : List (List Nm)) : Prop where
  len : 1 ≤ L.length ∧ L.length ≤ 5
  row : ∀ r ∈ L, r.Nodup ∧ r.length ≤ 6
theorem Good.ok {L : List (List Nm)} (h : Good L) : RowsOk L := ⟨by have := h.len.2; omega, fun r hr => by have := (h.row r hr).2; omega⟩
theorem Good.r1 {L : List (List Nm)} (h : Good L) : Rows1 L := fun r hr => (h.row r hr).1
theorem Good.tot {L : List (List Nm)} (h : Good L) : L.flatten.length ≤ 30 := by
  have h1 := total_le (R := L) (n := 6) fun r hr => (h.row r hr).2
  have h2 := Nat.mul_le_mul_right 6 h.len.2
  rw [List.length_flatten]
  show total L ≤ 30
  omega
theorem put_key (l : List Nm) (y : Nm) : dput (l.map fun x => (nK x, Dt.int 0)) (nK y) (.int 0) = (addK l y).map fun x => (nK x, Dt.int 0) := by
  rw [dput_map (fun _ => Dt.int 0) (fun x : Nm => x)]
  unfold addK
  by_cases h : y ∈ l
  · rw [if_pos h, if_pos (by rw [List.any_eq_true]; exact ⟨y, h, by simp⟩)]
    refine List.map_congr_left fun x _ => ?_
    split <;> rfl
  · rw [if_neg h, if_neg (by rw [List.any_eq_true]; rintro ⟨x, hx, e⟩; exact h (by rw [← of_decide_eq_true e]; exact hx))]
    simp
theorem put_keys : ∀ (r l : List Nm), (r.map fun x => (nK x, Dt.int 0)).foldl (fun acc kv => dput acc kv.1 kv.2) (l.map fun x => (nK x, Dt.int 0)) = (r.foldl addK l).map fun x => (nK x, Dt.int 0)
  | [], l => rfl
  | y :: r, l => by
    show (r.map fun x => (nK x, Dt.int 0)).foldl (fun acc kv => dput acc kv.1 kv.2) (dput (l.map fun x => (nK x, Dt.int 0)) (nK y) (.int 0)) = _
    rw [put_key, put_keys r]; rfl
theorem keys_app (a r : List Nm) : keysOf (a ++ r) = r.foldl addK (keysOf a) := by unfold keysOf; rw [List.foldl_append]
theorem nodup_perm {a b : List Nm} (ha : a.Nodup) (hb : b.Nodup) (h : ∀ x, x ∈ a ↔ x ∈ b) : a.Perm b := (List.perm_ext_iff_of_nodup ha hb).mpr h
theorem rising_pw : ∀ (l : List Nm) (x : Nm), risingS x.1 (l.map (·.1)) = true → (x :: l).Pairwise fun a b => ¬ b.1.cps.toList < a.1.cps.toList
  | [], x, _ => List.pairwise_singleton _ _
  | y :: l, x, h => by
    rw [List.map_cons, risingS] at h
    have h' := h
    rw [Bool.and_eq_true, ltCps_eq, Bool.not_eq_true', decide_eq_false_iff_not] at h'
    have ih := rising_pw l y h'.2
    refine List.pairwise_cons.mpr ⟨fun z hz => ?_, ih⟩
    rcases List.mem_cons.mp hz with e | hz
    · rw [e]; exact h'.1
    · exact List.not_lt.mpr (List.le_trans (List.not_lt.mp h'.1) (List.not_lt.mp ((List.pairwise_cons.mp ih).1 z hz)))
theorem sorted_pw {l : List Nm} (h : sortedN l) : l.Pairwise fun a b => ¬ b.1.cps.toList < a.1.cps.toList := by
  cases l with
  | nil => exact .nil
  | cons x l => exact rising_pw l x h
theorem pw_one : ∀ {a b : List Nm}, a.Pairwise (fun a b => ¬ b.1.cps.toList < a.1.cps.toList) → b.Pairwise (fun a b => ¬ b.1.cps.toList < a.1.cps.toList) → a.Perm b → a = b
  | [], b, _, _, h => (List.nil_perm.mp h).symm
  | x :: a, [], _, _, h => absurd h.symm (by simp)
  | x :: a, y :: b, ha, hb, h => by
    have hxy : x = y := by
      have h1 : x ∈ y :: b := h.mem_iff.mp (List.mem_cons_self ..)
      have h2 : y ∈ x :: a := h.mem_iff.mpr (List.mem_cons_self ..)
      rcases List.mem_cons.mp h1 with e | h1
      · exact e
      · rcases List.mem_cons.mp h2 with e | h2
        · exact e.symm
        · have g1 := List.not_lt.mp ((List.pairwise_cons.mp hb).1 x h1)
          have g2 := List.not_lt.mp ((List.pairwise_cons.mp ha).1 y h2)
          exact Subtype.ext (str_ext (List.le_antisymm g2 g1))
    subst hxy
    rw [pw_one (List.pairwise_cons.mp ha).2 (List.pairwise_cons.mp hb).2 ((List.perm_cons x).mp h)]
theorem sorted_one {a b : List Nm} (ha : sortedN a) (hb : sortedN b) (h : a.Perm b) : a = b := pw_one (sorted_pw ha) (sorted_pw hb) h
theorem eqd_self {n : Nat} {d : Dt} (h : Fit n d) : eqd d d = true := SeqAt.eqv_refl _ h.lay
theorem told_some {L : List (List Nm)} {m : List Nm} (h : merge L = some m) : toldD L = .tup [.str "merge", nT m] := by unfold toldD; rw [h]
section
variable {P : Program} {w : World} {K : PySem.W.Frag} {mg : Str → Option Value} {base : Heap}
structure Lw (P : Program) (w : World) (K : PySem.W.Frag) (mg : Str → Option Value) (base : Heap) : Prop where
  bag : DefOk P w K mg base 1 "_law_bag" ["_law_script", "_law_at"] (sp_bag K)
  take : D_take P w K mg base
  names : DefOk P w K mg base 2 "_law_names" ["_law_bag_here", "_law_many"] (sp_names K)
  some : DefOk P w K mg base 2 "_law_some" ["_law_bag_here", "_law_things", "_law_most"] (sp_some K)
  opn : DefOk P w K mg base 1 "_law_open" ["_law_lists"] (sp_open K)
  told : DefOk P w K mg base 6 "_law_told" ["_law_lists"] (sp_told K)
  keeps : DefOk P w K mg base 1 "_law_keeps" ["_law_whole", "_law_row"] (sp_keeps K)
  ring : DefOk P w K mg base 4 "is_ring" ["lists", "thing"] (sp_is_ring K)
def forBody : Stmt → List Stmt
  | .For _ _ b _ _ => b
  | _ => []
def lawTurn : List Stmt := forBody ((forBody ((defBody s_law).getD 0 (.Pass ⟨0, 0, 0, 0⟩))).getD 3 (.Pass ⟨0, 0, 0, 0⟩))
abbrev gL (ns : List Int) (k : Nat) (b : Addr) (nms ord : List Nm) (t : Nat) (L : List (List Nm)) (us : List Sl) : List Sl := .dat (.fzl (ns.map .int)) :: .dat (.int (k : Int)) :: .dat (.raw (.ref b)) :: .dat (nL nms) :: .dat (nT ord) :: .dat (.int (t : Int)) :: .dat (lltD L) :: us
theorem law_rest (T : Txt mg) (D : Lw P w K mg base) {f : Addr} {cdv : Value} {A : Around} {outer : List Env} {s : Shared} {H : Hp} {E : XK} {F : Fm} (hr : Room 6 (A.deeper (envOfC "law" (defScope s_law) s.heap.objs.size f cdv)))
    {ns : List Int} {k t n3 : Nat} {b : Addr} {nms ord : List Nm} {L : List (List Nm)} {u7 u8 u9 ua ub uc ud ue uf ug : Sl} {Φ : PEnds} (hG : Good L) (hn3 : n3 ≤ 100000) (hΦ : ∀ v7 v8 v9 va vb vc vd ve vf vg n4, n4 ≤ n3 + 5 → Φ.nx (gL ns k b nms ord t L [v7, v8, v9, va, vb, vc, vd, ve, vf, vg]) [(b, .bag n4)]) :
    SS F (cxOf (L2.CX P w) P w K mg base n_law "law" (defScope s_law) f cdv A outer s H E) (gL ns k b nms ord t L [u7, u8, u9, ua, ub, uc, ud, ue, uf, ug]) [(b, .bag n3)] (lawTurn.drop 2) Φ := by
  have nd := sc_law.nd
  have hrg := T.range
  have hmin := T.min
  have hmax := T.max
  have hlen := T.len
  have htup := T.tuple
  have hsort := T.sorted
  have hall := T.all
  have hOk := hG.ok
  have hM := mOk_of hOk
  have hL5 := hG.len.2
  refine ss_cons (s_asg (se_fP D.told hr ?_))
  repeat fail "e"
  refine ⟨hM, ?_⟩
  rintro _ rfl
  unfold toldD
  have hopen := open_iff hG.r1
  cases hmg : merge L with
  | none =>
    rw [hmg] at hopen
    obtain ⟨hri, hrl⟩ := ring_is hOk hG.r1 (ring_of_none hOk hmg)
    repeat fail
    refine se_fP D.opn (hr.mono (by decide)) ?_
    repeat fail "e"
    refine ⟨hOk, ?_⟩
    rintro _ rfl
    rw [hopen]
    repeat fail "e"
    refine ss_nil ?_
    repeat fail
    refine se_fP D.ring (hr.mono (by decide)) ?_
    repeat fail "e"
    refine ⟨(L, leastRing L), rfl, ⟨hOk, hrl⟩, ?_⟩
    rintro _ rfl
    rw [hri]
    repeat fail "e"
    refine ss_nil ?_
    repeat fail
    refine ss_nil ?_
    exact hΦ _ _ _ _ _ _ _ _ _ _ _ (by omega)
  | some m =>
    rw [hmg] at hopen
    have hMg := merge_mg hG.r1 hmg
    have hml : m.length ≤ 30 := Nat.le_trans (sub_len hMg.nd fun x hx => (hMg.mem x).mp hx) hG.tot
    repeat fail
    refine se_fP D.opn (hr.mono (by decide)) ?_
    repeat fail "e"
    refine ⟨hOk, ?_⟩
    rintro _ rfl
    rw [hopen]
    repeat fail "e"
    refine ss_nil ?_
    repeat fail
    refine ss_nil ?_
    refine ss_cons (s_if ?_)
    repeat fail "e"
    repeat fail
    refine se_dnew fun a => ?_
    refine ss_mid (fun Γ c => ∃ va vf, Γ = gL ns k b nms ord t L [.dat (.str "merge"), .dat (nT m), .dat (.raw (.ref a)), va, ub, uc, ud, ue, vf, ug] ∧ c = [(b, .bag n3), (a, .dk ((keysOf L.flatten).map fun x => (nK x, Dt.int 0)))]) (s_for (passes_of rfl) rfl ?_) ?_
    · repeat fail "e"
      refine for_t (fun rest Γ c => ∃ va vf dn, (Γ = gL ns k b nms ord t L [.dat (.str "merge"), .dat (nT m), .dat (.raw (.ref a)), va, ub, uc, ud, ue, vf, ug] ∧ c = [(b, .bag n3), (a, .dk ((keysOf dn).map fun x => (nK x, Dt.int 0)))]) ∧ dn ++ rest.flatten = L.flatten) ⟨_, _, [], ⟨rfl, rfl⟩, rfl⟩ ?_ ?_
      · rintro pre r rest Γ c hl ⟨va, vf, dn, ⟨rfl, rfl⟩, hdn⟩
        have hr6 := (hG.row r (by rw [hl]; simp)).2
        have hdl : (keysOf dn).length ≤ 30 := by
          have h1 := keysOf_len dn
          have h2 := congrArg List.length hdn
          rw [List.length_append] at h2
          have := hG.tot
          omega
        repeat fail "e"
        refine ss_one (s_expr (se_updateL nK (fun _ => Dt.int 0) rfl ?_))
        repeat fail "e"
        refine ⟨a, 1, _, rfl, rfl, ?_⟩
        repeat fail "e"
        refine lcM (fun x => .tup [nD x, .int 0]) (by fail "z") ?_ ?_
        · intro x hx
          repeat fail "e"
          exact ⟨rfl, rfl⟩
        refine ⟨_, r, rfl, rfl, ?_, ?_⟩
        · rw [List.length_map]; have := big_line; omega
        · refine ⟨_, _, dn ++ r, ⟨rfl, ?_⟩, by rw [List.append_assoc]; exact hdn⟩
          rw [put_keys, keys_app]; rfl
      · rintro Γ c ⟨va, vf, dn, ⟨rfl, rfl⟩, hdn⟩
        rw [List.flatten_nil, List.append_nil] at hdn
        subst hdn
        exact ⟨_, _, rfl, rfl⟩
    rintro Γ c ⟨va, vf, rfl, rfl⟩
    have hkl : (keysOf L.flatten).length < 64 := by have h1 := keysOf_len L.flatten; have := hG.tot; omega
    have hperm : (keysOf L.flatten).Perm m := nodup_perm (nodup_keysOf _) hMg.nd fun x => by rw [mem_keysOf, hMg.mem]
    repeat fail
    refine cv_sortedNT (by omega) fun ys hy1 hy2 => ?_
    repeat fail "e"
    refine cv_sortedDC 1 rfl rfl hkl fun zs hz1 hz2 => ?_
    have hyz : ys = zs := sorted_one hy2 hz2 (hy1.trans (hz1.trans hperm).symm)
    refine ov_neD hr.units (fit_nL ys) (fit_nL zs) ?_
    rw [eqd_nL, decide_eq_true hyz]
    repeat fail "e"
    refine lcM (fun r => .bl (keepsB m r)) (by fail "z") ?_ ?_
    · intro r hr'
      repeat fail "e"
      refine se_fP D.keeps (hr.mono (by decide)) ?_
      repeat fail "e"
      refine ⟨(m, r), rfl, by show m.length ≤ 10000; omega, ?_⟩
      rintro _ rfl
      exact ⟨rfl, rfl⟩
    repeat fail "e"
    have hkeep : L.all (keepsB m) = true := List.all_eq_true.mpr fun r hr' => decide_eq_true (hMg.keep r hr')
    rw [hkeep]
    repeat fail "e"
    refine ss_nil ?_
    have hsub := mg_sub hMg
    have hOk' : ∀ R : List (List Nm), R.length ≤ 20 → (∀ r ∈ R, List.Sublist r m) → RowsOk R := fun R h1 h2 => ⟨by omega, fun r hr' => Nat.le_trans (h2 r hr').length_le (by omega)⟩
    have hs1 : ∀ r ∈ m :: L, List.Sublist r m := fun r hr' => by
      rcases List.mem_cons.mp hr' with e | e
      · rw [e]; exact List.Sublist.refl m
      · exact hsub r e
    have hs2 : ∀ r ∈ L ++ [m], List.Sublist r m := fun r hr' => by
      rcases List.mem_append.mp hr' with e | e
      · exact hsub r e
      · rw [List.mem_singleton.mp e]; exact List.Sublist.refl m
    have e1 := told_some (merge_with hMg.nd (List.mem_cons_self ..) hs1)
    have e2 := told_some (merge_with hMg.nd (List.mem_append_right _ (List.mem_singleton.mpr rfl)) hs2)
    repeat fail
    refine se_fP D.told hr ?_
    repeat fail "e"
    refine ⟨m :: L, rfl, mOk_of (hOk' _ (by rw [List.length_cons]; omega) hs1), ?_⟩
    rintro _ rfl
    rw [e1]
    repeat fail "e"
    refine se_fP D.told hr ?_
    repeat fail "e"
    refine ⟨L ++ [m], by rw [lisD, List.map_append]; rfl, mOk_of (hOk' _ (by rw [List.length_append]; show L.length + 1 ≤ 20; omega) hs2), ?_⟩
    rintro _ rfl
    rw [e2]
    repeat fail "e"
    refine ov_rep (by decide) (by decide) (by show 1 * 2 ≤ sizeLine; decide) ?_
    rw [show (List.replicate (Int.toNat 2) [Dt.tup [Dt.str "merge", nT m]]).flatten = [.tup [.str "merge", nT m], .tup [.str "merge", nT m]] from rfl]
    have hfm : Fit 63 (.tup [.str "merge", nT m]) := (fit_tup (n := 1) fun d hd => by
      rcases List.mem_cons.mp hd with e | hd
      · rw [e]; exact fit_str (by decide +kernel)
      · rw [List.mem_singleton.mp hd]; exact fit_nT m).mono (by decide)
    have hf2 : Fit 64 (.lst [.tup [.str "merge", nT m], .tup [.str "merge", nT m]]) := fit_lst (n := 63) fun d hd => by
      rcases List.mem_cons.mp hd with e | hd
      · rw [e]; exact hfm
      · rw [List.mem_singleton.mp hd]; exact hfm
    refine ov_neD hr.units hf2 hf2 ?_
    rw [eqd_self hf2]
    repeat fail "e"
    refine ss_nil ?_
    repeat fail
    refine se_fB 0 D.take (hr.mono (by decide)) ?_
    repeat fail "e"
    refine ⟨b, n3, (L.length : Int), rfl, by simp, ⟨by have := hG.len.1; omega, by omega⟩, by show n3 + 1 ≤ 1000000000; omega, ?_⟩
    rintro _ ⟨j0, rfl, hj0, hj1⟩
    obtain ⟨j, rfl⟩ : ∃ j : Nat, j0 = (j : Int) := ⟨j0.toNat, by omega⟩
    have hj : j < L.length := by omega
    have hLj : L[j]? = some L[j] := List.getElem?_eq_getElem hj
    have hLjm : L[j] ∈ L := List.getElem_mem hj
    have ht1 : (((j : Nat) : Int)).toNat = j := Int.toNat_natCast j
    have ht2 : (((j : Nat) : Int) + 1).toNat = j + 1 := by omega
    repeat fail
    refine sv_toL (by omega) ?_
    repeat fail "e"
    refine sv_fromL (by omega) ?_
    repeat fail "e"
    refine sv_toL (by omega) ?_
    repeat fail "e"
    refine iv_lst (d := nT L[j]) ?_ ?_
    · unfold atI L2.ixN
      rw [if_pos (by omega), if_pos (by rw [List.length_map]; omega)]
      simp [hLj]
    repeat fail "e"
    refine sv_fromL (by omega) ?_
    repeat fail "e"
    rw [ht1, ht2]
    have hSubs : ∀ R : List (List Nm), R.length ≤ 20 → (∀ r ∈ R, ∃ r' ∈ L, List.Sublist r r') → MOk R ∧ ∃ m', merge R = some m' := fun R h1 h2 => by
      have hr1 := ranked_sub (mg_ranked hMg) h2
      exact ⟨mOk_of ⟨by omega, fun r hr' => by obtain ⟨r', g1, g2⟩ := h2 r hr'; exact Nat.le_trans g2.length_le (by have := (hG.row r' g1).2; omega)⟩, merge_some hr1⟩
    repeat fail
    rw [show [Dt.lst (List.map nT (List.take j L) ++ List.map nT (List.drop (j + 1) L)), Dt.lst (List.map nT (List.take j L) ++ [nT (List.drop (Int.toNat 1) L[j])] ++ List.map nT (List.drop (j + 1) L))] = [L.take j ++ L.drop (j + 1), L.take j ++ [L[j].drop 1] ++ L.drop (j + 1)].map lltD by simp [lltD]]
    refine lcM (fun _ => .str "merge") (by show 2 ≤ sizeLine; decide) ?_ ?_
    · intro R hR
      have hRs : R.length ≤ 20 ∧ ∀ r ∈ R, ∃ r' ∈ L, List.Sublist r r' := by
        rcases List.mem_cons.mp hR with e | hR
        · subst e
          refine ⟨by rw [List.length_append, List.length_take, List.length_drop]; omega, fun r hr' => ?_⟩
          rcases List.mem_append.mp hr' with q | q
          · exact ⟨r, List.mem_of_mem_take q, List.Sublist.refl r⟩
          · exact ⟨r, List.mem_of_mem_drop q, List.Sublist.refl r⟩
        · rw [List.mem_singleton.mp hR]
          refine ⟨by rw [List.length_append, List.length_append, List.length_take, List.length_drop]; show _ + 1 + _ ≤ 20; omega, fun r hr' => ?_⟩
          rcases List.mem_append.mp hr' with q | q
          · rcases List.mem_append.mp q with q | q
            · exact ⟨r, List.mem_of_mem_take q, List.Sublist.refl r⟩
            · rw [List.mem_singleton.mp q]; exact ⟨L[j], hLjm, List.drop_sublist _ _⟩
          · exact ⟨r, List.mem_of_mem_drop q, List.Sublist.refl r⟩
      obtain ⟨hM', m', hm'⟩ := hSubs R hRs.1 hRs.2
      repeat fail "e"
      refine se_fP D.told hr ?_
      repeat fail "e"
      refine ⟨hM', ?_⟩
      rintro _ rfl
      rw [told_some hm']
      repeat fail "e"
      exact ⟨rfl, rfl⟩
    rw [show List.map (fun _ => Dt.str "merge") [L.take j ++ L.drop (j + 1), L.take j ++ [L[j].drop 1] ++ L.drop (j + 1)] = [.str "merge", .str "merge"] from rfl]
    repeat fail "e"
    refine ov_rep (by decide) (by decide) (by show 1 * 2 ≤ sizeLine; decide) ?_
    have hf3 : Fit 64 (.lst [.str "merge", .str "merge"]) := (fit_lst (n := 0) fun d hd => by
      rcases List.mem_cons.mp hd with e | hd
      · rw [e]; exact fit_str (by decide +kernel)
      · rw [List.mem_singleton.mp hd]; exact fit_str (by decide +kernel)).mono (by decide)
    rw [show (List.replicate (Int.toNat 2) [Dt.str "merge"]).flatten = [.str "merge", .str "merge"] from rfl]
    refine ov_neD hr.units hf3 hf3 ?_
    rw [eqd_self hf3]
    repeat fail "e"
    refine ss_nil ?_
    repeat fail
    refine lcM (fun r => nT (m.filter fun x => decide (x ∈ r))) (by fail "z") ?_ ?_
    · intro r hr'
      repeat fail "e"
      refine lcF (fun x => decide (x ∈ r)) nD (by fail "z") ?_ ?_
      · intro x hx
        repeat fail "e"
        refine filt_end (fun h => ?_) (fun h => ?_)
        · repeat fail "e"
          exact ⟨h, rfl, rfl⟩
        · exact ⟨rfl, h⟩
      repeat fail "e"
      exact ⟨rfl, rfl⟩
    rw [show (L.map fun r => nT (m.filter fun x => decide (x ∈ r))) = L.map nT from List.map_congr_left fun r hr' => by rw [hMg.keep r hr']]
    have hs3 : ∀ r ∈ L ++ [m] ++ L, List.Sublist r m := fun r hr' => by
      rcases List.mem_append.mp hr' with q | q
      · exact hs2 r q
      · exact hsub r q
    have e3 := told_some (merge_with hMg.nd (List.mem_append_left _ (List.mem_append_right _ (List.mem_singleton.mpr rfl))) hs3)
    repeat fail
    refine se_fP D.told hr ?_
    repeat fail "e"
    refine ⟨L ++ [m] ++ L, by rw [lisD, List.map_append, List.map_append]; rfl, mOk_of (hOk' _ (by rw [List.length_append, List.length_append]; show L.length + 1 + L.length ≤ 20; omega) hs3), ?_⟩
    rintro _ rfl
    rw [e3]
    repeat fail "e"
    refine ov_neD hr.units (hfm.mono (by decide)) (hfm.mono (by decide)) ?_
    rw [eqd_self hfm]
    repeat fail "e"
    refine ss_nil ?_
    refine ss_dropC 1 rfl (ss_nil ?_)
    exact hΦ _ _ _ _ _ _ _ _ _ _ _ (by show n3 + 1 ≤ _; omega)
end
end W
end
section
set_option Elab.async false
set_option linter.all false
set_option maxRecDepth 100000
set_option maxHeartbeats 8000000
set_option pp.maxSteps 600
open PySem L2 D PyProof.Rows
local macro_rules
  | `(tactic| fail "z") => `(tactic| ((try simp only [List.length_map, List.length_cons, List.length_nil, List.length_append, List.length_drop, List.length_take]); have := big_line; omega))
local macro_rules
  | `(tactic| fail) => `(tactic| first
    | (refine (?_ : SE _ _ _ _ _ _); first | refine se_nm rfl ?_ | refine se_tyTuple (by assumption) ?_ | refine se_tyStr (by assumption) ?_ | refine se_tyInt (by assumption) ?_ | refine se_tyBool (by assumption) ?_ | refine se_int ?_ | refine se_str ?_ | refine se_non ?_ | refine se_bl ?_ | refine se_cmp ?_ | refine se_bin ?_ | refine se_ix ?_ | refine se_slice ?_ | refine se_tup ?_ | refine se_lst ?_ | (refine (?_ : SE _ _ _ _ (.Call _ _ _ _) _); first | refine se_any (by assumption) ?_ | refine se_all (by assumption) ?_ | refine se_len (by assumption) ?_ | refine se_min (by assumption) ?_ | refine se_max (by assumption) ?_ | refine se_sorted (by assumption) ?_ | refine se_isi (by assumption) ?_ | refine se_abs (by assumption) ?_ | refine se_sum (by assumption) ?_ | refine se_tupleC (by assumption) ?_ | refine se_listC (by assumption) ?_) | refine se_M rfl (by assumption) (blkOk_by rfl) ?_ | refine se_F rfl (by assumption) (blkOk_by rfl) ?_ | refine se_Dc rfl (by assumption) (blkOk_by rfl) ?_ | refine se_chain ?_ | refine se_indexN ?_ | refine se_not ?_ | refine se_if ?_ | refine se_one ?_ | refine se_and ?_ | refine se_or ?_ | refine se_neg ?_)
    | (refine (?_ : ST _ _ _ _ _ _); first | refine st_cmp ?_ | refine st_chain ?_ | refine st_not ?_ | refine st_w (sw_and ?_) | refine st_w (sw_or ?_) | refine st_val ?_)
    | (refine (?_ : SWt _ _ _ _ _ _); first | refine sw_and ?_ | refine sw_and1 ?_ | refine sw_or ?_ | refine sw_or1 ?_)
    | (refine (?_ : SA _ _ _ _ _ _); first | refine sa_cons ?_ | refine sa_nil ?_)
    | (refine (?_ : SO _ _ _ _ _ _); first | refine so_none ?_ | refine so_some ?_)
    | (refine (?_ : SS _ _ _ _ _ _); first | refine ss_one ?_ | refine ss_cons ?_)
    | (refine (?_ : S1 _ _ _ _ _ _); first | refine s_ret ?_ | refine s_if ?_ | refine s_M rfl (by assumption) (blkOk_by rfl) ?_ | refine s_F rfl (by assumption) (blkOk_by rfl) ?_ | refine s_Dc rfl (by assumption) (blkOk_by rfl) ?_ | refine s_st (by assumption) ?_ | refine s_aug (by assumption) rfl ?_ | refine s_asg ?_ | refine s_expr ?_)
    | (refine (?_ : SG _ _ _ _ _ _ _); first | refine sg_nm (by assumption) ?_ | refine sg_par rfl ?_ | refine sg_tup rfl ?_)
    | (refine (?_ : SGs _ _ _ _ _ _ _); first | refine sgs_cons ?_ | refine sgs_nil ?_)
    | (refine (?_ : SGb _ _ _ _ _ _ _ _); first | refine sgb_nm (by assumption) ?_ (by first | exact vs_self | exact vs_one | exact vs_two) | refine sgb_par rfl ?_ | refine sgb_tup rfl ?_)
    | (refine (?_ : SGbs _ _ _ _ _ _ _ _); first | refine sgbs_cons ?_ | refine sgbs_nil ?_)
    | (refine (?_ : SW _ _ _ _ _ _ _); first | refine sw_vals ?_ | refine sw_zipT (by assumption) ?_ | refine sw_range (by assumption) ?_ | refine sw_seq ?_)
    | (refine (?_ : OpV _ _ _ _ _ _ _ _); first | refine ov_eqN ?_ | refine ov_neN ?_ | refine ov_inN ?_ | refine ov_ninN ?_ | refine ov_inNT ?_ | refine ov_ninNT ?_ | refine oi_add ?_ | refine oi_catT (by fail "z") ?_ | refine ov_cat (by fail "z") ?_ | refine ov_catT (by fail "z") ?_ | refine ov_add ?_ | refine ov_sub ?_ | refine ov_lt ?_ | refine ov_le ?_ | refine ov_gt ?_ | refine ov_ge ?_ | refine ov_eqI ?_ | refine ov_neI ?_ | refine ov_eqS ?_ | refine ov_neS ?_ | refine ov_eqB ?_ | refine ov_neB ?_)
    | (refine (?_ : IxV _ _ _ _ _ _ _); first | refine iv_cons ?_ | refine iv_consT ?_)
    | (refine (?_ : SlV _ _ _ _ _ _ _ _); first | refine sv_fromL (by decide) ?_ | refine sv_fromT (by decide) ?_ | refine sv_toL (by decide) ?_ | refine sv_toT (by decide) ?_)
    | (refine (?_ : ClV _ _ _ _ _ _ _); first | refine cv_anyM rfl ?_ | refine cv_allM rfl ?_ | refine cv_len rfl ?_ | refine cv_tuple rfl ?_ | refine cv_list rfl ?_ | refine cv_abs ?_ | refine cv_isStr rfl ?_ | refine cv_isTup rfl ?_ | refine cv_isInt rfl ?_ | refine cv_isBool rfl ?_ | refine cv_sum rfl ?_)
    | refine turn0I (fun _ _ _ _ _ _ => ?_) | refine turn1I (fun _ _ _ _ _ _ => ?_) | refine turnDI (fun _ _ _ _ _ _ => ?_) | refine abI (fun _ _ _ _ _ => ?_) | refine iteT ?_ | refine iteF ?_ | refine And.intro (show _ ≤ sizeLine by fail "z") ?_ | refine ⟨_, rfl, ?_⟩)
local macro_rules
  | `(tactic| fail "e") => `(tactic| first
    | (refine (?_ : SE _ _ _ _ _ _); first | refine se_nm rfl ?_ | refine se_tyTuple (by assumption) ?_ | refine se_tyStr (by assumption) ?_ | refine se_tyInt (by assumption) ?_ | refine se_tyBool (by assumption) ?_ | refine se_int ?_ | refine se_str ?_ | refine se_non ?_ | refine se_bl ?_ | refine se_cmp ?_ | refine se_bin ?_ | refine se_ix ?_ | refine se_slice ?_ | refine se_tup ?_ | refine se_lst ?_ | (refine (?_ : SE _ _ _ _ (.Call _ _ _ _) _); first | refine se_any (by assumption) ?_ | refine se_all (by assumption) ?_ | refine se_len (by assumption) ?_ | refine se_min (by assumption) ?_ | refine se_max (by assumption) ?_ | refine se_sorted (by assumption) ?_ | refine se_isi (by assumption) ?_ | refine se_abs (by assumption) ?_ | refine se_sum (by assumption) ?_ | refine se_tupleC (by assumption) ?_ | refine se_listC (by assumption) ?_) | refine se_M rfl (by assumption) (blkOk_by rfl) ?_ | refine se_F rfl (by assumption) (blkOk_by rfl) ?_ | refine se_Dc rfl (by assumption) (blkOk_by rfl) ?_ | refine se_chain ?_ | refine se_indexN ?_ | refine se_not ?_ | refine se_if ?_ | refine se_one ?_ | refine se_and ?_ | refine se_or ?_ | refine se_neg ?_)
    | (refine (?_ : ST _ _ _ _ _ _); first | refine st_cmp ?_ | refine st_chain ?_ | refine st_not ?_ | refine st_w (sw_and ?_) | refine st_w (sw_or ?_) | refine st_val ?_)
    | (refine (?_ : SWt _ _ _ _ _ _); first | refine sw_and ?_ | refine sw_and1 ?_ | refine sw_or ?_ | refine sw_or1 ?_)
    | (refine (?_ : SA _ _ _ _ _ _); first | refine sa_cons ?_ | refine sa_nil ?_)
    | (refine (?_ : SO _ _ _ _ _ _); first | refine so_none ?_ | refine so_some ?_)
    | (refine (?_ : SG _ _ _ _ _ _ _); first | refine sg_nm (by assumption) ?_ | refine sg_par rfl ?_ | refine sg_tup rfl ?_)
    | (refine (?_ : SGs _ _ _ _ _ _ _); first | refine sgs_cons ?_ | refine sgs_nil ?_)
    | (refine (?_ : SGb _ _ _ _ _ _ _ _); first | refine sgb_nm (by assumption) ?_ (by first | exact vs_self | exact vs_one | exact vs_two) | refine sgb_par rfl ?_ | refine sgb_tup rfl ?_)
    | (refine (?_ : SGbs _ _ _ _ _ _ _ _); first | refine sgbs_cons ?_ | refine sgbs_nil ?_)
    | (refine (?_ : SW _ _ _ _ _ _ _); first | refine sw_vals ?_ | refine sw_zipT (by assumption) ?_ | refine sw_range (by assumption) ?_ | refine sw_seq ?_)
    | (refine (?_ : OpV _ _ _ _ _ _ _ _); first | refine ov_eqN ?_ | refine ov_neN ?_ | refine ov_inN ?_ | refine ov_ninN ?_ | refine ov_inNT ?_ | refine ov_ninNT ?_ | refine oi_add ?_ | refine oi_catT (by fail "z") ?_ | refine ov_cat (by fail "z") ?_ | refine ov_catT (by fail "z") ?_ | refine ov_add ?_ | refine ov_sub ?_ | refine ov_lt ?_ | refine ov_le ?_ | refine ov_gt ?_ | refine ov_ge ?_ | refine ov_eqI ?_ | refine ov_neI ?_ | refine ov_eqS ?_ | refine ov_neS ?_ | refine ov_eqB ?_ | refine ov_neB ?_)
    | (refine (?_ : IxV _ _ _ _ _ _ _); first | refine iv_cons ?_ | refine iv_consT ?_)
    | (refine (?_ : SlV _ _ _ _ _ _ _ _); first | refine sv_fromL (by decide) ?_ | refine sv_fromT (by decide) ?_ | refine sv_toL (by decide) ?_ | refine sv_toT (by decide) ?_)
    | (refine (?_ : ClV _ _ _ _ _ _ _); first | refine cv_anyM rfl ?_ | refine cv_allM rfl ?_ | refine cv_len rfl ?_ | refine cv_tuple rfl ?_ | refine cv_list rfl ?_ | refine cv_abs ?_ | refine cv_isStr rfl ?_ | refine cv_isTup rfl ?_ | refine cv_isInt rfl ?_ | refine cv_isBool rfl ?_ | refine cv_sum rfl ?_)
    | refine turn0I (fun _ _ _ _ _ _ => ?_) | refine turn1I (fun _ _ _ _ _ _ => ?_) | refine turnDI (fun _ _ _ _ _ _ => ?_) | refine abI (fun _ _ _ _ _ => ?_) | refine iteT ?_ | refine iteF ?_ | refine And.intro (show _ ≤ sizeLine by fail "z") ?_ | refine ⟨_, rfl, ?_⟩)
namespace W
open PySem L2 D PyProof.Rows
section
variable {P : Program} {w : World} {K : PySem.W.Frag} {mg : Str → Option Value} {base : Heap}
abbrev spLaw (K : PySem.W.Frag) : Sp := spP K (fun ns : List Int => [.fzl (ns.map .int)]) (fun ns => ns.length ≤ 63) (fun _ d => d = .bl true)
theorem ok_law {f : Addr} {fd : FuncData} (Fu : Fun K "law" "law" s_law f fd) (T : Txt mg) (D : Lw P w K mg base) : FnOk P w K mg base (L2.CX P w) 7 f fd ["_law_script"] (spLaw K) := by
  refine fn_P Fu sc_law (fun a => rfl) (fun cdv A outer s H E F ns hp hr => ?_)
  have nd := sc_law.nd
  have hrg := T.range
  have hmin := T.min
  have hmax := T.max
  have hlen := T.len
  have htup := T.tuple
  have hsort := T.sorted
  have hall := T.all
  refine ss_cons (s_for (passes_of rfl) rfl (sw_range hrg ?_))
  repeat fail "e"
  refine cv_lenF  ?_
  repeat fail "e"
  refine cv_min2 rfl ?_
  repeat fail "e"
  refine cv_max2 rfl ?_
  repeat fail "e"
  obtain ⟨m, hm⟩ : ∃ m : Nat, (m : Int) = (if (if ((ns.map Dt.int).length : Int) < 8 then ((ns.map Dt.int).length : Int) else 8) > 3 then (if ((ns.map Dt.int).length : Int) < 8 then ((ns.map Dt.int).length : Int) else 8) else 3) ∧ m ≤ 8 :=
    ⟨(if (if ((ns.map Dt.int).length : Int) < 8 then ((ns.map Dt.int).length : Int) else 8) > 3 then (if ((ns.map Dt.int).length : Int) < 8 then ((ns.map Dt.int).length : Int) else 8) else 3).toNat, by split <;> split <;> omega, by split <;> split <;> omega⟩
  rw [← hm.1]
  refine ⟨by omega, by omega, ?_⟩
  rw [Int.toNat_natCast, idxs_eq]
  refine for_t (fun rest Γ c => ∃ u1 u2 u3 u4 u5 u6 u7 u8 u9 ua ub uc ud ue uf ug, Γ = [.dat (.fzl (ns.map .int)), u1, u2, u3, u4, u5, u6, u7, u8, u9, ua, ub, uc, ud, ue, uf, ug] ∧ c = []) ⟨_, _, _, _, _, _, _, _, _, _, _, _, _, _, _, _, rfl, rfl⟩ ?_ ?_
  · rintro pre k rest Γ c hl ⟨u1, u2, u3, u4, u5, u6, u7, u8, u9, ua, ub, uc, ud, ue, uf, ug, rfl, rfl⟩
    have hk8 := range_pre hl
    repeat fail "e"
    refine ss_cons (s_st nd (se_fG D.bag (hr.mono (by decide)) XT.no ?_))
    repeat fail "e"
    refine ⟨(ns, (k : Int)), [], [], rfl, rfl, ⟨by omega, by omega⟩, ?_, fun _ _ z => z⟩
    rintro _ _ ⟨b, rfl, rfl⟩
    refine ss_cons (s_st nd (se_fB 0 D.names (hr.mono (by decide)) ?_))
    repeat fail "e"
    refine se_fB 0 D.take (hr.mono (by decide)) ?_
    repeat fail "e"
    refine ⟨b, 0, 5, rfl, rfl, ⟨by decide, by decide⟩, by decide, ?_⟩
    rintro _ ⟨k1, rfl, hk10, hk11⟩
    repeat fail "e"
    refine ⟨b, 1, 2 + k1, rfl, rfl, ⟨by omega, by omega⟩, by decide, ?_⟩
    rintro _ ⟨nms, rfl, hnl, hnd⟩
    refine ss_cons (s_st nd (se_fB 0 D.some (hr.mono (by decide)) ?_))
    repeat fail "e"
    refine ⟨b, _, (nms, 6), rfl, rfl, ⟨hnd, by show nms.length ≤ 100; omega, by show (0 : Int) ≤ 6; decide, by show (6 : Int) ≤ 100; decide⟩, by show 1 + 10 + 7 ≤ 1000000000; decide, ?_⟩
    rintro _ ⟨ord, rfl, hord, _, hordl⟩
    have hordl : ord.length ≤ 6 := by have : (ord.length : Int) ≤ 6 := hordl; omega
    refine ss_cons (s_for (passes_of rfl) rfl (sw_range hrg ?_))
    repeat fail "e"
    refine ⟨by decide, by decide, ?_⟩
    rw [idxs_eq]
    refine for_t (fun left Γ c => ∃ u5 u6 u7 u8 u9 ua ub uc ud ue uf ug n', Γ = [.dat (.fzl (ns.map .int)), .dat (.int (k : Int)), .dat (.raw (.ref b)), .dat (nL nms), .dat (nT ord), u5, u6, u7, u8, u9, ua, ub, uc, ud, ue, uf, ug] ∧ c = [(b, .bag n')] ∧ n' + 100 * left.length ≤ 1000) ⟨_, _, _, _, _, _, _, _, _, _, _, _, _, rfl, rfl, by show 1 + 10 + 7 + 100 * 4 ≤ 1000; decide⟩ ?_ ?_
    · rintro pre2 t left Γ c hl2 ⟨u5, u6, u7, u8, u9, ua, ub, uc, ud, ue, uf, ug, n', rfl, rfl, hn'⟩
      rw [List.length_cons] at hn'
      repeat fail "e"
      refine ss_cons (s_J rfl nd (blkOk_by rfl) (sw_range hrg ?_))
      repeat fail "e"
      refine se_fB 0 D.take (hr.mono (by decide)) ?_
      repeat fail "e"
      refine ⟨b, n', 5, rfl, rfl, ⟨by decide, by decide⟩, by show n' + 1 ≤ 1000000000; omega, ?_⟩
      rintro _ ⟨k2, rfl, hk20, hk21⟩
      repeat fail "e"
      refine ⟨by omega, by omega, ?_⟩
      rw [idxs_eq]
      refine lcJ nT (fun i c' acc => ∃ n2, c' = [(b, .bag n2)] ∧ n2 ≤ n' + 1 + 7 * i ∧ acc.length = i ∧ ∀ r ∈ acc, r.Nodup ∧ r.length ≤ 6) (by rw [List.length_range]; have := big_line; omega) ⟨_, rfl, by show n' + 1 ≤ _; omega, rfl, fun _ h => nomatch h⟩ ?_ ?_
      · rintro i r0 c' acc hi ⟨n2, rfl, hn2, hal, har⟩
        have hi5 : i < 5 := by
          have := (List.getElem?_eq_some_iff.mp hi).1
          rw [List.length_range] at this; omega
        repeat fail "e"
        refine se_fB 0 D.some (hr.mono (by decide)) ?_
        repeat fail "e"
        refine ⟨b, n2, (nms, 6), rfl, rfl, ⟨hnd, by show nms.length ≤ 100; omega, by show (0 : Int) ≤ 6; decide, by show (6 : Int) ≤ 100; decide⟩, by show n2 + 7 ≤ 1000000000; omega, ?_⟩
        rintro _ ⟨r, rfl, hr1, _, hr2⟩
        refine ⟨r, rfl, _, rfl, by show n2 + 7 ≤ _; omega, by rw [List.length_append, hal]; rfl, fun z hz => ?_⟩
        rcases List.mem_append.mp hz with q | q
        · exact har z q
        · rw [List.mem_singleton.mp q]
          exact ⟨hr1, by have : (r.length : Int) ≤ 6 := hr2; omega⟩
      rintro c' L0 ⟨n2, rfl, hn2, hal, har⟩
      rw [List.length_range] at hn2 hal
      have hG0 : Good L0 := ⟨⟨by omega, by omega⟩, har⟩
      refine ss_mid (fun Γ c => ∃ u7 u8 u9 ua ub uc ud ue uf ug n3 L, Γ = [.dat (.fzl (ns.map .int)), .dat (.int (k : Int)), .dat (.raw (.ref b)), .dat (nL nms), .dat (nT ord), .dat (.int (t : Int)), .dat (lltD L), u7, u8, u9, ua, ub, uc, ud, ue, uf, ug] ∧ c = [(b, .bag n3)] ∧ n3 ≤ n' + 40 ∧ Good L) (s_if ?_) ?_
      · repeat fail "e"
        refine se_fB 0 D.take (hr.mono (by decide)) ?_
        repeat fail "e"
        refine ⟨b, n2, 3, rfl, rfl, ⟨by decide, by decide⟩, by show n2 + 1 ≤ 1000000000; omega, ?_⟩
        rintro _ ⟨k3, rfl, hk30, hk31⟩
        repeat fail "e"
        have hL0 := hG0.len.2
        refine ite2 (fun h => ?_) (fun h => ?_)
        · repeat fail
          refine lcM (fun r => nT (ord.filter fun x => decide (x ∈ r))) (by fail "z") ?_ ?_
          · intro r hr'
            repeat fail "e"
            refine lcF (fun x => decide (x ∈ r)) nD (by fail "z") ?_ ?_
            · intro x hx
              repeat fail "e"
              refine filt_end (fun h => ?_) (fun h => ?_)
              · repeat fail "e"
                exact ⟨h, rfl, rfl⟩
              · exact ⟨rfl, h⟩
            repeat fail "e"
            exact ⟨rfl, rfl⟩
          refine ⟨_, _, _, _, _, _, _, _, _, _, _, L0.map fun r => ord.filter fun x => decide (x ∈ r), by rw [lltD, List.map_map]; rfl, rfl, by show n2 + 1 ≤ _; omega, ⟨by rw [List.length_map]; exact hG0.len, fun r hr' => ?_⟩⟩
          obtain ⟨r', _, rfl⟩ := List.mem_map.mp hr'
          exact ⟨hord.filter _, Nat.le_trans (List.length_filter_le _ _) hordl⟩
        · exact ss_nil ⟨_, _, _, _, _, _, _, _, _, _, _, L0, rfl, rfl, by show n2 + 1 ≤ _; omega, hG0⟩
      rintro Γ c ⟨u7, u8, u9, ua, ub, uc, ud, ue, uf, ug, n3, L, rfl, rfl, hn3, hG⟩
      exact law_rest T D hr hG (by omega) fun v7 v8 v9 va vb vc vd ve vf vg n4 h4 => ⟨_, _, _, _, _, _, _, _, _, _, _, _, n4, rfl, rfl, by omega⟩
    · rintro Γ c ⟨u5, u6, u7, u8, u9, ua, ub, uc, ud, ue, uf, ug, n', rfl, rfl, hn'⟩
      exact ss_clear (ss_nil ⟨_, _, _, _, _, _, _, _, _, _, _, _, _, _, _, _, rfl, rfl⟩)
  · rintro Γ c ⟨u1, u2, u3, u4, u5, u6, u7, u8, u9, ua, ub, uc, ud, ue, uf, ug, rfl, rfl⟩
    repeat fail
    exact ⟨rfl, rfl⟩
end
end W
end
section
set_option Elab.async false
set_option linter.all false
set_option maxRecDepth 100000
set_option maxHeartbeats 8000000
namespace K05
open PySem L2 D W PyProof.Rows
theorem exm_self {K : PySem.W.Frag} {S : Addr} (h1 : PySem.W.subIn K (.ref S) (.type "BaseException") = some true) (h2 : PySem.W.isClsIn K S = true) (h3 : PySem.W.typeIn K (.ref S) = some (.type "type")) (h4 : PySem.W.subIn K (.ref S) (.ref S) = some true) :
    PySem.W.exmOne K (.ref S) (.ref S) = some true := by
  have e1 : (PySem.W.subIn K (.ref S) (.type "BaseException") == some true) = true := by rw [h1] <;> rfl
  have e2 : ((PySem.W.clsIn K S).isSome && PySem.W.typeIn K (.ref S) == some (.type "type")) = true := by
    have h2' : (PySem.W.clsIn K S).isSome = true := h2
    rw [h2', h3] <;> rfl
  show (if (PySem.W.subIn K (.ref S) (.type "BaseException") == some true) = true then (if ((PySem.W.clsIn K S).isSome && PySem.W.typeIn K (.ref S) == some (.type "type")) = true then PySem.W.subIn K (.ref S) (.ref S) else none) else none) = some true
  rw [if_pos e1, if_pos e2]
  exact h4
theorem all_mk {l : PySem.W.OpenLaw} {w : World} {K : PySem.W.Frag} {h : Heap} {mg : Str → Option Value} {fa : Addr} {C : Addr} (X : K.In h) (Gg : h.Ns mainGlobals mg) (hfa : mg "law" = some (.ref fa))
    {nmC qC : Str} {NC : Addr} {bsC : List Value} {snC : List Str} {subC : List Value} {abC : Bool} {colC : Option Bool} {ddC : Option Addr} {m0C m1C m2C m3C m5C : Option Value}
    {fd0 : Addr} {odd0 and0 : Option Addr} {sld0 : Array (Option Value)} {ocd0 kVd0 dcd0 pmd0 cdd0 ctd0 : Value}
    {fd1 : Addr} {odd1 and1 : Option Addr} {sld1 : Array (Option Value)} {ocd1 kVd1 dcd1 pmd1 cdd1 ctd1 : Value}
    {fd2 : Addr} {odd2 and2 : Option Addr} {sld2 : Array (Option Value)} {ocd2 kVd2 dcd2 pmd2 cdd2 ctd2 : Value}
    {fd3 : Addr} {odd3 and3 : Option Addr} {sld3 : Array (Option Value)} {ocd3 kVd3 dcd3 pmd3 cdd3 ctd3 : Value}
    {fd4 : Addr} {odd4 and4 : Option Addr} {sld4 : Array (Option Value)} {ocd4 kVd4 dcd4 pmd4 cdd4 ctd4 : Value}
    {fd5 : Addr} {odd5 and5 : Option Addr} {sld5 : Array (Option Value)} {ocd5 kVd5 dcd5 pmd5 cdd5 ctd5 : Value}
    {fd6 : Addr} {odd6 and6 : Option Addr} {sld6 : Array (Option Value)} {ocd6 kVd6 dcd6 pmd6 cdd6 ctd6 : Value}
    {fd7 : Addr} {odd7 and7 : Option Addr} {sld7 : Array (Option Value)} {ocd7 kVd7 dcd7 pmd7 cdd7 ctd7 : Value}
    {fd8 : Addr} {odd8 and8 : Option Addr} {sld8 : Array (Option Value)} {ocd8 kVd8 dcd8 pmd8 cdd8 ctd8 : Value}
    {fd9 : Addr} {odd9 and9 : Option Addr} {sld9 : Array (Option Value)} {ocd9 kVd9 dcd9 pmd9 cdd9 ctd9 : Value}
    {fd10 : Addr} {odd10 and10 : Option Addr} {sld10 : Array (Option Value)} {ocd10 kVd10 dcd10 pmd10 cdd10 ctd10 : Value}
    {fd11 : Addr} {odd11 and11 : Option Addr} {sld11 : Array (Option Value)} {ocd11 kVd11 dcd11 pmd11 cdd11 ctd11 : Value}
    {fd12 : Addr} {odd12 and12 : Option Addr} {sld12 : Array (Option Value)} {ocd12 kVd12 dcd12 pmd12 cdd12 ctd12 : Value}
    {fd13 : Addr} {odd13 and13 : Option Addr} {sld13 : Array (Option Value)} {ocd13 kVd13 dcd13 pmd13 cdd13 ctd13 : Value}
    {fd14 : Addr} {odd14 and14 : Option Addr} {sld14 : Array (Option Value)} {ocd14 kVd14 dcd14 pmd14 cdd14 ctd14 : Value}
    {fd15 : Addr} {odd15 and15 : Option Addr} {sld15 : Array (Option Value)} {ocd15 kVd15 dcd15 pmd15 cdd15 ctd15 : Value}
    {fd16 : Addr} {odd16 and16 : Option Addr} {sld16 : Array (Option Value)} {ocd16 kVd16 dcd16 pmd16 cdd16 ctd16 : Value}
    {fd17 : Addr} {odd17 and17 : Option Addr} {sld17 : Array (Option Value)} {ocd17 kVd17 dcd17 pmd17 cdd17 ctd17 : Value}
    {fd18 : Addr} {odd18 and18 : Option Addr} {sld18 : Array (Option Value)} {ocd18 kVd18 dcd18 pmd18 cdd18 ctd18 : Value}
    {fd19 : Addr} {odd19 and19 : Option Addr} {sld19 : Array (Option Value)} {ocd19 kVd19 dcd19 pmd19 cdd19 ctd19 : Value}
    {fc0 : Addr} {odc0 anc0 : Option Addr} {slc0 : Array (Option Value)} {occ0 kVc0 dcc0 pmc0 cdc0 ctc0 : Value}
    (aC : PySem.W.nsIn K mainGlobals "NoMerge" = some (some (.ref C)))
    (xLC : K.lookup C = some (excClassObj nmC qC C NC bsC [.type "ValueError", .type "Exception", .type "BaseException", .type "object"] true snC subC abC colC ddC m0C m1C m2C m3C m5C "ValueError.__new__"))
    (saC : PySem.W.findIn K (.ref C) "__setattr__" = some (some (.builtin "object.__setattr__")))
    (gaC : PySem.W.findIn K (.ref C) "__getattribute__" = some (some (.builtin "BaseException.__getattribute__")))
    (ggC : PySem.W.findIn K (.ref C) "__getattr__" = some none)
    (nCring : PySem.W.findIn K (.ref C) "ring" = some none)
    (kCC : PySem.W.keepIn K (.ref C) = true)
    (eCC : PySem.W.subIn K (.ref C) (.type "BaseException") = some true)
    (tCC : PySem.W.typeIn K (.ref C) = some (.type "type"))
    (hCC : PySem.W.hasDictIn K C = true)
    (iCC : PySem.W.isClsIn K C = true)
    (sCC : PySem.W.subIn K (.ref C) (.ref C) = some true)
    (vV : PySem.W.findCls K (.type "ValueError") (.type "type") "__init__" = some (.val (.builtin "ValueError.__init__")))
    (ad0 : PySem.W.nsIn K mainGlobals "next_name" = some (some (.ref fd0)))
    (ld0 : K.lookup fd0 = some ⟨ocd0, odd0, .func (PySem.W.fnOf "next_name" "next_name" (defArgs s_next_name) (defBody s_next_name) (defScope s_next_name) .none kVd0 dcd0 pmd0 and0 cdd0 ctd0), sld0⟩)
    (cd0 : PySem.W.codeIn K cdd0 "next_name" = true)
    (kd0 : PySem.W.keepIn K (.ref fd0) = true)
    (ad1 : PySem.W.nsIn K mainGlobals "earliest_demands" = some (some (.ref fd1)))
    (ld1 : K.lookup fd1 = some ⟨ocd1, odd1, .func (PySem.W.fnOf "earliest_demands" "earliest_demands" (defArgs s_earliest_demands) (defBody s_earliest_demands) (defScope s_earliest_demands) .none kVd1 dcd1 pmd1 and1 cdd1 ctd1), sld1⟩)
    (cd1 : PySem.W.codeIn K cdd1 "earliest_demands" = true)
    (kd1 : PySem.W.keepIn K (.ref fd1) = true)
    (ad2 : PySem.W.nsIn K mainGlobals "distances_to" = some (some (.ref fd2)))
    (ld2 : K.lookup fd2 = some ⟨ocd2, odd2, .func (PySem.W.fnOf "distances_to" "distances_to" (defArgs s_distances_to) (defBody s_distances_to) (defScope s_distances_to) .none kVd2 dcd2 pmd2 and2 cdd2 ctd2), sld2⟩)
    (cd2 : PySem.W.codeIn K cdd2 "distances_to" = true)
    (kd2 : PySem.W.keepIn K (.ref fd2) = true)
    (ad3 : PySem.W.nsIn K mainGlobals "is_integer" = some (some (.ref fd3)))
    (ld3 : K.lookup fd3 = some ⟨ocd3, odd3, .func (PySem.W.fnOf "is_integer" "is_integer" (defArgs s_is_integer) (defBody s_is_integer) (defScope s_is_integer) .none kVd3 dcd3 pmd3 and3 cdd3 ctd3), sld3⟩)
    (cd3 : PySem.W.codeIn K cdd3 "is_integer" = true)
    (kd3 : PySem.W.keepIn K (.ref fd3) = true)
    (ad4 : PySem.W.nsIn K mainGlobals "_law_bag" = some (some (.ref fd4)))
    (ld4 : K.lookup fd4 = some ⟨ocd4, odd4, .func (PySem.W.fnOf "_law_bag" "_law_bag" (defArgs s__law_bag) (defBody s__law_bag) (defScope s__law_bag) .none kVd4 dcd4 pmd4 and4 cdd4 ctd4), sld4⟩)
    (cd4 : PySem.W.codeIn K cdd4 "_law_bag" = true)
    (kd4 : PySem.W.keepIn K (.ref fd4) = true)
    (ad5 : PySem.W.nsIn K mainGlobals "_law_take" = some (some (.ref fd5)))
    (ld5 : K.lookup fd5 = some ⟨ocd5, odd5, .func (PySem.W.fnOf "_law_take" "_law_take" (defArgs s__law_take) (defBody s__law_take) (defScope s__law_take) .none kVd5 dcd5 pmd5 and5 cdd5 ctd5), sld5⟩)
    (cd5 : PySem.W.codeIn K cdd5 "_law_take" = true)
    (kd5 : PySem.W.keepIn K (.ref fd5) = true)
    (ad6 : PySem.W.nsIn K mainGlobals "_law_open" = some (some (.ref fd6)))
    (ld6 : K.lookup fd6 = some ⟨ocd6, odd6, .func (PySem.W.fnOf "_law_open" "_law_open" (defArgs s__law_open) (defBody s__law_open) (defScope s__law_open) .none kVd6 dcd6 pmd6 and6 cdd6 ctd6), sld6⟩)
    (cd6 : PySem.W.codeIn K cdd6 "_law_open" = true)
    (kd6 : PySem.W.keepIn K (.ref fd6) = true)
    (ad7 : PySem.W.nsIn K mainGlobals "_law_keeps" = some (some (.ref fd7)))
    (ld7 : K.lookup fd7 = some ⟨ocd7, odd7, .func (PySem.W.fnOf "_law_keeps" "_law_keeps" (defArgs s__law_keeps) (defBody s__law_keeps) (defScope s__law_keeps) .none kVd7 dcd7 pmd7 and7 cdd7 ctd7), sld7⟩)
    (cd7 : PySem.W.codeIn K cdd7 "_law_keeps" = true)
    (kd7 : PySem.W.keepIn K (.ref fd7) = true)
    (ad8 : PySem.W.nsIn K mainGlobals "merge_or_none" = some (some (.ref fd8)))
    (ld8 : K.lookup fd8 = some ⟨ocd8, odd8, .func (PySem.W.fnOf "merge_or_none" "merge_or_none" (defArgs s_merge_or_none) (defBody s_merge_or_none) (defScope s_merge_or_none) .none kVd8 dcd8 pmd8 and8 cdd8 ctd8), sld8⟩)
    (cd8 : PySem.W.codeIn K cdd8 "merge_or_none" = true)
    (kd8 : PySem.W.keepIn K (.ref fd8) = true)
    (ad9 : PySem.W.nsIn K mainGlobals "least_road" = some (some (.ref fd9)))
    (ld9 : K.lookup fd9 = some ⟨ocd9, odd9, .func (PySem.W.fnOf "least_road" "least_road" (defArgs s_least_road) (defBody s_least_road) (defScope s_least_road) .none kVd9 dcd9 pmd9 and9 cdd9 ctd9), sld9⟩)
    (cd9 : PySem.W.codeIn K cdd9 "least_road" = true)
    (kd9 : PySem.W.keepIn K (.ref fd9) = true)
    (ad10 : PySem.W.nsIn K mainGlobals "is_demand" = some (some (.ref fd10)))
    (ld10 : K.lookup fd10 = some ⟨ocd10, odd10, .func (PySem.W.fnOf "is_demand" "is_demand" (defArgs s_is_demand) (defBody s_is_demand) (defScope s_is_demand) .none kVd10 dcd10 pmd10 and10 cdd10 ctd10), sld10⟩)
    (cd10 : PySem.W.codeIn K cdd10 "is_demand" = true)
    (kd10 : PySem.W.keepIn K (.ref fd10) = true)
    (ad11 : PySem.W.nsIn K mainGlobals "_law_names" = some (some (.ref fd11)))
    (ld11 : K.lookup fd11 = some ⟨ocd11, odd11, .func (PySem.W.fnOf "_law_names" "_law_names" (defArgs s__law_names) (defBody s__law_names) (defScope s__law_names) .none kVd11 dcd11 pmd11 and11 cdd11 ctd11), sld11⟩)
    (cd11 : PySem.W.codeIn K cdd11 "_law_names" = true)
    (kd11 : PySem.W.keepIn K (.ref fd11) = true)
    (ad12 : PySem.W.nsIn K mainGlobals "_law_some" = some (some (.ref fd12)))
    (ld12 : K.lookup fd12 = some ⟨ocd12, odd12, .func (PySem.W.fnOf "_law_some" "_law_some" (defArgs s__law_some) (defBody s__law_some) (defScope s__law_some) .none kVd12 dcd12 pmd12 and12 cdd12 ctd12), sld12⟩)
    (cd12 : PySem.W.codeIn K cdd12 "_law_some" = true)
    (kd12 : PySem.W.keepIn K (.ref fd12) = true)
    (ad13 : PySem.W.nsIn K mainGlobals "least_ring" = some (some (.ref fd13)))
    (ld13 : K.lookup fd13 = some ⟨ocd13, odd13, .func (PySem.W.fnOf "least_ring" "least_ring" (defArgs s_least_ring) (defBody s_least_ring) (defScope s_least_ring) .none kVd13 dcd13 pmd13 and13 cdd13 ctd13), sld13⟩)
    (cd13 : PySem.W.codeIn K cdd13 "least_ring" = true)
    (kd13 : PySem.W.keepIn K (.ref fd13) = true)
    (ad14 : PySem.W.nsIn K mainGlobals "is_road" = some (some (.ref fd14)))
    (ld14 : K.lookup fd14 = some ⟨ocd14, odd14, .func (PySem.W.fnOf "is_road" "is_road" (defArgs s_is_road) (defBody s_is_road) (defScope s_is_road) .none kVd14 dcd14 pmd14 and14 cdd14 ctd14), sld14⟩)
    (cd14 : PySem.W.codeIn K cdd14 "is_road" = true)
    (kd14 : PySem.W.keepIn K (.ref fd14) = true)
    (ad15 : PySem.W.nsIn K mainGlobals "merge_or_ring" = some (some (.ref fd15)))
    (ld15 : K.lookup fd15 = some ⟨ocd15, odd15, .func (PySem.W.fnOf "merge_or_ring" "merge_or_ring" (defArgs s_merge_or_ring) (defBody s_merge_or_ring) (defScope s_merge_or_ring) .none kVd15 dcd15 pmd15 and15 cdd15 ctd15), sld15⟩)
    (cd15 : PySem.W.codeIn K cdd15 "merge_or_ring" = true)
    (kd15 : PySem.W.keepIn K (.ref fd15) = true)
    (ad16 : PySem.W.nsIn K mainGlobals "is_ring" = some (some (.ref fd16)))
    (ld16 : K.lookup fd16 = some ⟨ocd16, odd16, .func (PySem.W.fnOf "is_ring" "is_ring" (defArgs s_is_ring) (defBody s_is_ring) (defScope s_is_ring) .none kVd16 dcd16 pmd16 and16 cdd16 ctd16), sld16⟩)
    (cd16 : PySem.W.codeIn K cdd16 "is_ring" = true)
    (kd16 : PySem.W.keepIn K (.ref fd16) = true)
    (ad17 : PySem.W.nsIn K mainGlobals "merged" = some (some (.ref fd17)))
    (ld17 : K.lookup fd17 = some ⟨ocd17, odd17, .func (PySem.W.fnOf "merged" "merged" (defArgs s_merged) (defBody s_merged) (defScope s_merged) .none kVd17 dcd17 pmd17 and17 cdd17 ctd17), sld17⟩)
    (cd17 : PySem.W.codeIn K cdd17 "merged" = true)
    (kd17 : PySem.W.keepIn K (.ref fd17) = true)
    (ad18 : PySem.W.nsIn K mainGlobals "_law_told" = some (some (.ref fd18)))
    (ld18 : K.lookup fd18 = some ⟨ocd18, odd18, .func (PySem.W.fnOf "_law_told" "_law_told" (defArgs s__law_told) (defBody s__law_told) (defScope s__law_told) .none kVd18 dcd18 pmd18 and18 cdd18 ctd18), sld18⟩)
    (cd18 : PySem.W.codeIn K cdd18 "_law_told" = true)
    (kd18 : PySem.W.keepIn K (.ref fd18) = true)
    (ad19 : PySem.W.nsIn K mainGlobals "law" = some (some (.ref fd19)))
    (ld19 : K.lookup fd19 = some ⟨ocd19, odd19, .func (PySem.W.fnOf "law" "law" (defArgs s_law) (defBody s_law) (defScope s_law) .none kVd19 dcd19 pmd19 and19 cdd19 ctd19), sld19⟩)
    (cd19 : PySem.W.codeIn K cdd19 "law" = true)
    (kd19 : PySem.W.keepIn K (.ref fd19) = true)
    (ac0 : PySem.W.findIn K (.ref C) "__init__" = some (some (.ref fc0)))
    (lc0 : K.lookup fc0 = some ⟨occ0, odc0, .func (PySem.W.fnOf "__init__" "NoMerge.__init__" (defArgs s_NoMerge___init__) (defBody s_NoMerge___init__) (defScope s_NoMerge___init__) .none kVc0 dcc0 pmc0 anc0 cdc0 ctc0), slc0⟩)
    (cc0 : PySem.W.codeIn K cdc0 "NoMerge.__init__" = true)
    (kc0 : PySem.W.keepIn K (.ref fc0) = true)
    (tI0 : PySem.W.typeIn K (.ref fc0) = some (.type "function"))
    (zany : PySem.W.nsIn K mainGlobals "any" = some none)
    (zall : PySem.W.nsIn K mainGlobals "all" = some none)
    (zlen : PySem.W.nsIn K mainGlobals "len" = some none)
    (zmin : PySem.W.nsIn K mainGlobals "min" = some none)
    (zmax : PySem.W.nsIn K mainGlobals "max" = some none)
    (zabs : PySem.W.nsIn K mainGlobals "abs" = some none)
    (zisinstance : PySem.W.nsIn K mainGlobals "isinstance" = some none)
    (ztuple : PySem.W.nsIn K mainGlobals "tuple" = some none)
    (zlist : PySem.W.nsIn K mainGlobals "list" = some none)
    (zsorted : PySem.W.nsIn K mainGlobals "sorted" = some none)
    (zsum : PySem.W.nsIn K mainGlobals "sum" = some none)
    (zstr : PySem.W.nsIn K mainGlobals "str" = some none)
    (zint : PySem.W.nsIn K mainGlobals "int" = some none)
    (zbool : PySem.W.nsIn K mainGlobals "bool" = some none)
    (zrange : PySem.W.nsIn K mainGlobals "range" = some none)
    (zenumerate : PySem.W.nsIn K mainGlobals "enumerate" = some none)
    (zzip : PySem.W.nsIn K mainGlobals "zip" = some none)
    (zValueError : PySem.W.nsIn K mainGlobals "ValueError" = some none)
    : ∃ fd : FuncData, (∀ (s : Shared) (v : Value), BindsTo s fd ⟨[v], []⟩ [("_law_script", v)]) ∧ ∀ base : Heap, K.In base → base.Ns mainGlobals mg → FnOk l.prog w K mg base (L2.CX l.prog w) 7 fa fd ["_law_script"] (spLaw K) := by
  have e := hfa.symm.trans (PySem.W.mg_of X Gg ad19)
  cases e
  have T : Txt mg := { any := PySem.W.mg_none_of X Gg zany, all := PySem.W.mg_none_of X Gg zall, len := PySem.W.mg_none_of X Gg zlen, min := PySem.W.mg_none_of X Gg zmin, max := PySem.W.mg_none_of X Gg zmax, abs := PySem.W.mg_none_of X Gg zabs, isi := PySem.W.mg_none_of X Gg zisinstance, tuple := PySem.W.mg_none_of X Gg ztuple, list := PySem.W.mg_none_of X Gg zlist, sorted := PySem.W.mg_none_of X Gg zsorted, sum := PySem.W.mg_none_of X Gg zsum, str := PySem.W.mg_none_of X Gg zstr, int := PySem.W.mg_none_of X Gg zint, bool := PySem.W.mg_none_of X Gg zbool, range := PySem.W.mg_none_of X Gg zrange, enumerate := PySem.W.mg_none_of X Gg zenumerate, zip := PySem.W.mg_none_of X Gg zzip }
  have Fd0 := fun_mk (st := s_next_name) ld0 cd0 kd0
  have Fd1 := fun_mk (st := s_earliest_demands) ld1 cd1 kd1
  have Fd2 := fun_mk (st := s_distances_to) ld2 cd2 kd2
  have Fd3 := fun_mk (st := s_is_integer) ld3 cd3 kd3
  have Fd4 := fun_mk (st := s__law_bag) ld4 cd4 kd4
  have Fd5 := fun_mk (st := s__law_take) ld5 cd5 kd5
  have Fd6 := fun_mk (st := s__law_open) ld6 cd6 kd6
  have Fd7 := fun_mk (st := s__law_keeps) ld7 cd7 kd7
  have Fd8 := fun_mk (st := s_merge_or_none) ld8 cd8 kd8
  have Fd9 := fun_mk (st := s_least_road) ld9 cd9 kd9
  have Fd10 := fun_mk (st := s_is_demand) ld10 cd10 kd10
  have Fd11 := fun_mk (st := s__law_names) ld11 cd11 kd11
  have Fd12 := fun_mk (st := s__law_some) ld12 cd12 kd12
  have Fd13 := fun_mk (st := s_least_ring) ld13 cd13 kd13
  have Fd14 := fun_mk (st := s_is_road) ld14 cd14 kd14
  have Fd15 := fun_mk (st := s_merge_or_ring) ld15 cd15 kd15
  have Fd16 := fun_mk (st := s_is_ring) ld16 cd16 kd16
  have Fd17 := fun_mk (st := s_merged) ld17 cd17 kd17
  have Fd18 := fun_mk (st := s__law_told) ld18 cd18 kd18
  have Fd19 := fun_mk (st := s_law) ld19 cd19 kd19
  have Fc0 := fun_mk (st := s_NoMerge___init__) lc0 cc0 kc0
  have bd0 := Fd0.binds (ps := ["rows"]) fun _ _ _ _ _ _ us hl => match us, hl with | [_], _ => rfl
  have bd1 := Fd1.binds (ps := ["lists"]) fun _ _ _ _ _ _ us hl => match us, hl with | [_], _ => rfl
  have bd2 := Fd2.binds (ps := ["demands", "goal"]) fun _ _ _ _ _ _ us hl => match us, hl with | [_, _], _ => rfl
  have bd3 := Fd3.binds (ps := ["thing"]) fun _ _ _ _ _ _ us hl => match us, hl with | [_], _ => rfl
  have bd4 := Fd4.binds (ps := ["_law_script", "_law_at"]) fun _ _ _ _ _ _ us hl => match us, hl with | [_, _], _ => rfl
  have bd5 := Fd5.binds (ps := ["_law_bag_here", "_law_many"]) fun _ _ _ _ _ _ us hl => match us, hl with | [_, _], _ => rfl
  have bd6 := Fd6.binds (ps := ["_law_lists"]) fun _ _ _ _ _ _ us hl => match us, hl with | [_], _ => rfl
  have bd7 := Fd7.binds (ps := ["_law_whole", "_law_row"]) fun _ _ _ _ _ _ us hl => match us, hl with | [_, _], _ => rfl
  have bd8 := Fd8.binds (ps := ["lists"]) fun _ _ _ _ _ _ us hl => match us, hl with | [_], _ => rfl
  have bd9 := Fd9.binds (ps := ["demands", "start", "goal"]) fun _ _ _ _ _ _ us hl => match us, hl with | [_, _, _], _ => rfl
  have bd10 := Fd10.binds (ps := ["lists", "thing"]) fun _ _ _ _ _ _ us hl => match us, hl with | [_, _], _ => rfl
  have bd11 := Fd11.binds (ps := ["_law_bag_here", "_law_many"]) fun _ _ _ _ _ _ us hl => match us, hl with | [_, _], _ => rfl
  have bd12 := Fd12.binds (ps := ["_law_bag_here", "_law_things", "_law_most"]) fun _ _ _ _ _ _ us hl => match us, hl with | [_, _, _], _ => rfl
  have bd13 := Fd13.binds (ps := ["lists"]) fun _ _ _ _ _ _ us hl => match us, hl with | [_], _ => rfl
  have bd14 := Fd14.binds (ps := ["lists", "thing"]) fun _ _ _ _ _ _ us hl => match us, hl with | [_, _], _ => rfl
  have bd15 := Fd15.binds (ps := ["lists"]) fun _ _ _ _ _ _ us hl => match us, hl with | [_], _ => rfl
  have bd16 := Fd16.binds (ps := ["lists", "thing"]) fun _ _ _ _ _ _ us hl => match us, hl with | [_, _], _ => rfl
  have bd17 := Fd17.binds (ps := ["lists"]) fun _ _ _ _ _ _ us hl => match us, hl with | [_], _ => rfl
  have bd18 := Fd18.binds (ps := ["_law_lists"]) fun _ _ _ _ _ _ us hl => match us, hl with | [_], _ => rfl
  have bc0 := Fc0.binds (ps := ["self", "ring"]) fun _ _ _ _ _ _ us hl => match us, hl with | [_, _], _ => rfl
  refine ⟨PySem.W.fnOf "law" "law" (defArgs s_law) (defBody s_law) (defScope s_law) .none kVd19 dcd19 pmd19 and19 cdd19 ctd19, fun s v => .of_eq rfl, fun base _ _ => ?_⟩
  have OC : OexC K C := ⟨⟨nmC, qC, NC, bsC, _, snC, subC, abC, colC, ddC, m0C, m1C, m2C, m3C, m5C, xLC, by decide +kernel⟩, saC, eCC, tCC, kCC⟩
  have EC : ExC l.prog w K mg base C "NoMerge" "ring" anyD := ⟨OC, ⟨gaC, ggC, eCC, hCC⟩, nCring, exm_self eCC iCC tCC sCC, PySem.W.mg_of X Gg aC, fc0, _, ac0, tI0, ok_NoMerge Fc0 OC nCring (PySem.W.mg_none_of X Gg zValueError) vV, bc0⟩
  have D0 : DefOk l.prog w K mg base 1 "next_name" _ _ := ⟨_, _, ok_next_name Fd0 T, PySem.W.mg_of X Gg ad0, kd0, bd0⟩
  have D1 : DefOk l.prog w K mg base 1 "earliest_demands" _ _ := ⟨_, _, ok_earliest_demands Fd1 T, PySem.W.mg_of X Gg ad1, kd1, bd1⟩
  have D2 : DefOk l.prog w K mg base 1 "distances_to" _ _ := ⟨_, _, ok_distances_to Fd2 T, PySem.W.mg_of X Gg ad2, kd2, bd2⟩
  have D3 : DefOk l.prog w K mg base 1 "is_integer" _ _ := ⟨_, _, ok_is_integer Fd3 T, PySem.W.mg_of X Gg ad3, kd3, bd3⟩
  have D4 : DefOk l.prog w K mg base 1 "_law_bag" _ _ := ⟨_, _, ok_bag Fd4 T, PySem.W.mg_of X Gg ad4, kd4, bd4⟩
  have D5 : DefOk l.prog w K mg base 1 "_law_take" _ _ := ⟨_, _, ok_take Fd5 , PySem.W.mg_of X Gg ad5, kd5, bd5⟩
  have D6 : DefOk l.prog w K mg base 1 "_law_open" _ _ := ⟨_, _, ok_open Fd6 T, PySem.W.mg_of X Gg ad6, kd6, bd6⟩
  have D7 : DefOk l.prog w K mg base 1 "_law_keeps" _ _ := ⟨_, _, ok_keeps Fd7 T, PySem.W.mg_of X Gg ad7, kd7, bd7⟩
  have D8 : DefOk l.prog w K mg base 2 "merge_or_none" _ _ := ⟨_, _, ok_merge_or_none Fd8 T D0, PySem.W.mg_of X Gg ad8, kd8, bd8⟩
  have D9 : DefOk l.prog w K mg base 2 "least_road" _ _ := ⟨_, _, ok_least_road Fd9 T D2, PySem.W.mg_of X Gg ad9, kd9, bd9⟩
  have D10 : DefOk l.prog w K mg base 2 "is_demand" _ _ := ⟨_, _, ok_is_demand Fd10 T D3, PySem.W.mg_of X Gg ad10, kd10, bd10⟩
  have D11 : DefOk l.prog w K mg base 2 "_law_names" _ _ := ⟨_, _, ok_names Fd11 T D5, PySem.W.mg_of X Gg ad11, kd11, bd11⟩
  have D12 : DefOk l.prog w K mg base 2 "_law_some" _ _ := ⟨_, _, ok_some Fd12 T D5, PySem.W.mg_of X Gg ad12, kd12, bd12⟩
  have D13 : DefOk l.prog w K mg base 3 "least_ring" _ _ := ⟨_, _, ok_least_ring Fd13 T D1 D2 D9, PySem.W.mg_of X Gg ad13, kd13, bd13⟩
  have D14 : DefOk l.prog w K mg base 3 "is_road" _ _ := ⟨_, _, ok_is_road Fd14 T D10, PySem.W.mg_of X Gg ad14, kd14, bd14⟩
  have D15 : DefOk l.prog w K mg base 4 "merge_or_ring" _ _ := ⟨_, _, ok_merge_or_ring Fd15 D8 D13, PySem.W.mg_of X Gg ad15, kd15, bd15⟩
  have D16 : DefOk l.prog w K mg base 4 "is_ring" _ _ := ⟨_, _, ok_is_ring Fd16 T D14, PySem.W.mg_of X Gg ad16, kd16, bd16⟩
  have D17 : DefOk l.prog w K mg base 5 "merged" _ _ := ⟨_, _, ok_merged Fd17 EC D15, PySem.W.mg_of X Gg ad17, kd17, bd17⟩
  have D18 : DefOk l.prog w K mg base 6 "_law_told" _ _ := ⟨_, _, ok_told Fd18 EC D17, PySem.W.mg_of X Gg ad18, kd18, bd18⟩
  exact ok_law Fd19 T ⟨D4, D5, D11, D12, D6, D18, D7, D16⟩
theorem sp0 {K : PySem.W.Frag} {H : Hp} {a : Addr} {ns : List Int} (hl : ns.length ≤ 63) (hS : SqL K H a (ns.map V.int)) : spLaw K [.ref a] H (fun v _ => v = .bl true) fun _ _ _ => False := by
  refine ⟨[], ns, fun x hx => absurd hx (by simp), List.nodup_nil, fun x hx => (nomatch hx), fun p hp => (nomatch hp), ?_, hl, ?_, fun _ _ _ _ _ z => z.elim⟩
  · have e : SqL K (mask [] H) a (ns.map V.int) := (by rw [mask_nil]; exact hS)
    exact .cons (.fzl e (DVs.ints ns)) .nil
  · rintro v H' C' d ⟨_, rfl⟩ _ dv
    first | (cases dv; done) | (cases dv; rfl)
theorem walk {l : PySem.W.OpenLaw} {q : Program} {loose : List Str} {XP : (Str → Option Value) → Heap → Prop} {YP : World → Heap → Prop} {d : DefRec} {K : Params → PySem.W.Frag} (hn : l.most = some 63) (hdf : d.params.defaults = [])
    (hY : ∀ (w : World) (h : Heap), YP w h → (K w.params).In h)
    (F : ∀ (w : World) (mg : Str → Option Value) (fa : Addr) (h : Heap), (K w.params).In h → h.Ns mainGlobals mg → mg d.name = some (.ref fa) →
      ∃ fd : FuncData, (∀ (s : Shared) (u : Value), BindsTo s fd ⟨[u], []⟩ [("_law_script", u)]) ∧ ∀ base : Heap, (K w.params).In base → base.Ns mainGlobals mg → FnOk l.prog w (K w.params) mg base (L2.CX l.prog w) 7 fa fd ["_law_script"] (spLaw (K w.params))) :
    PySem.W.WalkO q loose XP YP l.row.toRowW d [] (fun f vs => PySem.call f vs) :=
  L2.walk_of (n := 63) (k := 7) (x := "_law_script") (CX := fun w => L2.CX l.prog w) (sp := fun w => spLaw (K w.params)) hn (by decide) hdf ⟨rfl, by decide, by decide⟩ hY F
    (fun _ H a ns hl _ hS => sp0 hl hS) fun _ _ _ _ _ ⟨_, _, _, _, _, _, _, _, _, _, _, _, z⟩ => z
end K05
open PySem PySem.W PyProof.Rows
set_option maxRecDepth 100000 in
set_option maxHeartbeats 0 in
theorem PySem.Challenge.cw_openlines_k05_whole_merges_holds : PySem.Challenge.rw_openlines_k05_whole_merges.Holds := by
  w_on; o_law; k_head; (case hw => w_witness2)
  k_fill
  refine K05.walk (l := PySem.Challenge.rw_openlines_k05_whole_merges) rfl rfl (fun w h Y => PySem.W.kIn_of Y) ?F
  case F =>
    intro w mg fa h KX Gg hmg
    refine' K05.all_mk KX Gg hmg ?aC ?xLC ?saC ?gaC ?ggC ?nCring ?kCC ?eCC ?tCC ?hCC ?iCC ?sCC ?vV ?ad0 ?ld0 ?cd0 ?kd0 ?ad1 ?ld1 ?cd1 ?kd1 ?ad2 ?ld2 ?cd2 ?kd2 ?ad3 ?ld3 ?cd3 ?kd3 ?ad4 ?ld4 ?cd4 ?kd4 ?ad5 ?ld5 ?cd5 ?kd5 ?ad6 ?ld6 ?cd6 ?kd6 ?ad7 ?ld7 ?cd7 ?kd7 ?ad8 ?ld8 ?cd8 ?kd8 ?ad9 ?ld9 ?cd9 ?kd9 ?ad10 ?ld10 ?cd10 ?kd10 ?ad11 ?ld11 ?cd11 ?kd11 ?ad12 ?ld12 ?cd12 ?kd12 ?ad13 ?ld13 ?cd13 ?kd13 ?ad14 ?ld14 ?cd14 ?kd14 ?ad15 ?ld15 ?cd15 ?kd15 ?ad16 ?ld16 ?cd16 ?kd16 ?ad17 ?ld17 ?cd17 ?kd17 ?ad18 ?ld18 ?cd18 ?kd18 ?ad19 ?ld19 ?cd19 ?kd19 ?ac0 ?lc0 ?cc0 ?kc0 ?tI0 ?zany ?zall ?zlen ?zmin ?zmax ?zabs ?zisinstance ?ztuple ?zlist ?zsorted ?zsum ?zstr ?zint ?zbool ?zrange ?zenumerate ?zzip ?zValueError
    (case aC => k_is)
    (case xLC => k_is)
    (case saC => k_is)
    (case gaC => k_is)
    (case ggC => k_is)
    (case nCring => k_is)
    (case kCC => k_is)
    (case eCC => k_is)
    (case tCC => k_is)
    (case hCC => k_is)
    (case iCC => k_is)
    (case sCC => first | rfl | k_is)
    (case vV => first | k_is | rfl | decide +kernel)
    (case ad0 => k_is)
    (case ld0 => k_is)
    (case cd0 => k_is)
    (case kd0 => k_is)
    (case ad1 => k_is)
    (case ld1 => k_is)
    (case cd1 => k_is)
    (case kd1 => k_is)
    (case ad2 => k_is)
    (case ld2 => k_is)
    (case cd2 => k_is)
    (case kd2 => k_is)
    (case ad3 => k_is)
    (case ld3 => k_is)
    (case cd3 => k_is)
    (case kd3 => k_is)
    (case ad4 => k_is)
    (case ld4 => k_is)
    (case cd4 => k_is)
    (case kd4 => k_is)
    (case ad5 => k_is)
    (case ld5 => k_is)
    (case cd5 => k_is)
    (case kd5 => k_is)
    (case ad6 => k_is)
    (case ld6 => k_is)
    (case cd6 => k_is)
    (case kd6 => k_is)
    (case ad7 => k_is)
    (case ld7 => k_is)
    (case cd7 => k_is)
    (case kd7 => k_is)
    (case ad8 => k_is)
    (case ld8 => k_is)
    (case cd8 => k_is)
    (case kd8 => k_is)
    (case ad9 => k_is)
    (case ld9 => k_is)
    (case cd9 => k_is)
    (case kd9 => k_is)
    (case ad10 => k_is)
    (case ld10 => k_is)
    (case cd10 => k_is)
    (case kd10 => k_is)
    (case ad11 => k_is)
    (case ld11 => k_is)
    (case cd11 => k_is)
    (case kd11 => k_is)
    (case ad12 => k_is)
    (case ld12 => k_is)
    (case cd12 => k_is)
    (case kd12 => k_is)
    (case ad13 => k_is)
    (case ld13 => k_is)
    (case cd13 => k_is)
    (case kd13 => k_is)
    (case ad14 => k_is)
    (case ld14 => k_is)
    (case cd14 => k_is)
    (case kd14 => k_is)
    (case ad15 => k_is)
    (case ld15 => k_is)
    (case cd15 => k_is)
    (case kd15 => k_is)
    (case ad16 => k_is)
    (case ld16 => k_is)
    (case cd16 => k_is)
    (case kd16 => k_is)
    (case ad17 => k_is)
    (case ld17 => k_is)
    (case cd17 => k_is)
    (case kd17 => k_is)
    (case ad18 => k_is)
    (case ld18 => k_is)
    (case cd18 => k_is)
    (case kd18 => k_is)
    (case ad19 => k_is)
    (case ld19 => k_is)
    (case cd19 => k_is)
    (case kd19 => k_is)
    (case ac0 => k_is)
    (case lc0 => k_is)
    (case cc0 => k_is)
    (case kc0 => k_is)
    (case tI0 => k_is)
    (case zany => k_is)
    (case zall => k_is)
    (case zlen => k_is)
    (case zmin => k_is)
    (case zmax => k_is)
    (case zabs => k_is)
    (case zisinstance => k_is)
    (case ztuple => k_is)
    (case zlist => k_is)
    (case zsorted => k_is)
    (case zsum => k_is)
    (case zstr => k_is)
    (case zint => k_is)
    (case zbool => k_is)
    (case zrange => k_is)
    (case zenumerate => k_is)
    (case zzip => k_is)
    (case zValueError => k_is)
#print axioms PySem.Challenge.cw_openlines_k05_whole_merges_holds
end
