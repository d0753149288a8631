import PyProof.Rows.All
import Wide.All
import OpenK.AllK
import Wide.FinOn
import HandS.ForMost
import HandS.ForExc
import HandS.ExcInit
import HandS.ExcField
import HandS.IsInst
import HandS.Flow
import HandS.Deep
import HandS.TupAny
import HandS.Evl
import HandS.Walk
import PySem.Challenge.RW_openlines_k46_bodies_written
set_option Elab.async false
set_option linter.all false
set_option maxRecDepth 100000
/-! data over the hand layer: what a value stands for, and a logic of data for expressions and statements -/
namespace G
open PySem L2

/-! ### 1. readings that hold of any text -/
structure TEc (X : Cx) (e : Expr) (σ : L2.St) (H : Hp) (Q : VK) : Prop where
  run : ∀ pins s, Inv X pins σ H s → wpAny (model X.prog X.w) X.A (eval e X.env) (EP X pins σ Q) X.xe s
def tE (X : Cx) (e : Expr) : TE := fun σ H Q => TEc X e σ H Q
theorem pE {X : Cx} {e : Expr} : PE X e (tE X e) := ⟨fun pins s _ _ _ I h => TEc.run h pins s I⟩
theorem tE_of {X : Cx} {e : Expr} {t : TE} (h : PE X e t) {σ : L2.St} {H : Hp} {Q : VK} (q : t σ H Q) : tE X e σ H Q := ⟨fun pins s I => h.run pins s σ H Q I q⟩
structure TTc (X : Cx) (e : Expr) (σ : L2.St) (H : Hp) (Q : Bool → Hp → Prop) : Prop where
  run : ∀ pins s, Inv X pins σ H s → wpAny (model X.prog X.w) X.A (PySem.isTrue e X.env (eval e X.env)) (TP X pins σ Q) X.xe s
def tT (X : Cx) (e : Expr) : TT := fun σ H Q => TTc X e σ H Q
theorem pT {X : Cx} {e : Expr} : PT X e (tT X e) := ⟨fun pins s _ _ _ I h => TTc.run h pins s I⟩
theorem tT_of {X : Cx} {e : Expr} {t : TT} (h : PT X e t) {σ : L2.St} {H : Hp} {Q : Bool → Hp → Prop} (q : t σ H Q) : tT X e σ H Q := ⟨fun pins s I => h.run pins s σ H Q I q⟩
structure TAc (X : Cx) (es : List Expr) (σ : L2.St) (H : Hp) (Q : List V → Hp → Prop) : Prop where
  run : ∀ pos pins s, Inv X pins σ H s → wpAny (model X.prog X.w) X.A (spliced (backTo pos (starEach es X.env))) (AP X pins σ Q) X.xe s
def tAs (X : Cx) (es : List Expr) : TA := fun σ H Q => TAc X es σ H Q
theorem pAs {X : Cx} {es : List Expr} : PA X es (tAs X es) := ⟨fun pos pins s _ _ _ I h => TAc.run h pos pins s I⟩
theorem tAs_of {X : Cx} {es : List Expr} {t : TA} (h : PA X es t) {σ : L2.St} {H : Hp} {Q : List V → Hp → Prop} (q : t σ H Q) : tAs X es σ H Q := ⟨fun pos pins s I => h.run pos pins s σ H Q I q⟩
structure TSc (X : Cx) (st : Stmt) (D : Ends) (σ : L2.St) (H : Hp) : Prop where
  run : ∀ pins s, Inv X pins σ H s → wpAny (model X.prog X.w) X.A (exec st X.env) (SP X pins D) X.xe s
def tSt (X : Cx) (st : Stmt) : TS := fun D σ H => TSc X st D σ H
theorem pSt {X : Cx} {st : Stmt} : PS X st (tSt X st) := ⟨fun pins s _ _ _ I h => TSc.run h pins s I⟩
theorem tSt_of {X : Cx} {st : Stmt} {t : TS} (h : PS X st t) {D : Ends} {σ : L2.St} {H : Hp} (q : t D σ H) : tSt X st D σ H := ⟨fun pins s I => h.run pins s σ H D I q⟩
structure TSsc (X : Cx) (st : List Stmt) (D : Ends) (σ : L2.St) (H : Hp) : Prop where
  run : ∀ pins s, Inv X pins σ H s → wpAny (model X.prog X.w) X.A (execs st X.env) (SP X pins D) X.xe s
def tSts (X : Cx) (st : List Stmt) : TS := fun D σ H => TSsc X st D σ H
theorem pSts {X : Cx} {st : List Stmt} : PSs X st (tSts X st) := ⟨fun pins s _ _ _ I h => TSsc.run h pins s I⟩
theorem tSts_of {X : Cx} {st : List Stmt} {t : TS} (h : PSs X st t) {D : Ends} {σ : L2.St} {H : Hp} (q : t D σ H) : tSts X st D σ H := ⟨fun pins s I => h.run pins s σ H D I q⟩

/-! ### 2. heaps -/
def Ex (H H' : Hp) : Prop := ∀ a o, H a = some o → H' a = some o
theorem Ex.refl (H : Hp) : Ex H H := fun _ _ h => h
theorem Ex.trans {H H1 H2 : Hp} (a : Ex H H1) (b : Ex H1 H2) : Ex H H2 := fun x o h => b x o (a x o h)
def mask (M : List Addr) (H : Hp) : Hp := fun a => if a ∈ M then none else H a
theorem mask_in {M : List Addr} {H : Hp} {a : Addr} (h : a ∈ M) : mask M H a = none := if_pos h
theorem mask_out {M : List Addr} {H : Hp} {a : Addr} (h : a ∉ M) : mask M H a = H a := if_neg h
theorem of_mask {M : List Addr} {H : Hp} {a : Addr} {o : HO} (h : mask M H a = some o) : a ∉ M ∧ H a = some o := by
  by_cases q : a ∈ M
  · rw [mask_in q] at h; cases h
  · rw [mask_out q] at h; exact ⟨q, h⟩
theorem mask_ex (M : List Addr) (H : Hp) : Ex (mask M H) H := fun a o h => (of_mask h).2
theorem mask_sub {M M' : List Addr} {H : Hp} (h : ∀ a ∈ M, a ∈ M') : Ex (mask M' H) (mask M H) := fun a o q => by
  obtain ⟨n, e⟩ := of_mask q
  rw [mask_out fun z => n (h a z)]
  exact e
theorem mask_more {M M' : List Addr} {H H' : Hp} (h : ∀ a ∈ M, a ∈ M') (e : Ex (mask M H) (mask M H')) : Ex (mask M' H) (mask M' H') := fun a o q => by
  obtain ⟨n, k⟩ := of_mask q
  have z := e a o (by rw [mask_out fun z => n (h a z)]; exact k)
  rw [mask_out n]
  exact (of_mask z).2
theorem mask_nil (H : Hp) : mask [] H = H := by
  funext a; exact mask_out (by simp)

/-! ### 3. data -/
inductive Dt where
  | non | bl (b : Bool) | int (i : Int) | str (s : Str) | lst (l : List Dt) | tup (l : List Dt) | dct (l : List (Key × Dt)) | fzl (l : List Dt) | exc (a dd : Addr) (fs : List (Str × Dt)) | raw (v : V)

mutual
inductive DV (K : PySem.W.Frag) (H : Hp) : V → Dt → Prop
  | non : DV K H .non .non
  | bl (b : Bool) : DV K H (.bl b) (.bl b)
  | int (i : Int) : DV K H (.int i) (.int i)
  | str (s : Str) : DV K H (.str s) (.str s)
  | lst {a : Addr} {xs : List V} {l : List Dt} : H a = some (.lst xs) → DVs K H xs l → DV K H (.ref a) (.lst l)
  | tup {a : Addr} {xs : List V} {l : List Dt} : SqT K H a xs → DVs K H xs l → DV K H (.ref a) (.tup l)
  | dct {a : Addr} {xs : List (Key × V)} {l : List (Key × Dt)} : Rd H a (.dK xs) → DVk K H xs l → DV K H (.ref a) (.dct l)
  | fzl {a : Addr} {xs : List V} {l : List Dt} : SqL K H a xs → DVs K H xs l → DV K H (.ref a) (.fzl l)
  | exc {a dd : Addr} {xs : List (Str × V)} {l : List (Str × Dt)} : H dd = some (.xd xs) → DVx K H xs l → DV K H (.ref a) (.exc a dd l)
  | raw (v : V) : DV K H v (.raw v)
inductive DVs (K : PySem.W.Frag) (H : Hp) : List V → List Dt → Prop
  | nil : DVs K H [] []
  | cons {v : V} {vs : List V} {d : Dt} {ds : List Dt} : DV K H v d → DVs K H vs ds → DVs K H (v :: vs) (d :: ds)
inductive DVk (K : PySem.W.Frag) (H : Hp) : List (Key × V) → List (Key × Dt) → Prop
  | nil : DVk K H [] []
  | cons {k : Key} {v : V} {vs : List (Key × V)} {d : Dt} {ds : List (Key × Dt)} : DV K H v d → DVk K H vs ds → DVk K H ((k, v) :: vs) ((k, d) :: ds)
inductive DVx (K : PySem.W.Frag) (H : Hp) : List (Str × V) → List (Str × Dt) → Prop
  | nil : DVx K H [] []
  | cons {k : Str} {v : V} {vs : List (Str × V)} {d : Dt} {ds : List (Str × Dt)} : DV K H v d → DVx K H vs ds → DVx K H ((k, v) :: vs) ((k, d) :: ds)
end

theorem ex_rd {H H' : Hp} {a : Addr} {u : HO} (e : Ex H H') (h : Rd H a u) : Rd H' a u := by
  rcases h with h | ⟨o, h⟩
  · exact Or.inl (e a _ h)
  · exact Or.inr ⟨o, e a _ h⟩
theorem ex_t {K : PySem.W.Frag} {H H' : Hp} {a : Addr} {xs : List V} (e : Ex H H') (h : SqT K H a xs) : SqT K H' a xs := by
  rcases h with h | h
  · exact Or.inl (ex_rd e h)
  · exact Or.inr h
theorem ex_l {K : PySem.W.Frag} {H H' : Hp} {a : Addr} {xs : List V} (e : Ex H H') (h : SqL K H a xs) : SqL K H' a xs := by
  rcases h with h | h
  · exact Or.inl (ex_rd e h)
  · exact Or.inr h

mutual
theorem DV.mono {K : PySem.W.Frag} {H H' : Hp} (e : Ex H H') : ∀ {v : V} {d : Dt}, DV K H v d → DV K H' v d
  | _, _, .non => .non
  | _, _, .bl b => .bl b
  | _, _, .int b => .int b
  | _, _, .str b => .str b
  | _, _, .lst h t => .lst (e _ _ h) (DVs.mono e t)
  | _, _, .tup h t => .tup (ex_t e h) (DVs.mono e t)
  | _, _, .dct h t => .dct (ex_rd e h) (DVk.mono e t)
  | _, _, .fzl h t => .fzl (ex_l e h) (DVs.mono e t)
  | _, _, .exc h t => .exc (e _ _ h) (DVx.mono e t)
  | _, _, .raw v => .raw v
theorem DVs.mono {K : PySem.W.Frag} {H H' : Hp} (e : Ex H H') : ∀ {v : List V} {d : List Dt}, DVs K H v d → DVs K H' v d
  | _, _, .nil => .nil
  | _, _, .cons h t => .cons (DV.mono e h) (DVs.mono e t)
theorem DVk.mono {K : PySem.W.Frag} {H H' : Hp} (e : Ex H H') : ∀ {v : List (Key × V)} {d : List (Key × Dt)}, DVk K H v d → DVk K H' v d
  | _, _, .nil => .nil
  | _, _, .cons h t => .cons (DV.mono e h) (DVk.mono e t)
theorem DVx.mono {K : PySem.W.Frag} {H H' : Hp} (e : Ex H H') : ∀ {v : List (Str × V)} {d : List (Str × Dt)}, DVx K H v d → DVx K H' v d
  | _, _, .nil => .nil
  | _, _, .cons h t => .cons (DV.mono e h) (DVx.mono e t)
end
theorem DVx.get {K : PySem.W.Frag} {H : Hp} {x : Str} {d : Dt} : ∀ {v : List (Str × V)} {l : List (Str × Dt)}, DVx K H v l → l.lookup x = some d → ∃ u, v.lookup x = some u ∧ DV K H u d
  | _, _, .nil, h => by cases h
  | _, _, .cons (k := k) h t, e => by
    rw [List.lookup_cons] at e ⊢
    cases q : x == k with
    | true => rw [q] at e; cases e; exact ⟨_, rfl, h⟩
    | false => rw [q] at e; exact DVx.get t e
theorem DVs.length {K : PySem.W.Frag} {H : Hp} : ∀ {v : List V} {d : List Dt}, DVs K H v d → v.length = d.length
  | _, _, .nil => rfl
  | _, _, .cons _ t => congrArg (· + 1) (DVs.length t)
theorem DVs.append {K : PySem.W.Frag} {H : Hp} : ∀ {v w : List V} {d f : List Dt}, DVs K H v d → DVs K H w f → DVs K H (v ++ w) (d ++ f)
  | _, _, _, _, .nil, t => t
  | _, _, _, _, .cons h t, u => .cons h (DVs.append t u)
theorem DVs.get {K : PySem.W.Frag} {H : Hp} : ∀ {v : List V} {d : List Dt} {i : Nat} {x : Dt}, DVs K H v d → d[i]? = some x → ∃ u, v[i]? = some u ∧ DV K H u x
  | _, _, _, _, .nil, e => by simp at e
  | _, _, 0, _, .cons h t, e => by simp at e; subst e; exact ⟨_, rfl, h⟩
  | _, _, i + 1, x, .cons h t, e => by
    obtain ⟨u, h1, h2⟩ := DVs.get (i := i) (x := x) t (by simpa using e)
    exact ⟨u, by simpa using h1, h2⟩
theorem DVs.getV {K : PySem.W.Frag} {H : Hp} : ∀ {v : List V} {d : List Dt} {i : Nat} {u : V}, DVs K H v d → v[i]? = some u → ∃ x, d[i]? = some x ∧ DV K H u x
  | _, _, _, _, .nil, e => by simp at e
  | _, _, 0, _, .cons h t, e => by simp at e; subst e; exact ⟨_, rfl, h⟩
  | _, _, i + 1, x, .cons h t, e => by
    obtain ⟨u, h1, h2⟩ := DVs.getV (i := i) (u := x) t (by simpa using e)
    exact ⟨u, by simpa using h1, h2⟩
theorem DVs.take {K : PySem.W.Frag} {H : Hp} : ∀ {v : List V} {d : List Dt} (n : Nat), DVs K H v d → DVs K H (v.take n) (d.take n)
  | _, _, 0, _ => .nil
  | _, _, _ + 1, .nil => .nil
  | _, _, n + 1, .cons h t => .cons h (DVs.take n t)
theorem DVs.drop {K : PySem.W.Frag} {H : Hp} : ∀ {v : List V} {d : List Dt} (n : Nat), DVs K H v d → DVs K H (v.drop n) (d.drop n)
  | _, _, 0, h => h
  | _, _, _ + 1, .nil => .nil
  | _, _, n + 1, .cons h t => DVs.drop n t
theorem DVs.set {K : PySem.W.Frag} {H : Hp} {u : V} {x : Dt} (hx : DV K H u x) : ∀ {v : List V} {d : List Dt} (n : Nat), DVs K H v d → DVs K H (v.set n u) (d.set n x)
  | _, _, _, .nil => .nil
  | _, _, 0, .cons h t => .cons hx t
  | _, _, n + 1, .cons h t => .cons h (DVs.set hx n t)
theorem DVs.eraseIdx {K : PySem.W.Frag} {H : Hp} : ∀ {v : List V} {d : List Dt} (n : Nat), DVs K H v d → DVs K H (v.eraseIdx n) (d.eraseIdx n)
  | _, _, _, .nil => .nil
  | _, _, 0, .cons h t => t
  | _, _, n + 1, .cons h t => .cons h (DVs.eraseIdx n t)
theorem DVs.flat {K : PySem.W.Frag} {H : Hp} {v : List V} {d : List Dt} (h : DVs K H v d) : ∀ n : Nat, DVs K H (List.replicate n v).flatten (List.replicate n d).flatten
  | 0 => .nil
  | n + 1 => by rw [List.replicate_succ, List.replicate_succ, List.flatten_cons, List.flatten_cons]; exact h.append (DVs.flat h n)
theorem DVs.strs {K : PySem.W.Frag} {H : Hp} : ∀ l : List Str, DVs K H (l.map V.str) (l.map Dt.str)
  | [] => .nil
  | s :: l => .cons (.str s) (DVs.strs l)
theorem DVs.ints {K : PySem.W.Frag} {H : Hp} : ∀ l : List Int, DVs K H (l.map V.int) (l.map Dt.int)
  | [] => .nil
  | s :: l => .cons (.int s) (DVs.ints l)
theorem DVs.of_strs {K : PySem.W.Frag} {H : Hp} : ∀ {l : List Str} {xs : List V}, DVs K H xs (l.map Dt.str) → xs = l.map V.str
  | [], _, .nil => rfl
  | s :: l, _, .cons (.str _) t => by rw [DVs.of_strs t]; rfl
theorem DVs.of_bls {K : PySem.W.Frag} {H : Hp} : ∀ {l : List Bool} {xs : List V}, DVs K H xs (l.map Dt.bl) → xs = l.map V.bl
  | [], _, .nil => rfl
  | s :: l, _, .cons (.bl _) t => by rw [DVs.of_bls t]; rfl
theorem DVs.of_ints {K : PySem.W.Frag} {H : Hp} : ∀ {l : List Int} {xs : List V}, DVs K H xs (l.map Dt.int) → xs = l.map V.int
  | [], _, .nil => rfl
  | s :: l, _, .cons (.int _) t => by rw [DVs.of_ints t]; rfl

/-! plain data: no dict, no thing of one's own -/
mutual
def py : Dt → PyData
  | .non => .none
  | .bl b => .bool b
  | .int i => .int i
  | .str s => .str s
  | .lst l => .list (pys l)
  | .tup l => .tuple (pys l)
  | .dct _ => .none
  | .fzl _ => .none
  | .exc _ _ _ => .none
  | .raw _ => .none
def pys : List Dt → List PyData
  | [] => []
  | d :: l => py d :: pys l
end
mutual
def plain : Dt → Bool
  | .lst l => plains l
  | .tup l => plains l
  | .dct _ => false
  | .fzl _ => false
  | .exc _ _ _ => false
  | .raw _ => false
  | _ => true
def plains : List Dt → Bool
  | [] => true
  | d :: l => plain d && plains l
end
mutual
theorem DV.dp {K : PySem.W.Frag} {H : Hp} : ∀ {v : V} {d : Dt}, DV K H v d → plain d = true → Dp K H v (py d)
  | _, _, .non, _ => .non
  | _, _, .bl b, _ => .bl b
  | _, _, .int b, _ => .int b
  | _, _, .str b, _ => .str b
  | _, _, .lst h t, p => .lst (.inl (.inl h)) (DVs.dp t p)
  | _, _, .tup h t, p => .tup h (DVs.dp t p)
  | _, _, .dct h t, p => by cases p
  | _, _, .fzl h t, p => by cases p
  | _, _, .exc h t, p => by cases p
  | _, _, .raw v, p => by cases p
theorem DVs.dp {K : PySem.W.Frag} {H : Hp} : ∀ {v : List V} {d : List Dt}, DVs K H v d → plains d = true → DpAll K H v (pys d)
  | _, _, .nil, _ => .nil
  | _, _, .cons h t, p => by
    have p' := Bool.and_eq_true_iff.mp p
    exact .cons (DV.dp h p'.1) (DVs.dp t p'.2)
end
theorem pys_map : ∀ l : List Dt, pys l = l.map py
  | [] => rfl
  | d :: l => by rw [pys, pys_map l]; rfl

/-! ### 4. slots -/
inductive Sl where
  | un | dat (d : Dt) | own (a : Addr) (l : List Dt) | bag
def Sl.addr : Sl → List Addr
  | .own a _ => [a]
  | _ => []
def addrs : List Sl → List Addr
  | [] => []
  | s :: l => s.addr ++ addrs l
structure Fm where
  H0 : Hp
  M : List Addr
  W : List Addr
  b : List Addr
def hid (F : Fm) (Γ : List Sl) : List Addr := F.b ++ (addrs Γ ++ F.M)
def BagAt (H : Hp) (b : Addr) (c : Nat) : Prop := ∃ d s k : Int, H b = some (.lst [.int d, .int s, .int k]) ∧ 0 ≤ d ∧ 0 ≤ s ∧ s < 2147483647 ∧ 0 ≤ k ∧ k ≤ (c : Int)
theorem BagAt.mono {H : Hp} {b : Addr} {c c' : Nat} (h : BagAt H b c) (l : c ≤ c') : BagAt H b c' := by
  obtain ⟨d, s, k, h1, h2, h3, h4, h5, h6⟩ := h
  exact ⟨d, s, k, h1, h2, h3, h4, h5, by omega⟩
def SlOk (K : PySem.W.Frag) (F : Fm) (hd : List Addr) (H : Hp) : Option (Option V) → Sl → Prop
  | _, .un => True
  | o, .dat d => ∃ v, o = some (some v) ∧ DV K (mask hd H) v d
  | o, .own a l => o = some (some (.ref a)) ∧ ∃ xs, H a = some (.lst xs) ∧ DVs K (mask hd H) xs l
  | o, .bag => ∃ b, F.b = [b] ∧ o = some (some (.ref b))
/-- what stays: all but the bag -/
def Kp (F : Fm) (H H' : Hp) : Prop := Ex (mask F.b H) (mask F.b H')
theorem Kp.refl {F : Fm} {H : Hp} : Kp F H H := Ex.refl _
theorem Kp.trans {F : Fm} {H H1 H2 : Hp} (a : Kp F H H1) (b : Kp F H1 H2) : Kp F H H2 := Ex.trans a b
structure SI (K : PySem.W.Frag) (F : Fm) (Γ : List Sl) (c : Nat) (σ : L2.St) (H : Hp) : Prop where
  len : σ.length = Γ.length
  nd : (addrs Γ).Nodup
  nb : ∀ b ∈ F.b, b ∉ addrs Γ
  sl : ∀ (i : Nat) (s : Sl), Γ[i]? = some s → SlOk K F (hid F Γ) H σ[i]? s
  keep : Ex (mask F.W F.H0) (mask F.W H)
  fr : ∀ a ∈ addrs Γ, F.H0 a = none ∧ a ∉ F.M
  live : ∀ a ∈ F.M, ∃ o, H a = some o
  bag : ∀ b ∈ F.b, BagAt H b c ∧ (b ∈ F.W ∨ F.H0 b = none)
  wb : ∀ a ∈ F.W, a ∈ F.b

theorem addrs_mem {a : Addr} : ∀ {Γ : List Sl}, a ∈ addrs Γ → ∃ (i : Nat) (l : List Dt), Γ[i]? = some (Sl.own a l)
  | [], h => nomatch h
  | s :: Γ, h => by
    rcases List.mem_append.mp h with h | h
    · cases s with
      | own a' l =>
        simp [Sl.addr] at h
        exact ⟨0, l, by simp [h]⟩
      | un => simp [Sl.addr] at h
      | dat d => simp [Sl.addr] at h
      | bag => simp [Sl.addr] at h
    · obtain ⟨i, l, e⟩ := addrs_mem h
      exact ⟨i + 1, l, by simpa using e⟩
theorem mem_addrs {a : Addr} {l : List Dt} : ∀ {Γ : List Sl} {i : Nat}, Γ[i]? = some (Sl.own a l) → a ∈ addrs Γ
  | [], i, h => by simp at h
  | s :: Γ, 0, h => by simp at h; subst h; exact List.mem_append_left _ (by simp [Sl.addr])
  | s :: Γ, i + 1, h => List.mem_append_right _ (mem_addrs (i := i) (by simpa using h))

section
variable {K : PySem.W.Frag} {F : Fm} {Γ : List Sl} {c c' : Nat} {σ : L2.St} {H H' : Hp}
theorem hid_b {b : Addr} (h : b ∈ F.b) : b ∈ hid F Γ := List.mem_append_left _ h
theorem Kp.hid (e : Kp F H H') : Ex (mask (hid F Γ) H) (mask (hid F Γ) H') := mask_more (fun _ h => hid_b h) e
theorem SI.own_live (S : SI K F Γ c σ H) {a : Addr} (h : a ∈ addrs Γ) : ∃ xs, H a = some (.lst xs) := by
  obtain ⟨i, l, e⟩ := addrs_mem h
  obtain ⟨_, xs, h1, _⟩ := S.sl i _ e
  exact ⟨xs, h1⟩
theorem SI.fresh (S : SI K F Γ c σ H) {p : Addr} (h : H p = none) : p ∉ hid F Γ := fun z => by
  rcases List.mem_append.mp z with z | z
  · obtain ⟨⟨_, _, _, e, _⟩, _⟩ := S.bag p z
    rw [h] at e; cases e
  · rcases List.mem_append.mp z with z | z
    · obtain ⟨xs, e⟩ := S.own_live z
      rw [h] at e; cases e
    · obtain ⟨o, e⟩ := S.live p z
      rw [h] at e; cases e
/-- THE STEP -/
theorem SI.step (S : SI K F Γ c σ H) (e : Kp F H H') (hb : ∀ b ∈ F.b, BagAt H' b c') : SI K F Γ c' σ H' := by
  have out : ∀ a o, a ∉ F.b → H a = some o → H' a = some o := fun a o n q => (of_mask (e a o (by rw [mask_out n]; exact q))).2
  refine ⟨S.len, S.nd, S.nb, fun i s hi => ?_, fun a o q => ?_, S.fr, fun a ha => ?_, fun b h => ⟨hb b h, (S.bag b h).2⟩, S.wb⟩
  · have q := S.sl i s hi
    cases s with
    | un => exact True.intro
    | dat d => obtain ⟨v, h1, h2⟩ := q; exact ⟨v, h1, h2.mono e.hid⟩
    | own a l =>
      obtain ⟨h1, xs, h2, h3⟩ := q
      exact ⟨h1, xs, out a _ (fun z => S.nb a z (mem_addrs hi)) h2, h3.mono e.hid⟩
    | bag => exact q
  · obtain ⟨n, h0⟩ := of_mask q
    have h1 := (of_mask (S.keep a o q)).2
    have nb : a ∉ F.b := fun z => by
      rcases (S.bag a z).2 with z | z
      · exact n z
      · rw [h0] at z; cases z
    rw [mask_out n]
    exact out a o nb h1
  · by_cases z : a ∈ F.b
    · obtain ⟨_, _, _, q, _⟩ := hb a z
      exact ⟨_, q⟩
    · obtain ⟨o, q⟩ := S.live a ha
      exact ⟨o, out a o z q⟩
theorem Kp.new {p : Addr} {o : HO} (h : H p = none) : Kp F H (upd H p o) := fun a u q => by
  obtain ⟨n, e⟩ := of_mask q
  rw [mask_out n, upd_ne (ne_of_none e h)]
  exact e
theorem SI.bagAt (S : SI K F Γ c σ H) : ∀ b ∈ F.b, BagAt H b c := fun b h => (S.bag b h).1
theorem SI.same (S : SI K F Γ c σ H) (e : Kp F H H') (hb : ∀ b ∈ F.b, H' b = H b) : SI K F Γ c σ H' :=
  S.step e fun b h => by
    obtain ⟨d, s, k, h1, r⟩ := S.bagAt b h
    exact ⟨d, s, k, (hb b h).trans h1, r⟩
theorem SI.new (S : SI K F Γ c σ H) {p : Addr} {o : HO} (h : H p = none) : SI K F Γ c σ (upd H p o) :=
  S.same (Kp.new h) fun b hb => upd_ne fun z => S.fresh h (z ▸ hid_b hb)
theorem SI.newL (S : SI K F Γ c σ H) {p : Addr} {xs : List V} {l : List Dt} (h : H p = none) (d : DVs K (mask (hid F Γ) H) xs l) : DV K (mask (hid F Γ) (upd H p (.lst xs))) (.ref p) (.lst l) :=
  .lst (by rw [mask_out (S.fresh h)]; exact upd_same) (d.mono (Kp.new h).hid)
theorem SI.newT (S : SI K F Γ c σ H) {p : Addr} {xs : List V} {l : List Dt} (h : H p = none) (d : DVs K (mask (hid F Γ) H) xs l) : DV K (mask (hid F Γ) (upd H p (.tup xs))) (.ref p) (.tup l) :=
  .tup (.inl (.inl (by rw [mask_out (S.fresh h)]; exact upd_same))) (d.mono (Kp.new h).hid)
theorem SI.weak (S : SI K F Γ c σ H) (h : c ≤ c') : SI K F Γ c' σ H := S.step Kp.refl fun b hb => (S.bagAt b hb).mono h

theorem addrs_set_dat {d : Dt} : ∀ {Γ : List Sl} {i : Nat} {a : Addr}, a ∈ addrs (Γ.set i (.dat d)) → a ∈ addrs Γ
  | [], _, _, h => nomatch h
  | s :: Γ, 0, _, h => List.mem_append_right _ (by simpa [addrs, Sl.addr] using h)
  | s :: Γ, i + 1, a, h => by
    rcases List.mem_append.mp (show a ∈ s.addr ++ addrs (Γ.set i (.dat d)) from h) with h | h
    · exact List.mem_append_left _ h
    · exact List.mem_append_right _ (addrs_set_dat h)
theorem addrs_set_un : ∀ {Γ : List Sl} {i : Nat} {a : Addr}, a ∈ addrs (Γ.set i .un) → a ∈ addrs Γ
  | [], _, _, h => nomatch h
  | s :: Γ, 0, _, h => List.mem_append_right _ (by simpa [addrs, Sl.addr] using h)
  | s :: Γ, i + 1, a, h => by
    rcases List.mem_append.mp (show a ∈ s.addr ++ addrs (Γ.set i .un) from h) with h | h
    · exact List.mem_append_left _ h
    · exact List.mem_append_right _ (addrs_set_un h)
theorem nodup_set_free {s : Sl} (hs : s.addr = []) : ∀ {Γ : List Sl} {i : Nat}, (addrs Γ).Nodup → (addrs (Γ.set i s)).Nodup
  | [], _, h => h
  | t :: Γ, 0, h => by
    show (s.addr ++ addrs Γ).Nodup
    rw [hs]
    exact (List.nodup_append.mp h).2.1
  | t :: Γ, i + 1, h => by
    show (t.addr ++ addrs (Γ.set i s)).Nodup
    have q := List.nodup_append.mp (show (t.addr ++ addrs Γ).Nodup from h)
    refine List.nodup_append.mpr ⟨q.1, nodup_set_free hs q.2.1, fun a ha b hb => q.2.2 a ha b ?_⟩
    have : ∀ {Γ : List Sl} {i : Nat}, b ∈ addrs (Γ.set i s) → b ∈ addrs Γ := by
      intro Γ
      induction Γ with
      | nil => intro i h; exact h
      | cons u Γ ih =>
        intro i h
        cases i with
        | zero => exact List.mem_append_right _ (by simpa [addrs, hs] using h)
        | succ i =>
          rcases List.mem_append.mp (show b ∈ u.addr ++ addrs (Γ.set i s) from h) with h | h
          · exact List.mem_append_left _ h
          · exact List.mem_append_right _ (ih h)
    exact this hb
end
end G

set_option Elab.async false
set_option linter.all false
set_option maxRecDepth 100000
namespace G
open PySem L2

/-! ### 5. the judgements -/
abbrev Vw (F : Fm) (Γ : List Sl) (H : Hp) : Hp := mask (hid F Γ) H
def SE (F : Fm) (X : Cx) (Γ : List Sl) (c : Nat) (e : Expr) (P : Nat → Dt → Prop) : Prop :=
  ∀ (σ : L2.St) (H : Hp) (Q : VK), SI X.K F Γ c σ H → (∀ v H' c' d, P c' d → SI X.K F Γ c' σ H' → Ex (Vw F Γ H) (Vw F Γ H') → DV X.K (Vw F Γ H') v d → Q v H') → tE X e σ H Q
def ST (F : Fm) (X : Cx) (Γ : List Sl) (c : Nat) (e : Expr) (P : Nat → Bool → Prop) : Prop :=
  ∀ (σ : L2.St) (H : Hp) (Q : Bool → Hp → Prop), SI X.K F Γ c σ H → (∀ b H' c', P c' b → SI X.K F Γ c' σ H' → Ex (Vw F Γ H) (Vw F Γ H') → Q b H') → tT X e σ H Q
def SA (F : Fm) (X : Cx) (Γ : List Sl) (c : Nat) (es : List Expr) (P : Nat → List Dt → Prop) : Prop :=
  ∀ (σ : L2.St) (H : Hp) (Q : List V → Hp → Prop), SI X.K F Γ c σ H → (∀ vs H' c' ds, P c' ds → SI X.K F Γ c' σ H' → Ex (Vw F Γ H) (Vw F Γ H') → DVs X.K (Vw F Γ H') vs ds → Q vs H') → tAs X es σ H Q
/-- an operation on values -/
def VR (K : PySem.W.Frag) (F : Fm) (Γ : List Sl) (c : Nat) (r : List V → Hp → VK → Prop) (ds : List Dt) (P : Nat → Dt → Prop) : Prop :=
  ∀ (σ : L2.St) (H : Hp) (vs : List V) (Q : VK), SI K F Γ c σ H → DVs K (Vw F Γ H) vs ds → (∀ v H' c' d, P c' d → SI K F Γ c' σ H' → Ex (Vw F Γ H) (Vw F Γ H') → DV K (Vw F Γ H') v d → Q v H') → r vs H Q
def rOp (X : Cx) (f : Value → Value → Sem Value) : R2 := fun x y H Q => ∃ r, OpR X f r ∧ r x y H Q
theorem opR {X : Cx} {f : Value → Value → Sem Value} : OpR X f (rOp X f) := fun pins s σ H x y v u Q I rx ry ⟨_, ho, q⟩ => ho pins s σ H x y v u Q I rx ry q
def rIxc (X : Cx) : R2 := fun x y H Q => ∃ r, IxR X r ∧ r x y H Q
theorem ixR {X : Cx} : IxR X (rIxc X) := fun value slice pins s σ H x y v u Q I rx ry ⟨_, ho, q⟩ hs => ho value slice pins s σ H x y v u Q I rx ry q hs
def rSlc (X : Cx) : V → Option Int → Option Int → Hp → VK → Prop := fun x l u H Q => ∃ r, SlR X r ∧ r x l u H Q
theorem slR {X : Cx} : SlR X (rSlc X) := fun pins s σ H x v vl vu lo hi sl Q I rx hs pl pu ⟨_, ho, q⟩ => ho pins s σ H x v vl vu lo hi sl Q I rx hs pl pu q
def rCl (X : Cx) (f : Value) : List V → Hp → VK → Prop := fun xs H Q => ∃ r, CallR X f r ∧ r xs H Q
theorem clR {X : Cx} {f : Value} : CallR X f (rCl X f) := fun pins s σ H xs us Q I rx ⟨_, ho, q⟩ => ho pins s σ H xs us Q I rx q
def OpV (F : Fm) (X : Cx) (Γ : List Sl) (c : Nat) (f : Value → Value → Sem Value) (d1 d2 : Dt) (P : Nat → Dt → Prop) : Prop :=
  VR X.K F Γ c (fun vs H Q => ∃ x y, vs = [x, y] ∧ rOp X f x y H Q) [d1, d2] P
def IxV (F : Fm) (X : Cx) (Γ : List Sl) (c : Nat) (d1 d2 : Dt) (P : Nat → Dt → Prop) : Prop :=
  VR X.K F Γ c (fun vs H Q => ∃ x y, vs = [x, y] ∧ rIxc X x y H Q) [d1, d2] P
def ClV (F : Fm) (X : Cx) (Γ : List Sl) (c : Nat) (f : Value) (ds : List Dt) (P : Nat → Dt → Prop) : Prop := VR X.K F Γ c (rCl X f) ds P
def SlV (F : Fm) (X : Cx) (Γ : List Sl) (c : Nat) (lo hi : Option Int) (d : Dt) (P : Nat → Dt → Prop) : Prop :=
  VR X.K F Γ c (fun vs H Q => ∃ x, vs = [x] ∧ rSlc X x lo hi H Q) [d] P

section
variable {F : Fm} {X : Cx} {Γ : List Sl} {c : Nat} {P : Nat → Dt → Prop} {pos : Pos}

theorem SE.mono {e : Expr} {P' : Nat → Dt → Prop} (h : SE F X Γ c e P) (hp : ∀ c d, P c d → P' c d) : SE F X Γ c e P' := fun σ H Q S k => h σ H Q S fun v H' c' d p => k v H' c' d (hp c' d p)
theorem SE.of {e : Expr} {t : TE} (hp : PE X e t) (h : ∀ (σ : L2.St) (H : Hp) (Q : VK), SI X.K F Γ c σ H → (∀ v H' c' d, P c' d → SI X.K F Γ c' σ H' → Ex (Vw F Γ H) (Vw F Γ H') → DV X.K (Vw F Γ H') v d → Q v H') → t σ H Q) : SE F X Γ c e P :=
  fun σ H Q S k => tE_of hp (h σ H Q S k)
/-- a value that is there already -/
theorem SE.here {e : Expr} {v : V} {d : Dt} (hp : PE X e (tC v)) (hd : ∀ H, DV X.K H v d) (p : P c d) : SE F X Γ c e P := SE.of hp fun σ H Q S k => k v H c d p S (Ex.refl _) (hd _)
theorem se_int {i : Int} {j} (p : P c (.int i)) : SE F X Γ c (.Constant (.int i) j pos) P := SE.here pe_int (fun _ => .int i) p
theorem se_str {x : Str} {j} (p : P c (.str x)) : SE F X Γ c (.Constant (.str x) j pos) P := SE.here pe_str (fun _ => .str x) p
theorem se_bl {b : Bool} {j} (p : P c (.bl b)) : SE F X Γ c (.Constant (.bool b) j pos) P := SE.here pe_bl (fun _ => .bl b) p
theorem se_non {j} (p : P c .non) : SE F X Γ c (.Constant .none j pos) P := SE.here pe_non (fun _ => .non) p
/-- a global constant that is a flat value -/
theorem se_glob {x : Str} {u : Value} {v : V} {d : Dt} (hg : Gl X x) (hm : X.mg x = some u) (r : RelV v u) (hd : ∀ H, DV X.K H v d) (p : P c d) (hdb : (x == ("__debug__" : Str)) = false := by decide) : SE F X Γ c (.Name x pos) P :=
  SE.here (pe_glob hg hm r hdb) hd p
theorem se_gint {x : Str} {i : Int} {t : Tok} (hm : X.mg x = some (.int i t)) (p : P c (.int i)) (hg : Gl X x := by rfl) (hdb : (x == ("__debug__" : Str)) = false := by decide) : SE F X Γ c (.Name x pos) P := se_glob (v := .int i) hg hm ⟨_, rfl⟩ (fun _ => .int i) p hdb
theorem se_gstr {x : Str} {i : Str} {t : Tok} (hm : X.mg x = some (.str i t)) (p : P c (.str i)) (hg : Gl X x := by rfl) (hdb : (x == ("__debug__" : Str)) = false := by decide) : SE F X Γ c (.Name x pos) P := se_glob (v := .str i) hg hm ⟨_, rfl⟩ (fun _ => .str i) p hdb
/-- a slot's datum -/
theorem se_var (i : Nat) {x : Str} {d : Dt} (hs : Γ[i]? = some (.dat d)) (p : P c d) (hN : X.N[i]? = some x := by rfl) (hv : Vis X.env.scope x := by first | exact Or.inl rfl | exact Or.inr (Or.inl rfl) | exact Or.inr (Or.inr rfl))
    (hd : (x == ("__debug__" : Str)) = false := by decide) (hcd : (x == ("__classdict__" : Str)) = false := by decide) : SE F X Γ c (.Name x pos) P :=
  SE.of (pe_var hN hv hd hcd) fun σ H Q S k => by
    obtain ⟨v, h1, h2⟩ := S.sl i _ hs
    exact ⟨v, h1, k v H c d p S (Ex.refl _) h2⟩

theorem se_op2 {e a b : Expr} {r : R2} (hp : PE X e (tOp r (tE X a) (tE X b))) (h : SE F X Γ c a fun c1 d1 => SE F X Γ c1 b fun c2 d2 => VR X.K F Γ c2 (fun vs H Q => ∃ x y, vs = [x, y] ∧ r x y H Q) [d1, d2] P) : SE F X Γ c e P :=
  SE.of hp fun σ H Q S k => by
    refine h σ H _ S fun v H1 c1 d1 hb S1 k1 dv1 => ?_
    refine hb σ H1 _ S1 fun w H2 c2 d2 hr S2 k2 dv2 => ?_
    obtain ⟨x, y, e1, q⟩ := hr σ H2 [v, w] Q S2 (.cons (dv1.mono k2) (.cons dv2 .nil)) fun u H3 c3 d3 p S3 k3 dv3 => k u H3 c3 d3 p S3 ((k1.trans k2).trans k3) dv3
    cases e1
    exact q
theorem se_bin {a b : Expr} {op : Operator} (h : SE F X Γ c a fun c1 d1 => SE F X Γ c1 b fun c2 d2 => OpV F X Γ c2 (binaryOp op) d1 d2 P) : SE F X Γ c (.BinOp a op b pos) P := se_op2 (pe_op opR pE pE) h
theorem se_cmp {a b : Expr} {op : CmpOp} (h : SE F X Γ c a fun c1 d1 => SE F X Γ c1 b fun c2 d2 => OpV F X Γ c2 (compareOp op) d1 d2 P) (hm : behindInMarks op b = false := by first | exact nomark _ | rfl) : SE F X Γ c (.Compare a [op] [b] pos) P := se_op2 (pe_cmpR opR pE pE hm) h
theorem se_ix {a b : Expr} (h : SE F X Γ c a fun c1 d1 => SE F X Γ c1 b fun c2 d2 => IxV F X Γ c2 d1 d2 P) (hs : PlainIx b := by exact fun _ _ => rfl) : SE F X Γ c (.Subscript a b pos) P := se_op2 (pe_ix ixR pE pE hs) h
theorem st_cmp {a b : Expr} {op : CmpOp} {P : Nat → Bool → Prop} (h : SE F X Γ c a fun c1 d1 => SE F X Γ c1 b fun c2 d2 => OpV F X Γ c2 (compareOp op) d1 d2 fun c3 d => ∃ k, d = .bl k ∧ P c3 k) (hm : behindInMarks op b = false := by first | exact nomark _ | rfl) : ST F X Γ c (.Compare a [op] [b] pos) P := by
  intro σ H Q S k
  refine tT_of (pt_cmpR opR pE pE hm) ?_
  refine h σ H _ S fun v H1 c1 d1 hb S1 k1 dv1 => ?_
  refine hb σ H1 _ S1 fun w H2 c2 d2 hr S2 k2 dv2 => ?_
  obtain ⟨x, y, e1, q⟩ := hr σ H2 [v, w] (fun z H' => ∃ k, z = .bl k ∧ Q k H') S2 (.cons (dv1.mono k2) (.cons dv2 .nil)) fun u H3 c3 d3 p S3 k3 dv3 => by
    obtain ⟨b, rfl, p⟩ := p
    cases dv3
    exact ⟨b, rfl, k b H3 c3 p S3 ((k1.trans k2).trans k3)⟩
  cases e1
  exact q
/-- a value that is a bool, as a test (a call, a name) -/
theorem st_val {e : Expr} {P : Nat → Bool → Prop} (h : SE F X Γ c e fun c1 d => ∃ k, d = .bl k ∧ P c1 k)
    (hw : ∀ whole : Sem Value, PySem.isTrue e X.env whole = (do let v ← whole; standAt e.pos; holding [v] (truthy v)) := by intro _; rfl) : ST F X Γ c e P := by
  intro σ H Q S k
  refine tT_of (pt_val pE hw) ?_
  refine h σ H _ S fun v H1 c1 d1 p S1 k1 dv1 => ?_
  obtain ⟨b, rfl, p⟩ := p
  cases dv1
  exact ⟨b, rfl, k b H1 c1 p S1 k1⟩
theorem st_not {e : Expr} {P : Nat → Bool → Prop} (h : ST F X Γ c e fun c1 b => P c1 (!b)) : ST F X Γ c (.UnaryOp .Not e pos) P := by
  intro σ H Q S k
  refine tT_of (pt_not pT) ?_
  exact h σ H _ S fun b H1 c1 p S1 k1 => k _ H1 c1 p S1 k1
/-- and, or as tests: a list of them -/
structure TWc (X : Cx) (e : Expr) (σ : L2.St) (H : Hp) (Q : Bool → Hp → Prop) : Prop where
  run : ∀ (whole : Sem Value) pins s, Inv X pins σ H s → wpAny (model X.prog X.w) X.A (PySem.isTrue e X.env whole) (TP X pins σ Q) X.xe s
def tW (X : Cx) (e : Expr) : TT := fun σ H Q => TWc X e σ H Q
def SWt (F : Fm) (X : Cx) (Γ : List Sl) (c : Nat) (e : Expr) (P : Nat → Bool → Prop) : Prop :=
  ∀ (σ : L2.St) (H : Hp) (Q : Bool → Hp → Prop), SI X.K F Γ c σ H → (∀ b H' c', P c' b → SI X.K F Γ c' σ H' → Ex (Vw F Γ H) (Vw F Γ H') → Q b H') → tW X e σ H Q
theorem pW {e : Expr} : PW X e (tW X e) := ⟨fun wh pins s _ _ _ I h => TWc.run h wh pins s I⟩
theorem st_w {e : Expr} {P : Nat → Bool → Prop} (h : SWt F X Γ c e P) : ST F X Γ c e P := fun σ H Q S k => tT_of pW.pt (h σ H Q S k)
theorem sw_and1 {a : Expr} {P : Nat → Bool → Prop} (h : ST F X Γ c a P) : SWt F X Γ c (.BoolOp .And [a] pos) P := fun σ H Q S k => ⟨fun wh pins s I => (pw_and1 pT).run wh pins s σ H Q I (h σ H Q S k)⟩
theorem sw_or1 {a : Expr} {P : Nat → Bool → Prop} (h : ST F X Γ c a P) : SWt F X Γ c (.BoolOp .Or [a] pos) P := fun σ H Q S k => ⟨fun wh pins s I => (pw_or1 pT).run wh pins s σ H Q I (h σ H Q S k)⟩
theorem sw_and {a b : Expr} {rest : List Expr} {P : Nat → Bool → Prop} (h : ST F X Γ c a fun c1 k => if k = true then SWt F X Γ c1 (.BoolOp .And (b :: rest) pos) P else P c1 false) : SWt F X Γ c (.BoolOp .And (a :: b :: rest) pos) P := by
  intro σ H Q S k
  refine ⟨fun wh pins s I => ?_⟩
  refine (pw_and pT pW).run wh pins s σ H Q I (h σ H _ S fun b1 H1 c1 p S1 k1 => ?_)
  cases b1 with
  | true => exact (show SWt F X Γ c1 _ P from p) σ H1 Q S1 fun b2 H2 c2 p2 S2 k2 => k b2 H2 c2 p2 S2 (k1.trans k2)
  | false => exact k false H1 c1 p S1 k1
theorem sw_or {a b : Expr} {rest : List Expr} {P : Nat → Bool → Prop} (h : ST F X Γ c a fun c1 k => if k = true then P c1 true else SWt F X Γ c1 (.BoolOp .Or (b :: rest) pos) P) : SWt F X Γ c (.BoolOp .Or (a :: b :: rest) pos) P := by
  intro σ H Q S k
  refine ⟨fun wh pins s I => ?_⟩
  refine (pw_or pT pW).run wh pins s σ H Q I (h σ H _ S fun b1 H1 c1 p S1 k1 => ?_)
  cases b1 with
  | false => exact (show SWt F X Γ c1 _ P from p) σ H1 Q S1 fun b2 H2 c2 p2 S2 k2 => k b2 H2 c2 p2 S2 (k1.trans k2)
  | true => exact k true H1 c1 p S1 k1
/-- and, or as values of bools -/
theorem se_one {a : Expr} {op} (h : SE F X Γ c a P) : SE F X Γ c (.BoolOp op [a] pos) P := SE.of (pe_one pE) fun σ H Q S k => h σ H Q S k
theorem se_and {a b : Expr} {rest : List Expr} (h : SE F X Γ c a fun c1 d => ∃ k, d = .bl k ∧ if k = true then SE F X Γ c1 (.BoolOp .And (b :: rest) pos) P else P c1 (.bl false)) : SE F X Γ c (.BoolOp .And (a :: b :: rest) pos) P :=
  SE.of (pe_and pE pE) fun σ H Q S k => by
    refine h σ H _ S fun v H1 c1 d1 p S1 k1 dv1 => ?_
    obtain ⟨b1, rfl, p⟩ := p
    cases dv1
    refine ⟨b1, rfl, ?_⟩
    cases b1 with
    | true => exact (show SE F X Γ c1 _ P from p) σ H1 Q S1 fun b2 H2 c2 d2 p2 S2 k2 => k b2 H2 c2 d2 p2 S2 (k1.trans k2)
    | false => exact k _ H1 c1 _ p S1 k1 (.bl false)
theorem se_or {a b : Expr} {rest : List Expr} (h : SE F X Γ c a fun c1 d => ∃ k, d = .bl k ∧ if k = true then P c1 (.bl true) else SE F X Γ c1 (.BoolOp .Or (b :: rest) pos) P) : SE F X Γ c (.BoolOp .Or (a :: b :: rest) pos) P :=
  SE.of (pe_or pE pE) fun σ H Q S k => by
    refine h σ H _ S fun v H1 c1 d1 p S1 k1 dv1 => ?_
    obtain ⟨b1, rfl, p⟩ := p
    cases dv1
    refine ⟨b1, rfl, ?_⟩
    cases b1 with
    | false => exact (show SE F X Γ c1 _ P from p) σ H1 Q S1 fun b2 H2 c2 d2 p2 S2 k2 => k b2 H2 c2 d2 p2 S2 (k1.trans k2)
    | true => exact k _ H1 c1 _ p S1 k1 (.bl true)
theorem se_not {a : Expr} (h : SE F X Γ c a fun c1 d => ∃ k, d = .bl k ∧ P c1 (.bl (!k))) : SE F X Γ c (.UnaryOp .Not a pos) P :=
  SE.of (pe_not pE) fun σ H Q S k => by
    refine h σ H _ S fun v H1 c1 d1 p S1 k1 dv1 => ?_
    obtain ⟨b1, rfl, p⟩ := p
    cases dv1
    exact ⟨b1, rfl, k _ H1 c1 _ p S1 k1 (.bl _)⟩
theorem se_if {t a b : Expr} (h : ST F X Γ c t fun c1 k => if k = true then SE F X Γ c1 a P else SE F X Γ c1 b P) : SE F X Γ c (.IfExp t a b pos) P :=
  SE.of (pe_ifExp pT pE pE) fun σ H Q S k => by
    refine h σ H _ S fun b1 H1 c1 p S1 k1 => ?_
    cases b1 with
    | true => exact (show SE F X Γ c1 _ P from p) σ H1 Q S1 fun b2 H2 c2 d2 p2 S2 k2 => k b2 H2 c2 d2 p2 S2 (k1.trans k2)
    | false => exact (show SE F X Γ c1 _ P from p) σ H1 Q S1 fun b2 H2 c2 d2 p2 S2 k2 => k b2 H2 c2 d2 p2 S2 (k1.trans k2)
theorem se_chain {a b e : Expr} {op op' : CmpOp} (h : SE F X Γ c a fun c1 d1 => SE F X Γ c1 b fun c2 d2 => OpV F X Γ c2 (compareOp op) d1 d2 fun c3 d => ∃ k, d = .bl k ∧ if k = true then SE F X Γ c3 e (fun c4 d4 => OpV F X Γ c4 (compareOp op') d2 d4 P) else P c3 (.bl false))
    (hm : lastMarks [op, op'] [b, e] = false := by with_unfolding_all rfl) : SE F X Γ c (.Compare a [op, op'] [b, e] pos) P :=
  SE.of (pe_chain opR opR pE pE pE hm) fun σ H Q S k => by
    refine h σ H _ S fun v H1 c1 d1 hb S1 k1 dv1 => ?_
    refine hb σ H1 _ S1 fun w H2 c2 d2 hr S2 k2 dv2 => ?_
    obtain ⟨x, y, e1, q⟩ := hr σ H2 [v, w] (fun z H3 => ∃ k, z = .bl k ∧ (if k = true then tE X e σ H3 fun w' H4 => rOp X (compareOp op') w w' H4 Q else Q (.bl false) H3)) S2 (.cons (dv1.mono k2) (.cons dv2 .nil)) fun u H3 c3 d3 p S3 k3 dv3 => by
      obtain ⟨b1, rfl, p⟩ := p
      cases dv3
      refine ⟨b1, rfl, ?_⟩
      cases b1 with
      | false => exact k _ H3 c3 _ p S3 ((k1.trans k2).trans k3) (.bl false)
      | true =>
        refine (show SE F X Γ c3 e _ from p) σ H3 _ S3 fun w' H4 c4 d4 hr' S4 k4 dv4 => ?_
        obtain ⟨x', y', e2, q⟩ := hr' σ H4 [w, w'] Q S4 (.cons (dv2.mono (k3.trans k4)) (.cons dv4 .nil)) fun u H5 c5 d5 p5 S5 k5 dv5 => k u H5 c5 d5 p5 S5 ((((k1.trans k2).trans k3).trans k4).trans k5) dv5
        cases e2
        exact q
    cases e1
    exact q
/-! arguments, displays -/
theorem sa_nil {P : Nat → List Dt → Prop} (p : P c []) : SA F X Γ c [] P := fun σ H Q S k => tAs_of pa_nil (k [] H c [] p S (Ex.refl _) .nil)
theorem sa_cons {e : Expr} {es : List Expr} {P : Nat → List Dt → Prop} (h : SE F X Γ c e fun c1 d => SA F X Γ c1 es fun c2 ds => P c2 (d :: ds)) (hs : starEach (e :: es) X.env = (false, eval e X.env) :: starEach es X.env := by rfl) : SA F X Γ c (e :: es) P :=
  fun σ H Q S k => tAs_of (pa_cons pE pAs hs) (h σ H _ S fun v H1 c1 d hr S1 k1 dv => hr σ H1 _ S1 fun vs H2 c2 ds p S2 k2 dvs => k (v :: vs) H2 c2 (d :: ds) p S2 (k1.trans k2) (.cons (dv.mono k2) dvs))
theorem se_tup {es : List Expr} {x1} (h : SA F X Γ c es fun c1 ds => ds.length ≤ sizeLine ∧ P c1 (.tup ds)) : SE F X Γ c (.Tuple es x1 pos) P :=
  SE.of (pe_tup pAs) fun σ H Q S k => h σ H _ S fun vs H1 c1 ds p S1 k1 dv => ⟨by rw [dv.length]; exact p.1, fun q hq => k _ _ c1 _ p.2 (S1.new hq) (k1.trans (Kp.new hq).hid) (S1.newT hq dv)⟩
theorem se_lst {es : List Expr} (h : SA F X Γ c es fun c1 ds => ds.length ≤ sizeLine ∧ P c1 (.lst ds)) : SE F X Γ c (.List es pos) P :=
  SE.of (pe_lst pAs) fun σ H Q S k => h σ H _ S fun vs H1 c1 ds p S1 k1 dv => ⟨by rw [dv.length]; exact p.1, fun q hq => k _ _ c1 _ p.2 (S1.new hq) (k1.trans (Kp.new hq).hid) (S1.newL hq dv)⟩
/-! calls of what is built in -/
theorem se_callB {x : Str} {p : Pos} {e : Expr} {es : List Expr} {id : String} (hm : X.mg x = none) (h : SA F X Γ c (e :: es) fun c1 ds => ClV F X Γ c1 (.builtin id) ds P) (hv : bootBuiltins x = some (.builtin id) := by decide +kernel) (hg : Gl X x := by rfl) (hn : x ≠ "__name__" := by decide) (hdb : (x == ("__debug__" : Str)) = false := by decide)
    (he : starEach (e :: es) X.env = (false, eval e X.env) :: starEach es X.env := by rfl) (hpl : (backTo pos (starEach es X.env)).any (·.1) = false := by rfl) : SE F X Γ c (.Call (.Name x p) (e :: es) [] pos) P :=
  SE.of (pe_callB clR hg hm hv pAs hn hdb he hpl) fun σ H Q S k => h σ H _ S fun vs H1 c1 ds q S1 k1 dv => q σ H1 vs Q S1 dv fun v H2 c2 d p S2 k2 dv2 => k v H2 c2 d p S2 (k1.trans k2) dv2
theorem se_callT {x : Str} {p : Pos} {e : Expr} {es : List Expr} {id : String} (hm : X.mg x = none) (h : SA F X Γ c (e :: es) fun c1 ds => ClV F X Γ c1 (.type id) ds P) (hv : bootBuiltins x = some (.type id) := by decide +kernel) (hg : Gl X x := by rfl) (hn : x ≠ "__name__" := by decide) (hdb : (x == ("__debug__" : Str)) = false := by decide)
    (he : starEach (e :: es) X.env = (false, eval e X.env) :: starEach es X.env := by rfl) (hpl : (backTo pos (starEach es X.env)).any (·.1) = false := by rfl) : SE F X Γ c (.Call (.Name x p) (e :: es) [] pos) P :=
  SE.of (pe_callTy clR hg hm hv pAs hn hdb he hpl) fun σ H Q S k => h σ H _ S fun vs H1 c1 ds q S1 k1 dv => q σ H1 vs Q S1 dv fun v H2 c2 d p S2 k2 dv2 => k v H2 c2 d p S2 (k1.trans k2) dv2
/-! slices -/
def SO (F : Fm) (X : Cx) (Γ : List Sl) (c : Nat) (e : Option Expr) (P : Nat → Option Int → Prop) : Prop :=
  match e with
  | none => P c none
  | some e => SE F X Γ c e fun c1 d => ∃ i, d = .int i ∧ P c1 (some i)
theorem SO.po {e : Option Expr} {P : Nat → Option Int → Prop} (h : SO F X Γ c e P) : ∃ t, PO X e t ∧ ∀ (σ : L2.St) (H : Hp) (Q : Option Int → Hp → Prop), SI X.K F Γ c σ H → (∀ b H' c', P c' b → SI X.K F Γ c' σ H' → Ex (Vw F Γ H) (Vw F Γ H') → Q b H') → t σ H Q := by
  cases e with
  | none => exact ⟨_, po_none, fun σ H Q S k => k none H c h S (Ex.refl _)⟩
  | some e =>
    refine ⟨_, po_some pE, fun σ H Q S k => ?_⟩
    refine (show SE F X Γ c e _ from h) σ H _ S fun v H1 c1 d p S1 k1 dv => ?_
    obtain ⟨i, rfl, p⟩ := p
    cases dv
    exact ⟨i, rfl, k (some i) H1 c1 p S1 k1⟩
def tOc (X : Cx) (e : Option Expr) : TO := fun σ H Q => ∃ t, PO X e t ∧ t σ H Q
theorem pOc {e : Option Expr} : PO X e (tOc X e) := ⟨fun pins s σ H Q I ⟨_, h, q⟩ => h.run pins s σ H Q I q⟩
theorem se_slice {e : Expr} {lo hi : Option Expr} {p2 : Pos} (h : SE F X Γ c e fun c1 d => SO F X Γ c1 lo fun c2 l => SO F X Γ c2 hi fun c3 u => SlV F X Γ c3 l u d P) : SE F X Γ c (.Subscript e (.Slice lo hi none p2) pos) P :=
  SE.of (pe_slice slR pE pOc pOc) fun σ H Q S k => by
    refine h σ H _ S fun v H1 c1 d hl S1 k1 dv1 => ?_
    obtain ⟨tl, pl, ql⟩ := hl.po
    refine ⟨tl, pl, ql σ H1 _ S1 fun l H2 c2 hu S2 k2 => ?_⟩
    obtain ⟨tu, pu, qu⟩ := hu.po
    refine ⟨tu, pu, qu σ H2 _ S2 fun u H3 c3 hr S3 k3 => ?_⟩
    obtain ⟨x, e1, q⟩ := hr σ H3 [v] Q S3 (.cons (dv1.mono (k2.trans k3)) .nil) fun w H4 c4 d4 p S4 k4 dv4 => k w H4 c4 d4 p S4 (((k1.trans k2).trans k3).trans k4) dv4
    cases e1
    exact q
end
end G

set_option Elab.async false
set_option linter.all false
set_option maxRecDepth 100000
namespace G
open PySem L2
section
variable {F : Fm} {X : Cx} {Γ : List Sl} {c : Nat} {P : Nat → Dt → Prop} {pos : Pos}

/-! ### 6. operations on data -/
theorem OpV.of {f : Value → Value → Sem Value} {r : R2} {d1 d2 : Dt} (ho : OpR X f r) (h : ∀ (σ : L2.St) (H : Hp) (x y : V) (Q : VK), SI X.K F Γ c σ H → DV X.K (Vw F Γ H) x d1 → DV X.K (Vw F Γ H) y d2 →
    (∀ v H' c' d, P c' d → SI X.K F Γ c' σ H' → Ex (Vw F Γ H) (Vw F Γ H') → DV X.K (Vw F Γ H') v d → Q v H') → r x y H Q) : OpV F X Γ c f d1 d2 P := by
  intro σ H vs Q S dv k
  cases dv with
  | cons h1 t => cases t with
    | cons h2 t =>
      cases t
      exact ⟨_, _, rfl, r, ho, h σ H _ _ Q S h1 h2 k⟩
theorem IxV.of {r : R2} {d1 d2 : Dt} (ho : IxR X r) (h : ∀ (σ : L2.St) (H : Hp) (x y : V) (Q : VK), SI X.K F Γ c σ H → DV X.K (Vw F Γ H) x d1 → DV X.K (Vw F Γ H) y d2 →
    (∀ v H' c' d, P c' d → SI X.K F Γ c' σ H' → Ex (Vw F Γ H) (Vw F Γ H') → DV X.K (Vw F Γ H') v d → Q v H') → r x y H Q) : IxV F X Γ c d1 d2 P := by
  intro σ H vs Q S dv k
  cases dv with
  | cons h1 t => cases t with
    | cons h2 t =>
      cases t
      exact ⟨_, _, rfl, r, ho, h σ H _ _ Q S h1 h2 k⟩
theorem SlV.of {r : V → Option Int → Option Int → Hp → VK → Prop} {lo hi : Option Int} {d : Dt} (ho : SlR X r) (h : ∀ (σ : L2.St) (H : Hp) (x : V) (Q : VK), SI X.K F Γ c σ H → DV X.K (Vw F Γ H) x d →
    (∀ v H' c' d, P c' d → SI X.K F Γ c' σ H' → Ex (Vw F Γ H) (Vw F Γ H') → DV X.K (Vw F Γ H') v d → Q v H') → r x lo hi H Q) : SlV F X Γ c lo hi d P := by
  intro σ H vs Q S dv k
  cases dv with
  | cons h1 t =>
    cases t
    exact ⟨_, rfl, r, ho, h σ H _ Q S h1 k⟩
theorem ClV.of {f : Value} {r : List V → Hp → VK → Prop} {ds : List Dt} (ho : CallR X f r) (h : ∀ (σ : L2.St) (H : Hp) (vs : List V) (Q : VK), SI X.K F Γ c σ H → DVs X.K (Vw F Γ H) vs ds →
    (∀ v H' c' d, P c' d → SI X.K F Γ c' σ H' → Ex (Vw F Γ H) (Vw F Γ H') → DV X.K (Vw F Γ H') v d → Q v H') → r vs H Q) : ClV F X Γ c f ds P :=
  fun σ H vs Q S dv k => ⟨r, ho, h σ H vs Q S dv k⟩
/-- two ints to a flat value -/
theorem OpV.ints {f : Value → Value → Sem Value} {C : Int → Int → Prop} {g : Int → Int → V} {i j : Int} {d : Dt} (ho : OpR X f (rI C g)) (hc : C i j) (hd : ∀ H, DV X.K H (g i j) d) (p : P c d) : OpV F X Γ c f (.int i) (.int j) P :=
  OpV.of ho fun σ H x y Q S h1 h2 k => by cases h1; cases h2; exact ⟨i, j, rfl, rfl, hc, k _ H c d p S (Ex.refl _) (hd _)⟩
theorem OpV.ints0 {f : Value → Value → Sem Value} {g : Int → Int → V} {i j : Int} {d : Dt} (ho : OpR X f (rI0 g)) (hd : ∀ H, DV X.K H (g i j) d) (p : P c d) : OpV F X Γ c f (.int i) (.int j) P :=
  OpV.of ho fun σ H x y Q S h1 h2 k => by cases h1; cases h2; exact ⟨i, j, rfl, rfl, k _ H c d p S (Ex.refl _) (hd _)⟩
theorem ov_add {i j : Int} (p : P c (.int (i + j))) : OpV F X Γ c (binaryOp .Add) (.int i) (.int j) P := OpV.ints0 op_add (fun _ => .int _) p
theorem ov_sub {i j : Int} (p : P c (.int (i - j))) : OpV F X Γ c (binaryOp .Sub) (.int i) (.int j) P := OpV.ints0 op_sub (fun _ => .int _) p
theorem ov_mul {i j : Int} (hc : CMul i j) (p : P c (.int (i * j))) : OpV F X Γ c (binaryOp .Mult) (.int i) (.int j) P := OpV.ints op_mul hc (fun _ => .int _) p
theorem ov_mod {i j : Int} (hc : 0 < j) (p : P c (.int (i % j))) : OpV F X Γ c (binaryOp .Mod) (.int i) (.int j) P := OpV.ints op_mod hc (fun _ => .int _) p
theorem ov_div {i j : Int} (hc : CDiv i j) (p : P c (.int (i / j))) : OpV F X Γ c (binaryOp .FloorDiv) (.int i) (.int j) P := OpV.ints op_fdiv hc (fun _ => .int _) p
theorem ov_pow {i j : Int} (hc : CPow i j) (p : P c (.int (i ^ j.toNat))) : OpV F X Γ c (binaryOp .Pow) (.int i) (.int j) P := OpV.ints op_pow hc (fun _ => .int _) p
theorem ov_lt {i j : Int} (p : P c (.bl (decide (i < j)))) : OpV F X Γ c (compareOp .Lt) (.int i) (.int j) P := OpV.ints0 op_lt (fun _ => .bl _) p
theorem ov_le {i j : Int} (p : P c (.bl (decide (i ≤ j)))) : OpV F X Γ c (compareOp .LtE) (.int i) (.int j) P := OpV.ints0 op_le (fun _ => .bl _) p
theorem ov_gt {i j : Int} (p : P c (.bl (decide (j < i)))) : OpV F X Γ c (compareOp .Gt) (.int i) (.int j) P := OpV.ints0 op_gt (fun _ => .bl _) p
theorem ov_ge {i j : Int} (p : P c (.bl (decide (j ≤ i)))) : OpV F X Γ c (compareOp .GtE) (.int i) (.int j) P := OpV.ints0 op_ge (fun _ => .bl _) p
theorem ov_addS {i j : Str} (hz : i.length + j.length ≤ sizeLine) (p : P c (.str (i ++ j))) : OpV F X Γ c (binaryOp .Add) (.str i) (.str j) P :=
  OpV.of op_add_str fun σ H x y Q S h1 h2 k => by cases h1; cases h2; exact ⟨i, j, rfl, rfl, hz, k _ H c _ p S (Ex.refl _) (.str _)⟩
theorem ov_gtS {i j : Str} (p : P c (.bl (decide (j.cps.toList < i.cps.toList)))) : OpV F X Γ c (compareOp .Gt) (.str i) (.str j) P :=
  OpV.of op_gt_str fun σ H x y Q S h1 h2 k => by cases h1; cases h2; exact ⟨i, j, rfl, rfl, k _ H c _ p S (Ex.refl _) (.bl _)⟩
/-- equality of flat values -/
theorem ov_eqF {d1 d2 : Dt} {v1 v2 : V} (h1 : ∀ H v, DV X.K H v d1 → v = v1) (h2 : ∀ H v, DV X.K H v d2 → v = v2) (hs : scal v1 v2 = true) (p : P c (.bl (decide (v1 = v2)))) : OpV F X Γ c (compareOp .Eq) d1 d2 P :=
  OpV.of op_eq fun σ H x y Q S q1 q2 k => by rw [h1 _ _ q1, h2 _ _ q2]; exact ⟨hs, k _ H c _ p S (Ex.refl _) (.bl _)⟩
theorem ov_neF {d1 d2 : Dt} {v1 v2 : V} (h1 : ∀ H v, DV X.K H v d1 → v = v1) (h2 : ∀ H v, DV X.K H v d2 → v = v2) (hs : scal v1 v2 = true) (p : P c (.bl (!decide (v1 = v2)))) : OpV F X Γ c (compareOp .NotEq) d1 d2 P :=
  OpV.of op_ne fun σ H x y Q S q1 q2 k => by rw [h1 _ _ q1, h2 _ _ q2]; exact ⟨hs, k _ H c _ p S (Ex.refl _) (.bl _)⟩
theorem dv_int {K : PySem.W.Frag} {H : Hp} {v : V} {i : Int} (h : DV K H v (.int i)) : v = .int i := by cases h; rfl
theorem dv_str {K : PySem.W.Frag} {H : Hp} {v : V} {i : Str} (h : DV K H v (.str i)) : v = .str i := by cases h; rfl
theorem dv_bl {K : PySem.W.Frag} {H : Hp} {v : V} {i : Bool} (h : DV K H v (.bl i)) : v = .bl i := by cases h; rfl
theorem dv_non {K : PySem.W.Frag} {H : Hp} {v : V} (h : DV K H v .non) : v = .non := by cases h; rfl
theorem ov_eqI {i j : Int} (p : P c (.bl (decide (i = j)))) : OpV F X Γ c (compareOp .Eq) (.int i) (.int j) P :=
  ov_eqF (fun _ _ h => dv_int h) (fun _ _ h => dv_int h) rfl (by rw [show decide (V.int i = V.int j) = decide (i = j) by rw [Bool.eq_iff_iff]; simp]; exact p)
theorem ov_neI {i j : Int} (p : P c (.bl (!decide (i = j)))) : OpV F X Γ c (compareOp .NotEq) (.int i) (.int j) P :=
  ov_neF (fun _ _ h => dv_int h) (fun _ _ h => dv_int h) rfl (by rw [show decide (V.int i = V.int j) = decide (i = j) by rw [Bool.eq_iff_iff]; simp]; exact p)
theorem ov_eqS {i j : Str} (p : P c (.bl (decide (i = j)))) : OpV F X Γ c (compareOp .Eq) (.str i) (.str j) P :=
  ov_eqF (fun _ _ h => dv_str h) (fun _ _ h => dv_str h) rfl (by rw [show decide (V.str i = V.str j) = decide (i = j) by rw [Bool.eq_iff_iff]; simp]; exact p)
theorem ov_neS {i j : Str} (p : P c (.bl (!decide (i = j)))) : OpV F X Γ c (compareOp .NotEq) (.str i) (.str j) P :=
  ov_neF (fun _ _ h => dv_str h) (fun _ _ h => dv_str h) rfl (by rw [show decide (V.str i = V.str j) = decide (i = j) by rw [Bool.eq_iff_iff]; simp]; exact p)
/-! equality at any depth -/
structure Fit (n : Nat) (d : Dt) : Prop where
  pl : plain d = true
  lay : (py d).canLay0 = true
  dp : (py d).depth ≤ n
theorem Fit.mono {n m : Nat} {d : Dt} (h : Fit n d) (l : n ≤ m) : Fit m d := ⟨h.pl, h.lay, Nat.le_trans h.dp l⟩
theorem fit_non {n : Nat} : Fit n .non := ⟨rfl, rfl, Nat.zero_le _⟩
theorem fit_bl {n : Nat} {b : Bool} : Fit n (.bl b) := ⟨rfl, rfl, Nat.zero_le _⟩
theorem fit_int {n : Nat} {b : Int} : Fit n (.int b) := ⟨rfl, rfl, Nat.zero_le _⟩
theorem fit_str {n : Nat} {b : Str} (h : PyData.strOk b = true) : Fit n (.str b) := ⟨rfl, h, Nat.zero_le _⟩
theorem fits_all {n : Nat} : ∀ {l : List Dt}, (∀ x ∈ l, Fit n x) → plains l = true ∧ PyData.canLayAll0 (pys l) = true ∧ PyData.depthAll (pys l) ≤ n
  | [], _ => ⟨rfl, rfl, Nat.zero_le _⟩
  | d :: l, h => by
    obtain ⟨h1, h2, h3⟩ := fits_all (l := l) fun x hx => h x (List.mem_cons_of_mem _ hx)
    have q := h d (List.mem_cons_self ..)
    exact ⟨by rw [plains, q.pl, h1]; rfl, by rw [pys, PyData.canLayAll0, q.lay, h2]; rfl, by rw [pys, PyData.depthAll]; exact Nat.max_le.mpr ⟨q.dp, h3⟩⟩
theorem fit_tup {n : Nat} {l : List Dt} (h : ∀ x ∈ l, Fit n x) : Fit (n + 1) (.tup l) := by
  obtain ⟨h1, h2, h3⟩ := fits_all h
  exact ⟨h1, h2, Nat.succ_le_succ h3⟩
theorem fit_lst {n : Nat} {l : List Dt} (h : ∀ x ∈ l, Fit n x) : Fit (n + 1) (.lst l) := by
  obtain ⟨h1, h2, h3⟩ := fits_all h
  exact ⟨h1, h2, Nat.succ_le_succ h3⟩
theorem Fit.shaped {d : Dt} (h : Fit 64 d) : SeqAt.shaped (py d) = true := by
  unfold SeqAt.shaped
  rw [h.lay, decide_eq_true h.dp]
  rfl
def eqd (a b : Dt) : Bool := PyData.eqv (py a) (py b)
theorem ov_eqD {d1 d2 : Dt} (hu : X.A.units + 64 < cLine) (f1 : Fit 64 d1) (f2 : Fit 64 d2) (p : P c (.bl (eqd d1 d2))) : OpV F X Γ c (compareOp .Eq) d1 d2 P :=
  OpV.of (op_eqD hu) fun σ H x y Q S h1 h2 k => ⟨py d1, py d2, (h1.mono (mask_ex _ _)).dp f1.pl, (h2.mono (mask_ex _ _)).dp f2.pl, f1.shaped, f2.shaped, k _ H c _ p S (Ex.refl _) (.bl _)⟩
theorem ov_neD {d1 d2 : Dt} (hu : X.A.units + 64 < cLine) (f1 : Fit 64 d1) (f2 : Fit 64 d2) (p : P c (.bl (!eqd d1 d2))) : OpV F X Γ c (compareOp .NotEq) d1 d2 P :=
  OpV.of (op_neD hu) fun σ H x y Q S h1 h2 k => ⟨py d1, py d2, (h1.mono (mask_ex _ _)).dp f1.pl, (h2.mono (mask_ex _ _)).dp f2.pl, f1.shaped, f2.shaped, k _ H c _ p S (Ex.refl _) (.bl _)⟩
/-! in, is None -/
theorem ov_inSign {a : Nat} {z : Str} (p : P c (.bl (decide (a ∈ z.cps.toList)))) : OpV F X Γ c (compareOp .In) (.str ⟨#[a]⟩) (.str z) P :=
  OpV.of op_in_sign fun σ H x y Q S h1 h2 k => by cases h1; cases h2; exact ⟨a, z, rfl, rfl, k _ H c _ p S (Ex.refl _) (.bl _)⟩
def flatD : Dt → Bool
  | .non => true | .bl _ => true | .int _ => true | .str _ => true | _ => false
def flatOf : Dt → V
  | .bl b => .bl b | .int i => .int i | .str s => .str s | _ => .non
theorem dv_flat {K : PySem.W.Frag} {H : Hp} {v : V} {d : Dt} (h : DV K H v d) (f : flatD d = true) : v = flatOf d := by cases h <;> first | rfl | cases f
theorem dvs_flat {K : PySem.W.Frag} {H : Hp} : ∀ {vs : List V} {ds : List Dt}, DVs K H vs ds → ds.all flatD = true → vs = ds.map flatOf
  | _, _, .nil, _ => rfl
  | _, _, .cons h t, f => by
    simp only [List.all_cons, Bool.and_eq_true] at f
    rw [dv_flat h f.1, dvs_flat t f.2]; rfl
theorem flat_flatOf {d : Dt} : flatV (flatOf d) = true := by cases d <;> rfl
theorem flats_flatOf {ds : List Dt} : (ds.map flatOf).all flatV = true := by rw [List.all_eq_true]; intro x hx; obtain ⟨d, _, rfl⟩ := List.mem_map.mp hx; exact flat_flatOf
def seqD : Dt → Option (List Dt)
  | .lst l => some l
  | .tup l => some l
  | _ => none
theorem dv_seq {K : PySem.W.Frag} {H : Hp} {v : V} {d : Dt} {l : List Dt} (h : DV K H v d) (e : seqD d = some l) : ∃ a xs, v = .ref a ∧ (SqL K H a xs ∨ SqT K H a xs) ∧ DVs K H xs l := by
  cases h with
  | lst h t => cases e; exact ⟨_, _, rfl, .inl (.inl (.inl h)), t⟩
  | tup h t => cases e; exact ⟨_, _, rfl, .inr h, t⟩
  | _ => cases e
def inD (d : Dt) (l : List Dt) : Bool := inV (flatOf d) (l.map flatOf)
theorem ov_in {d s : Dt} {l : List Dt} (hs : seqD s = some l) (f1 : flatD d = true) (f2 : l.all flatD = true) (p : P c (.bl (inD d l))) : OpV F X Γ c (compareOp .In) d s P :=
  OpV.of op_in_seq fun σ H x y Q S h1 h2 k => by
    obtain ⟨a, xs, rfl, hq, dv⟩ := dv_seq (h2.mono (mask_ex _ _)) hs
    rw [dv_flat h1 f1]
    have e := dvs_flat dv f2
    subst e
    exact ⟨a, _, rfl, hq, flat_flatOf, flats_flatOf, k _ H c _ p S (Ex.refl _) (.bl _)⟩
theorem ov_notIn {d s : Dt} {l : List Dt} (hs : seqD s = some l) (f1 : flatD d = true) (f2 : l.all flatD = true) (p : P c (.bl (!inD d l))) : OpV F X Γ c (compareOp .NotIn) d s P :=
  OpV.of op_notIn_seq fun σ H x y Q S h1 h2 k => by
    obtain ⟨a, xs, rfl, hq, dv⟩ := dv_seq (h2.mono (mask_ex _ _)) hs
    rw [dv_flat h1 f1]
    have e := dvs_flat dv f2
    subst e
    exact ⟨a, _, rfl, hq, flat_flatOf, flats_flatOf, k _ H c _ p S (Ex.refl _) (.bl _)⟩
def isNon : Dt → Bool
  | .non => true
  | _ => false
theorem dv_isNon {K : PySem.W.Frag} {H : Hp} {v : V} {d : Dt} (h : DV K H v d) (nr : ∀ v, d ≠ .raw v) : decide (v = V.non) = isNon d := by
  cases h <;> first | rfl | exact absurd rfl (nr _)
theorem ov_isN {d : Dt} (nr : ∀ v, d ≠ .raw v) (p : P c (.bl (isNon d))) : OpV F X Γ c (compareOp .Is) d .non P :=
  OpV.of op_isN fun σ H x y Q S h1 h2 k => by cases h2; exact ⟨rfl, k _ H c _ (by rw [← dv_isNon h1 nr] at p; exact p) S (Ex.refl _) (.bl _)⟩
theorem ov_notN {d : Dt} (nr : ∀ v, d ≠ .raw v) (p : P c (.bl (!isNon d))) : OpV F X Γ c (compareOp .IsNot) d .non P :=
  OpV.of op_notN fun σ H x y Q S h1 h2 k => by cases h2; exact ⟨rfl, k _ H c _ (by rw [← dv_isNon h1 nr] at p; exact p) S (Ex.refl _) (.bl _)⟩
/-! lists and tuples joined, repeated -/
theorem ov_cat {l m : List Dt} (hz : l.length + m.length ≤ sizeLine) (p : P c (.lst (l ++ m))) : OpV F X Γ c (binaryOp .Add) (.lst l) (.lst m) P :=
  OpV.of op_cat fun σ H x y Q S h1 h2 k => by
    cases h1 with
    | lst a1 t1 => cases h2 with
      | lst a2 t2 => exact ⟨_, _, _, _, rfl, rfl, (of_mask a1).2, (of_mask a2).2, by rw [t1.length, t2.length]; exact hz, fun q hq => k _ _ c _ p (S.new hq) (Kp.new hq).hid (S.newL hq (t1.append t2))⟩
theorem ov_catT {l m : List Dt} (hz : l.length + m.length ≤ sizeLine) (p : P c (.tup (l ++ m))) : OpV F X Γ c (binaryOp .Add) (.tup l) (.tup m) P :=
  OpV.of op_catA fun σ H x y Q S h1 h2 k => by
    cases h1 with
    | tup a1 t1 => cases h2 with
      | tup a2 t2 =>
        refine ⟨_, _, _, _, rfl, rfl, ex_t (mask_ex _ _) a1, ex_t (mask_ex _ _) a2, by rw [t1.length, t2.length]; exact hz, fun e => ?_, fun e1 e2 => ?_, fun e1 e2 q hq => k _ _ c _ p (S.new hq) (Kp.new hq).hid (S.newT hq (t1.append t2))⟩
        · subst e
          cases t1
          exact k _ H c _ p S (Ex.refl _) (.tup a2 t2)
        · subst e2
          cases t2
          rw [List.append_nil] at p
          exact k _ H c _ p S (Ex.refl _) (.tup a1 t1)
theorem ov_rep {l : List Dt} {n : Int} (h1 : -(2 ^ 63) ≤ n) (h2 : n < 2 ^ 63) (hz : l.length * n.toNat ≤ sizeLine) (p : P c (.lst (List.replicate n.toNat l).flatten)) : OpV F X Γ c (binaryOp .Mult) (.lst l) (.int n) P :=
  OpV.of op_rep fun σ H x y Q S q1 q2 k => by
    cases q1 with
    | lst a1 t1 =>
      cases q2
      exact ⟨_, _, _, rfl, rfl, (of_mask a1).2, h1, h2, by rw [t1.length]; exact hz, fun q hq => k _ _ c _ p (S.new hq) (Kp.new hq).hid (S.newL hq (t1.flat _))⟩
/-! items -/
theorem atI_dvs {K : PySem.W.Frag} {H : Hp} {xs : List V} {l : List Dt} {i : Int} {d : Dt} (t : DVs K H xs l) (h : atI l i = some d) : ∃ v, atI xs i = some v ∧ DV K H v d := by
  unfold atI at h ⊢
  rw [t.length]
  cases e : ixN l.length i with
  | none => rw [e] at h; cases h
  | some j =>
    rw [e] at h
    exact t.get h
theorem iv_lst {l : List Dt} {i : Int} {d : Dt} (h : atI l i = some d) (p : P c d) : IxV F X Γ c (.lst l) (.int i) P :=
  IxV.of ix_list fun σ H x y Q S h1 h2 k => by
    cases h1 with
    | lst a t =>
      cases h2
      obtain ⟨v, e, dv⟩ := atI_dvs t h
      exact ⟨_, _, i, v, rfl, rfl, .inl (.inl (of_mask a).2), e, k v H c d p S (Ex.refl _) dv⟩
theorem iv_tup {l : List Dt} {i : Int} {d : Dt} (h : atI l i = some d) (p : P c d) : IxV F X Γ c (.tup l) (.int i) P :=
  IxV.of ix_tup fun σ H x y Q S h1 h2 k => by
    cases h1 with
    | tup a t =>
      cases h2
      obtain ⟨v, e, dv⟩ := atI_dvs t h
      exact ⟨_, _, i, v, rfl, rfl, ex_t (mask_ex _ _) a, e, k v H c d p S (Ex.refl _) dv⟩
theorem iv_str {z : Str} {i : Int} {a : Nat} (hz : z.length ≤ sizeLine) (h : atI z.cps.toList i = some a) (p : P c (.str ⟨#[a]⟩)) : IxV F X Γ c (.str z) (.int i) P :=
  IxV.of ix_str fun σ H x y Q S h1 h2 k => by cases h1; cases h2; exact ⟨z, i, a, rfl, rfl, hz, h, k _ H c _ p S (Ex.refl _) (.str _)⟩
/-! slices -/
def cutD {α : Type} (xs : List α) (lo hi : Option Int) : List α := (xs.drop (HT.sIx xs.length 0 lo)).take (HT.sIx xs.length xs.length hi - HT.sIx xs.length 0 lo)
theorem cut_dvs {K : PySem.W.Frag} {H : Hp} {xs : List V} {l : List Dt} (t : DVs K H xs l) (lo hi : Option Int) : DVs K H (cutV xs lo hi) (cutD l lo hi) := by
  unfold cutV cutD
  rw [t.length]
  exact (t.drop _).take _
theorem sv_lst {l : List Dt} {lo hi : Option Int} (p : P c (.lst (cutD l lo hi))) : SlV F X Γ c lo hi (.lst l) P :=
  SlV.of sl_list fun σ H x Q S h1 k => by
    cases h1 with
    | lst a t => exact ⟨_, _, rfl, .inl (.inl (of_mask a).2), fun q hq => k _ _ c _ p (S.new hq) (Kp.new hq).hid (S.newL hq (cut_dvs t lo hi))⟩
theorem cutD_whole {α : Type} {xs : List α} {lo hi : Option Int} (h : HT.sIx xs.length 0 lo = 0 ∧ HT.sIx xs.length xs.length hi = xs.length) : cutD xs lo hi = xs := by
  unfold cutD
  rw [h.1, h.2, List.drop_zero, Nat.sub_zero, List.take_length]
theorem sv_tup {l : List Dt} {lo hi : Option Int} (p : P c (.tup (cutD l lo hi))) : SlV F X Γ c lo hi (.tup l) P :=
  SlV.of sl_tupA fun σ H x Q S h1 k => by
    cases h1 with
    | tup a t =>
      refine ⟨_, _, rfl, ex_t (mask_ex _ _) a, fun hw => ?_, fun hw q hq => k _ _ c _ p (S.new hq) (Kp.new hq).hid (S.newT hq (cut_dvs t lo hi))⟩
      rw [t.length] at hw
      rw [cutD_whole hw] at p
      exact k _ H c _ p S (Ex.refl _) (.tup a t)
theorem sv_str {z : Str} {lo hi : Option Int} (hz : z.length ≤ sizeLine) (p : P c (.str (cutS z lo hi))) : SlV F X Γ c lo hi (.str z) P :=
  SlV.of sl_str fun σ H x Q S h1 k => by cases h1; exact ⟨z, rfl, hz, k _ H c _ p S (Ex.refl _) (.str _)⟩
/-! calls -/
theorem cv_len {d : Dt} {l : List Dt} (hs : seqD d = some l) (p : P c (.int l.length)) : ClV F X Γ c (.builtin "len") [d] P :=
  ClV.of call_len_seq fun σ H vs Q S dv k => by
    cases dv with
    | cons h1 t =>
      cases t
      obtain ⟨a, xs, rfl, hq, dv⟩ := dv_seq (h1.mono (mask_ex _ _)) hs
      exact ⟨a, xs, rfl, hq, by rw [dv.length]; exact k _ H c _ p S (Ex.refl _) (.int _)⟩
theorem cv_lenF {l : List Dt} (p : P c (.int l.length)) : ClV F X Γ c (.builtin "len") [.fzl l] P :=
  ClV.of call_len_seq fun σ H vs Q S dv k => by
    cases dv with
    | cons h1 t =>
      cases t
      cases h1 with
      | fzl a t => exact ⟨_, _, rfl, .inl (ex_l (mask_ex _ _) a), by rw [t.length]; exact k _ H c _ p S (Ex.refl _) (.int _)⟩
theorem iv_fzl {l : List Dt} {i : Int} {d : Dt} (h : atI l i = some d) (p : P c d) : IxV F X Γ c (.fzl l) (.int i) P :=
  IxV.of ix_list fun σ H x y Q S h1 h2 k => by
    cases h1 with
    | fzl a t =>
      cases h2
      obtain ⟨v, e, dv⟩ := atI_dvs t h
      exact ⟨_, _, i, v, rfl, rfl, ex_l (mask_ex _ _) a, e, k v H c d p S (Ex.refl _) dv⟩
theorem cv_lenS {z : Str} (hz : z.length ≤ sizeLine) (p : P c (.int z.length)) : ClV F X Γ c (.builtin "len") [.str z] P :=
  ClV.of call_len_str fun σ H vs Q S dv k => by
    cases dv with
    | cons h1 t => cases t; cases h1; exact ⟨z, rfl, hz, k _ H c _ p S (Ex.refl _) (.int _)⟩
theorem cv_all {bs : List Bool} (hc : X.calm = true) (p : P c (.bl (bs.all id))) : ClV F X Γ c (.builtin "all") [.lst (bs.map Dt.bl)] P :=
  ClV.of (cr_all hc) fun σ H vs Q S dv k => by
    cases dv with
    | cons h1 t =>
      cases t
      cases h1 with
      | lst a t =>
        have e := t.of_bls
        subst e
        exact ⟨_, bs, rfl, .inl (.inl (of_mask a).2), k _ H c _ p S (Ex.refl _) (.bl _)⟩
theorem cv_any {bs : List Bool} (hc : X.calm = true) (p : P c (.bl (bs.any id))) : ClV F X Γ c (.builtin "any") [.lst (bs.map Dt.bl)] P :=
  ClV.of (cr_any hc) fun σ H vs Q S dv k => by
    cases dv with
    | cons h1 t =>
      cases t
      cases h1 with
      | lst a t =>
        have e := t.of_bls
        subst e
        exact ⟨_, bs, rfl, .inl (.inl (of_mask a).2), k _ H c _ p S (Ex.refl _) (.bl _)⟩
theorem cv_max2 {i j : Int} (hc : X.calm = true) (p : P c (.int (if j > i then j else i))) : ClV F X Γ c (.builtin "max") [.int i, .int j] P :=
  ClV.of (call_max2 hc) fun σ H vs Q S dv k => by
    cases dv with
    | cons h1 t => cases t with | cons h2 t => cases t; cases h1; cases h2; exact ⟨i, j, rfl, k _ H c _ p S (Ex.refl _) (.int _)⟩
theorem cv_min2 {i j : Int} (hc : X.calm = true) (p : P c (.int (if j < i then j else i))) : ClV F X Γ c (.builtin "min") [.int i, .int j] P :=
  ClV.of (call_min2 hc) fun σ H vs Q S dv k => by
    cases dv with
    | cons h1 t => cases t with | cons h2 t => cases t; cases h1; cases h2; exact ⟨i, j, rfl, k _ H c _ p S (Ex.refl _) (.int _)⟩
theorem cv_abs {i : Int} (p : P c (.int (if i < 0 then -i else i))) : ClV F X Γ c (.builtin "abs") [.int i] P :=
  ClV.of call_abs fun σ H vs Q S dv k => by
    cases dv with
    | cons h1 t => cases t; cases h1; exact ⟨i, rfl, k _ H c _ p S (Ex.refl _) (.int _)⟩
theorem cv_strI {i : Int} (hz : i.natAbs.log2 < 1920) (p : P c (.str (toString i))) : ClV F X Γ c (.type "str") [.int i] P :=
  ClV.of call_str_int fun σ H vs Q S dv k => by
    cases dv with
    | cons h1 t => cases t; cases h1; exact ⟨i, rfl, hz, k _ H c _ p S (Ex.refl _) (.str _)⟩
theorem cv_tuple {d : Dt} {l : List Dt} (hs : seqD d = some l) (p : P c (.tup l)) : ClV F X Γ c (.type "tuple") [d] P :=
  ClV.of call_tuple_of fun σ H vs Q S dv k => by
    cases dv with
    | cons h1 t =>
      cases t
      cases h1 with
      | lst a t => cases hs; exact ⟨_, _, rfl, .inl ⟨.inl (.inl (of_mask a).2), fun q hq => k _ _ c _ p (S.new hq) (Kp.new hq).hid (S.newT hq t)⟩⟩
      | tup a t => cases hs; exact ⟨_, _, rfl, .inr ⟨ex_t (mask_ex _ _) a, k _ H c _ p S (Ex.refl _) (.tup a t)⟩⟩
      | _ => cases hs
theorem cv_list {d : Dt} {l : List Dt} (hs : seqD d = some l) (p : P c (.lst l)) : ClV F X Γ c (.type "list") [d] P :=
  ClV.of call_list_of fun σ H vs Q S dv k => by
    cases dv with
    | cons h1 t =>
      cases t
      cases h1 with
      | lst a t => cases hs; exact ⟨_, _, rfl, .inl (.inl (.inl (of_mask a).2)), fun q hq => k _ _ c _ p (S.new hq) (Kp.new hq).hid (S.newL hq t)⟩
      | tup a t => cases hs; exact ⟨_, _, rfl, .inr (ex_t (mask_ex _ _) a), fun q hq => k _ _ c _ p (S.new hq) (Kp.new hq).hid (S.newL hq t)⟩
      | _ => cases hs
theorem cv_sortedS {l : List Str} (hz : l.length < 64) (p : ∀ ys : List Str, ys.Perm l → PyProof.Rows.sortedS ys = true → P c (.lst (ys.map Dt.str))) : ClV F X Γ c (.builtin "sorted") [.lst (l.map Dt.str)] P :=
  ClV.of cr_sortedS fun σ H vs Q S dv k => by
    cases dv with
    | cons h1 t =>
      cases t
      cases h1 with
      | lst a t =>
        have e := t.of_strs
        subst e
        exact ⟨_, l, rfl, .inl (.inl (of_mask a).2), hz, fun ys q hp hs hq => k _ _ c _ (p ys hp hs) (S.new hq) (Kp.new hq).hid (S.newL hq (DVs.strs ys))⟩
/-! isinstance -/
def tyD : Dt → String
  | .non => "NoneType" | .bl _ => "bool" | .int _ => "int" | .str _ => "str" | .lst _ => "list" | .tup _ => "tuple" | .dct _ => "dict" | .fzl _ => "list" | .exc _ _ _ => "" | .raw _ => ""
def noRaw : Dt → Bool
  | .exc _ _ _ => false
  | .raw _ => false
  | _ => true
theorem dv_ty {K : PySem.W.Frag} {H : Hp} {v : V} {d : Dt} (h : DV K H v d) (nr : noRaw d = true) : TyX K H v (.type (tyD d)) := by
  cases h with
  | non => exact .base .non
  | bl b => exact .base (.bl b)
  | int b => exact .base (.int b)
  | str b => exact .base (.str b)
  | lst h t => exact .base (.lst h)
  | tup h t =>
    rcases h with (h | ⟨o, h⟩) | ⟨o, its, n, h1, h2, _⟩
    · exact .base (.tup h)
    · exact .fTuple h
    · exact .kTuple h1 h2
  | dct h t =>
    rcases h with h | ⟨o, h⟩
    · exact .base (.dK h)
    · exact .fDict h
  | fzl h t =>
    rcases h with (h | ⟨o, h⟩) | ⟨o, its, n, h1, h2, _⟩
    · exact .base (.lst h)
    · exact .base (.frz h)
    · exact .kList h1 h2
  | exc h t => cases nr
  | raw v => cases nr
theorem cv_isi {d : Dt} {T : String} {b : Bool} (nr : noRaw d = true) (hk : kitB (tyD d) T = some b) (p : P c (.bl b)) : ClV F X Γ c (.builtin "isinstance") [d, .raw (.ty T)] P :=
  ClV.of call_isi fun σ H vs Q S dv k => by
    cases dv with
    | cons h1 t => cases t with
      | cons h2 t =>
        cases t
        cases h2
        exact ⟨_, _, _, _, b, rfl, .ty T, dv_ty (h1.mono (mask_ex _ _)) nr, kit_ty hk, k _ H c _ p S (Ex.refl _) (.bl _)⟩
/-- a built-in class by its name -/
theorem se_ty {x : Str} {T : String} (hm : X.mg x = none) (p : P c (.raw (.ty T))) (hv : bootBuiltins x = some (.type T) := by decide +kernel) (hg : Gl X x := by rfl) (hn : x ≠ "__name__" := by decide) (hdb : (x == ("__debug__" : Str)) = false := by decide) : SE F X Γ c (.Name x pos) P :=
  SE.here (pe_bltn (v := .ty T) hg hm hv rfl hn hdb) (fun _ => .raw _) p
def isStrD : Dt → Bool
  | .str _ => true
  | _ => false
def isTupD : Dt → Bool
  | .tup _ => true
  | _ => false
theorem cv_isStr {d : Dt} (nr : noRaw d = true) (p : P c (.bl (isStrD d))) : ClV F X Γ c (.builtin "isinstance") [d, .raw (.ty "str")] P :=
  cv_isi nr (b := isStrD d) (by
    cases d with
    | non => exact (by decide +kernel : kitB "NoneType" "str" = some false)
    | bl _ => exact (by decide +kernel : kitB "bool" "str" = some false)
    | int _ => exact (by decide +kernel : kitB "int" "str" = some false)
    | str _ => exact (by decide +kernel : kitB "str" "str" = some true)
    | lst _ => exact (by decide +kernel : kitB "list" "str" = some false)
    | tup _ => exact (by decide +kernel : kitB "tuple" "str" = some false)
    | dct _ => exact (by decide +kernel : kitB "dict" "str" = some false)
    | fzl _ => exact (by decide +kernel : kitB "list" "str" = some false)
    | exc _ _ _ => cases nr
    | raw _ => cases nr) p
theorem cv_isTup {d : Dt} (nr : noRaw d = true) (p : P c (.bl (isTupD d))) : ClV F X Γ c (.builtin "isinstance") [d, .raw (.ty "tuple")] P :=
  cv_isi nr (b := isTupD d) (by
    cases d with
    | non => exact (by decide +kernel : kitB "NoneType" "tuple" = some false)
    | bl _ => exact (by decide +kernel : kitB "bool" "tuple" = some false)
    | int _ => exact (by decide +kernel : kitB "int" "tuple" = some false)
    | str _ => exact (by decide +kernel : kitB "str" "tuple" = some false)
    | lst _ => exact (by decide +kernel : kitB "list" "tuple" = some false)
    | tup _ => exact (by decide +kernel : kitB "tuple" "tuple" = some true)
    | dct _ => exact (by decide +kernel : kitB "dict" "tuple" = some false)
    | fzl _ => exact (by decide +kernel : kitB "list" "tuple" = some false)
    | exc _ _ _ => cases nr
    | raw _ => cases nr) p
def isIntD : Dt → Bool
  | .int _ => true
  | .bl _ => true
  | _ => false
def isBoolD : Dt → Bool
  | .bl _ => true
  | _ => false
theorem cv_isInt {d : Dt} (nr : noRaw d = true) (p : P c (.bl (isIntD d))) : ClV F X Γ c (.builtin "isinstance") [d, .raw (.ty "int")] P :=
  cv_isi nr (b := isIntD d) (by
    cases d with
    | non => exact (by decide +kernel : kitB "NoneType" "int" = some false)
    | bl _ => exact (by decide +kernel : kitB "bool" "int" = some true)
    | int _ => exact (by decide +kernel : kitB "int" "int" = some true)
    | str _ => exact (by decide +kernel : kitB "str" "int" = some false)
    | lst _ => exact (by decide +kernel : kitB "list" "int" = some false)
    | tup _ => exact (by decide +kernel : kitB "tuple" "int" = some false)
    | dct _ => exact (by decide +kernel : kitB "dict" "int" = some false)
    | fzl _ => exact (by decide +kernel : kitB "list" "int" = some false)
    | exc _ _ _ => cases nr
    | raw _ => cases nr) p
theorem cv_isBool {d : Dt} (nr : noRaw d = true) (p : P c (.bl (isBoolD d))) : ClV F X Γ c (.builtin "isinstance") [d, .raw (.ty "bool")] P :=
  cv_isi nr (b := isBoolD d) (by
    cases d with
    | non => exact (by decide +kernel : kitB "NoneType" "bool" = some false)
    | bl _ => exact (by decide +kernel : kitB "bool" "bool" = some true)
    | int _ => exact (by decide +kernel : kitB "int" "bool" = some false)
    | str _ => exact (by decide +kernel : kitB "str" "bool" = some false)
    | lst _ => exact (by decide +kernel : kitB "list" "bool" = some false)
    | tup _ => exact (by decide +kernel : kitB "tuple" "bool" = some false)
    | dct _ => exact (by decide +kernel : kitB "dict" "bool" = some false)
    | fzl _ => exact (by decide +kernel : kitB "list" "bool" = some false)
    | exc _ _ _ => cases nr
    | raw _ => cases nr) p
/-! methods of texts -/
theorem se_join {o e : Expr} {apos : Pos} (h : SE F X Γ c o fun c1 d => ∃ a, d = .str a ∧ SE F X Γ c1 e fun c2 d2 => ∃ ys : List Str, seqD d2 = some (ys.map Dt.str) ∧ (ys.map (·.length)).sum + ys.length * a.length ≤ 16777216 ∧ P c2 (.str (Txt.join a ys)))
    (hs : starEach [e] X.env = [(false, eval e X.env)] := by rfl) (hb : attributeBase o "join" X.env (eval o X.env) = eval o X.env := by rfl) (hl : (apos.endLine == pos.line) = true := by rfl) : SE F X Γ c (.Call (.Attribute o "join" apos) [e] [] pos) P :=
  SE.of (pe_join pE pE hs hb hl) fun σ H Q S k => by
    refine h σ H _ S fun v H1 c1 d1 p S1 k1 dv1 => ?_
    obtain ⟨a, rfl, p⟩ := p
    cases dv1
    refine ⟨⟨a, rfl⟩, p σ H1 _ S1 fun w H2 c2 d2 p2 S2 k2 dv2 => ?_⟩
    obtain ⟨ys, e, hz, p2⟩ := p2
    obtain ⟨q, xs, rfl, hq, dv⟩ := dv_seq (dv2.mono (mask_ex _ _)) e
    have e2 := dv.of_strs
    subst e2
    exact ⟨a, q, ys, rfl, rfl, hq, hz, k _ H2 c2 _ p2 S2 (k1.trans k2) (.str _)⟩
theorem se_split {o e : Expr} {apos : Pos} (h : SE F X Γ c o fun c1 d => ∃ a, d = .str a ∧ SE F X Γ c1 e fun c2 d2 => ∃ b, d2 = .str b ∧ (b.length == 0) = false ∧ a.length + 2 ≤ sizeLine ∧ P c2 (.lst ((Txt.split a b).map Dt.str)))
    (hs : starEach [e] X.env = [(false, eval e X.env)] := by rfl) (hb : attributeBase o "split" X.env (eval o X.env) = eval o X.env := by rfl) (hl : (apos.endLine == pos.line) = true := by rfl) : SE F X Γ c (.Call (.Attribute o "split" apos) [e] [] pos) P :=
  SE.of (pe_split pE pE hs hb hl) fun σ H Q S k => by
    refine h σ H _ S fun v H1 c1 d1 p S1 k1 dv1 => ?_
    obtain ⟨a, rfl, p⟩ := p
    cases dv1
    refine ⟨⟨a, rfl⟩, p σ H1 _ S1 fun w H2 c2 d2 p2 S2 k2 dv2 => ?_⟩
    obtain ⟨b, rfl, hb, hz, p2⟩ := p2
    cases dv2
    exact ⟨a, b, rfl, rfl, hb, hz, fun q hq => k _ _ c2 _ p2 (S2.new hq) ((k1.trans k2).trans (Kp.new hq).hid) (S2.newL hq (DVs.strs _))⟩
end
end G

set_option Elab.async false
set_option linter.all false
set_option maxRecDepth 100000
namespace G
open PySem L2

/-! ### 7. statements -/
structure PEnds where
  nx : List Sl → Nat → Prop
  rt : List Sl → Nat → Dt → Prop
  bk : List Sl → Nat → Prop := fun _ _ => False
  ct : List Sl → Nat → Prop := fun _ _ => False
  rl : List Sl → Nat → List Dt → Prop := fun _ _ _ => False
structure EO (K : PySem.W.Frag) (F : Fm) (Γ : List Sl) (H : Hp) (Φ : PEnds) (D : Ends) : Prop where
  nx : ∀ Γ' c' σ' H', Φ.nx Γ' c' → SI K F Γ' c' σ' H' → Ex (Vw F Γ H) (Vw F Γ' H') → D.nx σ' H'
  rt : ∀ Γ' c' σ' H' v d, Φ.rt Γ' c' d → SI K F Γ' c' σ' H' → Ex (Vw F Γ H) (Vw F Γ' H') → DV K (Vw F Γ' H') v d → D.rt v H'
  bk : ∀ Γ' c' σ' H', Φ.bk Γ' c' → SI K F Γ' c' σ' H' → Ex (Vw F Γ H) (Vw F Γ' H') → D.bk σ' H'
  ct : ∀ Γ' c' σ' H', Φ.ct Γ' c' → SI K F Γ' c' σ' H' → Ex (Vw F Γ H) (Vw F Γ' H') → D.ct σ' H'
  rl : ∀ Γ' c' σ' H' p xs l, Φ.rl Γ' c' l → SI K F Γ' c' σ' H' → Ex (Vw F Γ H) (Vw F Γ' H') → H' p = none → DVs K (Vw F Γ' H') xs l → D.rt (.ref p) (upd H' p (.lst xs))
theorem EO.ext {K : PySem.W.Frag} {F : Fm} {Γ Γ1 : List Sl} {H H1 : Hp} {Φ : PEnds} {D : Ends} (E : EO K F Γ H Φ D) (e : Ex (Vw F Γ H) (Vw F Γ1 H1)) : EO K F Γ1 H1 Φ D :=
  ⟨fun Γ' c' σ' H' p S k => E.nx Γ' c' σ' H' p S (e.trans k), fun Γ' c' σ' H' v d p S k => E.rt Γ' c' σ' H' v d p S (e.trans k), fun Γ' c' σ' H' p S k => E.bk Γ' c' σ' H' p S (e.trans k), fun Γ' c' σ' H' p S k => E.ct Γ' c' σ' H' p S (e.trans k), fun Γ' c' σ' H' p xs l q S k => E.rl Γ' c' σ' H' p xs l q S (e.trans k)⟩
def SS (F : Fm) (X : Cx) (Γ : List Sl) (c : Nat) (ss : List Stmt) (Φ : PEnds) : Prop := ∀ (σ : L2.St) (H : Hp) (D : Ends), SI X.K F Γ c σ H → EO X.K F Γ H Φ D → tSts X ss D σ H
def S1 (F : Fm) (X : Cx) (Γ : List Sl) (c : Nat) (st : Stmt) (Φ : PEnds) : Prop := ∀ (σ : L2.St) (H : Hp) (D : Ends), SI X.K F Γ c σ H → EO X.K F Γ H Φ D → tSt X st D σ H

/-! slots changed -/
section
variable {K : PySem.W.Frag} {F : Fm} {Γ : List Sl} {c c' : Nat} {σ : L2.St} {H H' : Hp}
theorem addrs_set_free {s : Sl} (hs : s.addr = []) : ∀ {Γ : List Sl} {i : Nat} {a : Addr}, a ∈ addrs (Γ.set i s) → a ∈ addrs Γ
  | [], _, _, h => h
  | u :: Γ, 0, a, h => List.mem_append_right _ (by simpa [addrs, hs] using h)
  | u :: Γ, i + 1, a, h => by
    rcases List.mem_append.mp (show a ∈ u.addr ++ addrs (Γ.set i s) from h) with h | h
    · exact List.mem_append_left _ h
    · exact List.mem_append_right _ (addrs_set_free hs h)
theorem hid_set_free {s : Sl} (hs : s.addr = []) {i : Nat} : ∀ a ∈ hid F (Γ.set i s), a ∈ hid F Γ := fun a h => by
  rcases List.mem_append.mp h with h | h
  · exact List.mem_append_left _ h
  · rcases List.mem_append.mp h with h | h
    · exact List.mem_append_right _ (List.mem_append_left _ (addrs_set_free hs h))
    · exact List.mem_append_right _ (List.mem_append_right _ h)
theorem vw_set_free {s : Sl} (hs : s.addr = []) {i : Nat} : Ex (Vw F Γ H) (Vw F (Γ.set i s) H) := mask_sub (hid_set_free hs)
/-- a slot set to something that is no list of one's own -/
theorem SI.setF (S : SI K F Γ c σ H) {s : Sl} (hs : s.addr = []) {i : Nat} {o : Option V} (hok : SlOk K F (hid F (Γ.set i s)) H (some o) s) : SI K F (Γ.set i s) c (σ.set i o) H := by
  have sub := vw_set_free (F := F) (Γ := Γ) (H := H) hs (i := i)
  refine ⟨by rw [List.length_set, List.length_set]; exact S.len, nodup_set_free hs S.nd, fun b hb z => S.nb b hb (addrs_set_free hs z), fun j u hj => ?_, S.keep, fun a ha => S.fr a (addrs_set_free hs ha), S.live, S.bag, S.wb⟩
  by_cases hij : i = j
  · subst hij
    have hl : i < Γ.length := by
      have := (List.getElem?_eq_some_iff.mp hj).1
      rwa [List.length_set] at this
    rw [List.getElem?_set_self hl] at hj
    cases hj
    rw [List.getElem?_set_self (by rw [S.len]; exact hl)]
    exact hok
  · rw [List.getElem?_set_ne hij] at hj
    rw [List.getElem?_set_ne hij]
    have q := S.sl j u hj
    cases u with
    | un => exact True.intro
    | dat d => obtain ⟨v, h1, h2⟩ := q; exact ⟨v, h1, h2.mono sub⟩
    | own a l => obtain ⟨h1, xs, h2, h3⟩ := q; exact ⟨h1, xs, h2, h3.mono sub⟩
    | bag => exact q
theorem SI.setD (S : SI K F Γ c σ H) {i : Nat} {v : V} {d : Dt} (dv : DV K (Vw F Γ H) v d) : SI K F (Γ.set i (.dat d)) c (σ.set i (some v)) H :=
  S.setF rfl ⟨v, rfl, dv.mono (vw_set_free rfl)⟩
theorem addrs_set_own {a : Addr} {l l' : List Dt} : ∀ {Γ : List Sl} {i : Nat}, Γ[i]? = some (Sl.own a l) → addrs (Γ.set i (.own a l')) = addrs Γ
  | [], i, h => by simp at h
  | s :: Γ, 0, h => by simp at h; subst h; rfl
  | s :: Γ, i + 1, h => by
    show s.addr ++ addrs (Γ.set i (.own a l')) = s.addr ++ addrs Γ
    rw [addrs_set_own (i := i) (by simpa using h)]
theorem hid_set_own {a : Addr} {l l' : List Dt} {i : Nat} (h : Γ[i]? = some (Sl.own a l)) : hid F (Γ.set i (.own a l')) = hid F Γ := by unfold hid; rw [addrs_set_own h]
theorem addrs_once {a : Addr} {l l' : List Dt} : ∀ {Γ : List Sl} {i j : Nat}, (addrs Γ).Nodup → Γ[i]? = some (Sl.own a l) → Γ[j]? = some (Sl.own a l') → i = j
  | [], i, j, _, h, _ => by simp at h
  | s :: Γ, 0, 0, _, _, _ => rfl
  | s :: Γ, 0, j + 1, n, h1, h2 => by
    simp at h1; subst h1
    exact absurd rfl ((List.nodup_append.mp n).2.2 a (by simp [Sl.addr]) a (mem_addrs (i := j) (by simpa using h2)))
  | s :: Γ, i + 1, 0, n, h1, h2 => by
    simp at h2; subst h2
    exact absurd rfl ((List.nodup_append.mp n).2.2 a (by simp [Sl.addr]) a (mem_addrs (i := i) (by simpa using h1)))
  | s :: Γ, i + 1, j + 1, n, h1, h2 => by rw [addrs_once (Γ := Γ) (i := i) (j := j) (List.nodup_append.mp n).2.1 (by simpa using h1) (by simpa using h2)]
/-- one's own list changed -/
theorem SI.setO (S : SI K F Γ c σ H) {i : Nat} {a : Addr} {l l' : List Dt} {xs : List V} (hi : Γ[i]? = some (Sl.own a l)) (dv : DVs K (Vw F Γ H) xs l') : SI K F (Γ.set i (.own a l')) c σ (upd H a (.lst xs)) ∧ Ex (Vw F Γ H) (Vw F (Γ.set i (.own a l')) (upd H a (.lst xs))) := by
  have ha : a ∈ addrs Γ := mem_addrs hi
  have hh : a ∈ hid F Γ := List.mem_append_right _ (List.mem_append_left _ ha)
  have he : hid F (Γ.set i (.own a l')) = hid F Γ := hid_set_own hi
  have sub : Ex (Vw F Γ H) (Vw F (Γ.set i (.own a l')) (upd H a (.lst xs))) := fun b o q => by
    obtain ⟨n, e⟩ := of_mask q
    have hba : b ≠ a := fun z => n (by rw [z]; exact hh)
    show mask (hid F (Γ.set i (.own a l'))) _ b = _
    rw [he, mask_out n, upd_ne hba]
    exact e
  refine ⟨⟨by rw [List.length_set]; exact S.len, by rw [addrs_set_own hi]; exact S.nd, by rw [addrs_set_own hi]; exact S.nb, fun j u hj => ?_, fun b o q => ?_, by rw [addrs_set_own hi]; exact S.fr, fun b hb => ?_, fun b hb => ?_, S.wb⟩, sub⟩
  · have hl : i < Γ.length := (List.getElem?_eq_some_iff.mp hi).1
    by_cases hij : i = j
    · subst hij
      rw [List.getElem?_set_self hl] at hj
      cases hj
      obtain ⟨h1, _⟩ := S.sl i _ hi
      exact ⟨h1, xs, upd_same, dv.mono sub⟩
    · rw [List.getElem?_set_ne hij] at hj
      have q := S.sl j u hj
      cases u with
      | un => exact True.intro
      | dat d => obtain ⟨v, h1, h2⟩ := q; exact ⟨v, h1, h2.mono sub⟩
      | own b m =>
        obtain ⟨h1, ys, h2, h3⟩ := q
        refine ⟨h1, ys, ?_, h3.mono sub⟩
        have hba : b ≠ a := fun z => hij (addrs_once S.nd hi (by rw [z] at hj; exact hj))
        rw [upd_ne hba]
        exact h2
      | bag => exact q
  · obtain ⟨n, h0⟩ := of_mask q
    have h1 := (of_mask (S.keep b o q)).2
    have hba : b ≠ a := fun z => by rw [z, (S.fr a ha).1] at h0; cases h0
    rw [mask_out n, upd_ne hba]
    exact h1
  · have hba : b ≠ a := fun z => (S.fr a ha).2 (by rw [← z]; exact hb)
    rw [upd_ne hba]
    exact S.live b hb
  · obtain ⟨⟨d, s, k, h1, r⟩, h2⟩ := S.bag b hb
    have hba : b ≠ a := fun z => S.nb b hb (by rw [z]; exact ha)
    exact ⟨⟨d, s, k, by rw [upd_ne hba]; exact h1, r⟩, h2⟩
theorem SI.h0 (S : SI K F Γ c σ H) {p : Addr} (h : H p = none) : F.H0 p = none := by
  cases e : F.H0 p with
  | none => rfl
  | some o =>
    have nw : p ∉ F.W := fun z => S.fresh h (hid_b (S.wb p z))
    have q := (of_mask (S.keep p o (by rw [mask_out nw]; exact e))).2
    rw [h] at q; cases q
theorem addrs_set_new {a : Addr} {l : List Dt} : ∀ {Γ : List Sl} {i : Nat} {b : Addr}, b ∈ addrs (Γ.set i (.own a l)) → b = a ∨ b ∈ addrs Γ
  | [], _, _, h => nomatch h
  | s :: Γ, 0, b, h => by
    rcases List.mem_append.mp (show b ∈ (Sl.own a l).addr ++ addrs Γ from h) with h | h
    · exact .inl (by simpa [Sl.addr] using h)
    · exact .inr (List.mem_append_right _ h)
  | s :: Γ, i + 1, b, h => by
    rcases List.mem_append.mp (show b ∈ s.addr ++ addrs (Γ.set i (.own a l)) from h) with h | h
    · exact .inr (List.mem_append_left _ h)
    · rcases addrs_set_new h with h | h
      · exact .inl h
      · exact .inr (List.mem_append_right _ h)
theorem nodup_set_new {a : Addr} {l : List Dt} : ∀ {Γ : List Sl} {i : Nat}, a ∉ addrs Γ → (addrs Γ).Nodup → (addrs (Γ.set i (.own a l))).Nodup
  | [], _, _, h => h
  | s :: Γ, 0, n, h => by
    show ([a] ++ addrs Γ).Nodup
    exact List.nodup_append.mpr ⟨by simp, (List.nodup_append.mp h).2.1, fun x hx y hy e => n (List.mem_append_right _ (by simp at hx; subst hx; subst e; exact hy))⟩
  | s :: Γ, i + 1, n, h => by
    show (s.addr ++ addrs (Γ.set i (.own a l))).Nodup
    have q := List.nodup_append.mp (show (s.addr ++ addrs Γ).Nodup from h)
    refine List.nodup_append.mpr ⟨q.1, nodup_set_new (fun z => n (List.mem_append_right _ z)) q.2.1, fun x hx y hy e => ?_⟩
    rcases addrs_set_new hy with hy | hy
    · exact n (List.mem_append_left _ (by rw [← hy, ← e]; exact hx))
    · exact q.2.2 x hx y hy e
/-- a new list taken as one's own -/
theorem SI.addO (S : SI K F Γ c σ H) {i : Nat} {p : Addr} {l : List Dt} {xs : List V} (h : H p = none) (dv : DVs K (Vw F Γ H) xs l) : SI K F (Γ.set i (.own p l)) c (σ.set i (some (.ref p))) (upd H p (.lst xs)) ∧ Ex (Vw F Γ H) (Vw F (Γ.set i (.own p l)) (upd H p (.lst xs))) := by
  have nh : p ∉ hid F Γ := S.fresh h
  have np : p ∉ addrs Γ := fun z => nh (List.mem_append_right _ (List.mem_append_left _ z))
  have sub : Ex (Vw F Γ H) (Vw F (Γ.set i (.own p l)) (upd H p (.lst xs))) := fun b o q => by
    obtain ⟨n, e⟩ := of_mask q
    have hb : b ≠ p := ne_of_none e h
    show mask (hid F (Γ.set i (.own p l))) _ b = _
    rw [mask_out, upd_ne hb]
    · exact e
    · intro z
      rcases List.mem_append.mp z with z | z
      · exact n (List.mem_append_left _ z)
      · rcases List.mem_append.mp z with z | z
        · rcases addrs_set_new z with z | z
          · exact hb z
          · exact n (List.mem_append_right _ (List.mem_append_left _ z))
        · exact n (List.mem_append_right _ (List.mem_append_right _ z))
  refine ⟨⟨by rw [List.length_set, List.length_set]; exact S.len, nodup_set_new np S.nd, fun b hb z => ?_, fun j u hj => ?_, fun b o q => ?_, fun b hb => ?_, fun b hb => ?_, fun b hb => ?_, S.wb⟩, sub⟩
  · rcases addrs_set_new z with z | z
    · exact nh (z ▸ hid_b hb)
    · exact S.nb b hb z
  · by_cases hij : i = j
    · subst hij
      have hl : i < Γ.length := by
        have := (List.getElem?_eq_some_iff.mp hj).1
        rwa [List.length_set] at this
      rw [List.getElem?_set_self hl] at hj
      cases hj
      rw [List.getElem?_set_self (by rw [S.len]; exact hl)]
      exact ⟨rfl, xs, upd_same, dv.mono sub⟩
    · rw [List.getElem?_set_ne hij] at hj
      rw [List.getElem?_set_ne hij]
      have q := S.sl j u hj
      cases u with
      | un => exact True.intro
      | dat d => obtain ⟨v, h1, h2⟩ := q; exact ⟨v, h1, h2.mono sub⟩
      | own b m =>
        obtain ⟨h1, ys, h2, h3⟩ := q
        exact ⟨h1, ys, by rw [upd_ne (ne_of_none h2 h)]; exact h2, h3.mono sub⟩
      | bag => exact q
  · obtain ⟨n, h0⟩ := of_mask q
    have h1 := (of_mask (S.keep b o q)).2
    rw [mask_out n, upd_ne (ne_of_none h1 h)]
    exact h1
  · rcases addrs_set_new hb with z | z
    · rw [z]
      exact ⟨S.h0 h, fun q => nh (List.mem_append_right _ (List.mem_append_right _ q))⟩
    · exact S.fr b z
  · obtain ⟨o, q⟩ := S.live b hb
    exact ⟨o, by rw [upd_ne (ne_of_none q h)]; exact q⟩
  · obtain ⟨⟨d, s, k, h1, r⟩, h2⟩ := S.bag b hb
    exact ⟨⟨d, s, k, by rw [upd_ne (ne_of_none h1 h)]; exact h1, r⟩, h2⟩
/-- one's own list is let go: a datum from now on -/
theorem SI.freeze (S : SI K F Γ c σ H) {i : Nat} {a : Addr} {l : List Dt} (hi : Γ[i]? = some (Sl.own a l)) : SI K F (Γ.set i (.dat (.lst l))) c σ H := by
  obtain ⟨h1, xs, h2, h3⟩ := S.sl i _ hi
  have hl : i < Γ.length := (List.getElem?_eq_some_iff.mp hi).1
  have e : σ.set i (some (.ref a)) = σ := by
    refine List.ext_getElem? fun j => ?_
    by_cases hij : i = j
    · subst hij
      rw [List.getElem?_set_self (by rw [S.len]; exact hl), h1]
    · rw [List.getElem?_set_ne hij]
  have q := S.setF (s := .dat (.lst l)) rfl (i := i) (o := some (.ref a)) ⟨.ref a, rfl, .lst ?_ (h3.mono (vw_set_free rfl))⟩
  · rw [e] at q
    exact q
  · have na : a ∉ hid F (Γ.set i (.dat (.lst l))) := fun z => by
      rcases List.mem_append.mp z with z | z
      · exact S.nb a z (mem_addrs hi)
      · rcases List.mem_append.mp z with z | z
        · obtain ⟨j, m, hj⟩ := addrs_mem z
          by_cases hij : i = j
          · subst hij
            rw [List.getElem?_set_self hl] at hj
            cases hj
          · rw [List.getElem?_set_ne hij] at hj
            exact hij (addrs_once S.nd hi hj)
        · exact (S.fr a (mem_addrs hi)).2 z
    rw [mask_out na]
    exact h2
end
end G

set_option Elab.async false
set_option linter.all false
set_option maxRecDepth 100000
namespace G
open PySem L2
section
variable {F : Fm} {X : Cx} {Γ : List Sl} {c : Nat} {Φ : PEnds} {pos : Pos}
theorem ss_nil (p : Φ.nx Γ c) : SS F X Γ c [] Φ := fun σ H D S E => tSts_of pss_nil (E.nx Γ c σ H p S (Ex.refl _))
theorem ss_cons {s : Stmt} {rest : List Stmt} (h : S1 F X Γ c s { Φ with nx := fun Γ1 c1 => SS F X Γ1 c1 rest Φ }) : SS F X Γ c (s :: rest) Φ := fun σ H D S E =>
  tSts_of (pss_cons pSt pSts) (h σ H { D with nx := tSts X rest D } S ⟨fun Γ1 c1 σ1 H1 q S1 e => q σ1 H1 D S1 (E.ext e), E.rt, E.bk, E.ct, E.rl⟩)
theorem ss_one {s : Stmt} (h : S1 F X Γ c s Φ) : SS F X Γ c [s] Φ := fun σ H D S E => tSts_of (pss_one pSt) (h σ H D S E)
theorem S1.of {s : Stmt} {t : TS} (hp : PS X s t) (h : ∀ (σ : L2.St) (H : Hp) (D : Ends), SI X.K F Γ c σ H → EO X.K F Γ H Φ D → t D σ H) : S1 F X Γ c s Φ := fun σ H D S E => tSt_of hp (h σ H D S E)
theorem s_ret {e : Expr} (h : SE F X Γ c e (Φ.rt Γ)) : S1 F X Γ c (.Return (some e) pos) Φ :=
  S1.of (ps_ret pE) fun σ H D S E => h σ H _ S fun v H' c' d p S' e' dv => E.rt Γ c' σ H' v d p S' e' dv
theorem s_pass (p : Φ.nx Γ c) : S1 F X Γ c (.Pass pos) Φ := S1.of ps_pass fun σ H D S E => E.nx Γ c σ H p S (Ex.refl _)
theorem s_if {t : Expr} {a b : List Stmt} (h : ST F X Γ c t fun c1 k => if k = true then SS F X Γ c1 a Φ else SS F X Γ c1 b Φ) : S1 F X Γ c (.If t a b pos) Φ :=
  S1.of (ps_if pT pSts pSts) fun σ H D S E => h σ H _ S fun k H1 c1 p S1 e => by
    cases k with
    | true => exact (show SS F X Γ c1 a Φ from p) σ H1 D S1 (E.ext e)
    | false => exact (show SS F X Γ c1 b Φ from p) σ H1 D S1 (E.ext e)
theorem s_expr {e : Expr} (h : SE F X Γ c e fun c1 _ => Φ.nx Γ c1) (hs : swapsWith e none pos.line X.env = pure false := by rfl) : S1 F X Γ c (.Expr e pos) Φ :=
  S1.of (ps_expr pE hs) fun σ H D S E => h σ H _ S fun v H' c' d p S' e' dv => E.nx Γ c' σ H' p S' e'
/-! targets -/
def tGt (X : Cx) (tg : Expr) : TG := fun v σ H Q => ∃ g, PG X tg g ∧ g v σ H Q
theorem pGt {tg : Expr} : PG X tg (tGt X tg) := ⟨fun pins s σ H v u Q I r ⟨g, h, q⟩ => h.run pins s σ H v u Q I r q⟩
def tGts (X : Cx) (tgs : List Expr) : TGs := fun vs σ H Q => ∃ g, PGs X tgs g ∧ g vs σ H Q
theorem pGts {tgs : List Expr} : PGs X tgs (tGts X tgs) := ⟨fun pins s σ H v u Q I r ⟨g, h, q⟩ => h.run pins s σ H v u Q I r q⟩
def SG (F : Fm) (X : Cx) (Γ : List Sl) (c : Nat) (tg : Expr) (d : Dt) (N : List Sl → Prop) : Prop :=
  ∀ (σ : L2.St) (H : Hp) (v : V) (Q : L2.St → Hp → Prop), SI X.K F Γ c σ H → DV X.K (Vw F Γ H) v d → (∀ Γ' σ', N Γ' → SI X.K F Γ' c σ' H → Ex (Vw F Γ H) (Vw F Γ' H) → Q σ' H) → tGt X tg v σ H Q
def SGs (F : Fm) (X : Cx) (Γ : List Sl) (c : Nat) (tgs : List Expr) (ds : List Dt) (N : List Sl → Prop) : Prop :=
  ∀ (σ : L2.St) (H : Hp) (vs : List V) (Q : L2.St → Hp → Prop), SI X.K F Γ c σ H → DVs X.K (Vw F Γ H) vs ds → (∀ Γ' σ', N Γ' → SI X.K F Γ' c σ' H → Ex (Vw F Γ H) (Vw F Γ' H) → Q σ' H) → tGts X tgs vs σ H Q
theorem sg_name (i : Nat) {x : Str} {d : Dt} {N : List Sl → Prop} (hN : X.N.Nodup) (p : N (Γ.set i (.dat d))) (hi : X.N[i]? = some x := by rfl) (hx : Loc X.env.scope x := by first | exact Or.inl rfl | exact Or.inr rfl)
    (hf : X.fn x = true ∨ X.env.scope.names.lookup x = some .local := by first | exact .inl rfl | exact .inr rfl) : SG F X Γ c (.Name x pos) d N :=
  fun σ H v Q S dv k => ⟨gName i, pg_name hN hi hx hf, k _ _ p (S.setD dv) (vw_set_free rfl)⟩
theorem sgs_nil {N : List Sl → Prop} (p : N Γ) : SGs F X Γ c [] [] N := fun σ H vs Q S dv k => by cases dv; exact ⟨gNil, pgs_nil, rfl, k Γ σ p S (Ex.refl _)⟩
theorem sgs_cons {t : Expr} {ts : List Expr} {d : Dt} {ds : List Dt} {N : List Sl → Prop} (h : SG F X Γ c t d fun Γ1 => SGs F X Γ1 c ts ds N)
    (hs : (assignEach (t :: ts) X.env).map (·.2) = assign t X.env :: (assignEach ts X.env).map (·.2) := by rfl) : SGs F X Γ c (t :: ts) (d :: ds) N := fun σ H vs Q S dv k => by
  cases dv with
  | cons h1 t1 =>
    refine ⟨gCons (tGt X t) (tGts X ts), pgs_cons pGt pGts hs, _, _, rfl, ?_⟩
    exact h σ H _ _ S h1 fun Γ1 σ1 p S1 e1 => p σ1 H _ Q S1 (t1.mono e1) fun Γ2 σ2 p2 S2 e2 => k Γ2 σ2 p2 S2 (e1.trans e2)
theorem sg_tup {es : List Expr} {kk : Nat} {ds : List Dt} {N : List Sl → Prop} (hc : X.calm = true) (h : SGs F X Γ c es ds N) (hn : (assignEach es X.env).length = ds.length := by rfl) (hst : (assignEach es X.env).findIdx? (·.1) = none := by rfl) : SG F X Γ c (.Tuple es kk pos) (.tup ds) N := fun σ H v Q S dv k => by
  cases dv with
  | tup a t => exact ⟨_, pg_tup (n := ds.length) hc pGts hn hst, _, _, rfl, ex_t (mask_ex _ _) a, t.length, h σ H _ Q S t k⟩
theorem s_asg {tg e : Expr} (h : SE F X Γ c e fun c1 d => SG F X Γ c1 tg d fun Γ' => Φ.nx Γ' c1) (hs : swapsWithSole [tg] e pos.line X.env = pure false := by rfl) (hw : swappedStores [tg] e X.env = pure none := by rfl)
    (h1 : (assignEach [tg] X.env).map (·.2) = [assign tg X.env] := by rfl) : S1 F X Γ c (.Assign [tg] e pos) Φ :=
  S1.of (ps_asg pE pGt hs hw h1) fun σ H D S E => h σ H _ S fun v H' c' d p S' e' dv => p σ H' v _ S' dv fun Γ2 σ2 p2 S2 e2 => E.nx Γ2 c' σ2 H' p2 S2 (e'.trans e2)
theorem s_set (i : Nat) {x : Str} {px : Pos} {e : Expr} (hN : X.N.Nodup) (h : SE F X Γ c e fun c1 d => Φ.nx (Γ.set i (.dat d)) c1) (hi : X.N[i]? = some x := by rfl) (hx : Loc X.env.scope x := by first | exact Or.inl rfl | exact Or.inr rfl)
    (hf : X.fn x = true ∨ X.env.scope.names.lookup x = some .local := by first | exact .inl rfl | exact .inr rfl)
    (hs : swapsWithSole [.Name x px] e pos.line X.env = pure false := by rfl) (hw : swappedStores [.Name x px] e X.env = pure none := by rfl) (h1 : (assignEach [.Name x px] X.env).map (·.2) = [assign (.Name x px) X.env] := by rfl) : S1 F X Γ c (.Assign [.Name x px] e pos) Φ :=
  s_asg (h.mono fun c1 d p => sg_name i hN p hi hx hf) hs hw h1
/-- a, b = e1, e2, both names plain locals -/
theorem s_par (i j : Nat) {x y : Str} {a b : Expr} {px py pt : Pos} {kt k2 pt2} (hc : X.calm = true) (hN : X.N.Nodup) (hij : i ≠ j) (h : SA F X Γ c [a, b] fun c1 ds => ∃ d1 d2, ds = [d1, d2] ∧ Φ.nx ((Γ.set i (.dat d1)).set j (.dat d2)) c1)
    (hi : X.N[i]? = some x := by rfl) (hj : X.N[j]? = some y := by rfl) (hx : X.env.scope.names.lookup x = some .local := by rfl) (hy : X.env.scope.names.lookup y = some .local := by rfl)
    (hw : swappedStores [.Tuple [.Name x px, .Name y py] kt pt] (.Tuple [a, b] k2 pt2) X.env = pure (some [x, y]) := by rfl) (hs : swapsWithSole [.Tuple [.Name x px, .Name y py] kt pt] (.Tuple [a, b] k2 pt2) pos.line X.env = pure false := by rfl) :
    S1 F X Γ c (.Assign [.Tuple [.Name x px, .Name y py] kt pt] (.Tuple [a, b] k2 pt2) pos) Φ :=
  S1.of (ps_par hc hN hi hj hij hx hy pAs hw hs) fun σ H D S E => h σ H _ S fun vs H' c' ds p S' e' dv => by
    obtain ⟨d1, d2, rfl, p⟩ := p
    cases dv with
    | cons h1 t => cases t with
      | cons h2 t =>
        cases t
        exact ⟨_, _, rfl, E.nx _ c' _ H' p ((S'.setD h1).setD (h2.mono (vw_set_free rfl))) ((e'.trans (vw_set_free rfl)).trans (vw_set_free rfl))⟩

/-! ### 8. new lists -/
def SEL (F : Fm) (X : Cx) (Γ : List Sl) (c : Nat) (e : Expr) (P : Nat → List Dt → Prop) : Prop :=
  ∀ (σ : L2.St) (H : Hp) (Q : VK), SI X.K F Γ c σ H → (∀ p xs H1 c' l, P c' l → SI X.K F Γ c' σ H1 → Ex (Vw F Γ H) (Vw F Γ H1) → H1 p = none → DVs X.K (Vw F Γ H1) xs l → Q (.ref p) (upd H1 p (.lst xs))) → tE X e σ H Q
theorem SEL.se {e : Expr} {P : Nat → Dt → Prop} (h : SEL F X Γ c e fun c1 l => P c1 (.lst l)) : SE F X Γ c e P := fun σ H Q S k =>
  h σ H Q S fun p xs H1 c' l q S1 e1 hp dv => k _ _ c' _ q (S1.new hp) (e1.trans (Kp.new hp).hid) (S1.newL hp dv)
theorem sel_lst {es : List Expr} {P : Nat → List Dt → Prop} (h : SA F X Γ c es fun c1 ds => ds.length ≤ sizeLine ∧ P c1 ds) : SEL F X Γ c (.List es pos) P := fun σ H Q S k =>
  tE_of (pe_lst pAs) (h σ H _ S fun vs H1 c1 ds p S1 k1 dv => ⟨by rw [dv.length]; exact p.1, fun q hq => k q vs H1 c1 ds p.2 S1 k1 hq dv⟩)
theorem sel_split {o e : Expr} {apos : Pos} {P : Nat → List Dt → Prop} (h : SE F X Γ c o fun c1 d => ∃ a, d = .str a ∧ SE F X Γ c1 e fun c2 d2 => ∃ b, d2 = .str b ∧ (b.length == 0) = false ∧ a.length + 2 ≤ sizeLine ∧ P c2 ((Txt.split a b).map Dt.str))
    (hs : starEach [e] X.env = [(false, eval e X.env)] := by rfl) (hb : attributeBase o "split" X.env (eval o X.env) = eval o X.env := by rfl) (hl : (apos.endLine == pos.line) = true := by rfl) : SEL F X Γ c (.Call (.Attribute o "split" apos) [e] [] pos) P := fun σ H Q S k => by
  refine tE_of (pe_split pE pE hs hb hl) ?_
  refine h σ H _ S fun v H1 c1 d1 p S1 k1 dv1 => ?_
  obtain ⟨a, rfl, p⟩ := p
  cases dv1
  refine ⟨⟨a, rfl⟩, p σ H1 _ S1 fun w H2 c2 d2 p2 S2 k2 dv2 => ?_⟩
  obtain ⟨b, rfl, hb, hz, p2⟩ := p2
  cases dv2
  exact ⟨a, b, rfl, rfl, hb, hz, fun q hq => k q _ H2 c2 _ p2 S2 (k1.trans k2) hq (DVs.strs _)⟩
theorem sel_cat {a b : Expr} {P : Nat → List Dt → Prop} (h : SE F X Γ c a fun c1 d1 => ∃ l, d1 = .lst l ∧ SE F X Γ c1 b fun c2 d2 => ∃ m, d2 = .lst m ∧ l.length + m.length ≤ sizeLine ∧ P c2 (l ++ m)) : SEL F X Γ c (.BinOp a .Add b pos) P := fun σ H Q S k => by
  refine tE_of (pe_op op_cat pE pE) ?_
  refine h σ H _ S fun v H1 c1 d1 p S1 k1 dv1 => ?_
  obtain ⟨l, rfl, p⟩ := p
  refine p σ H1 _ S1 fun w H2 c2 d2 p2 S2 k2 dv2 => ?_
  obtain ⟨m, rfl, hz, p2⟩ := p2
  cases dv1.mono k2 with
  | lst a1 t1 => cases dv2 with
    | lst a2 t2 => exact ⟨_, _, _, _, rfl, rfl, (of_mask a1).2, (of_mask a2).2, by rw [t1.length, t2.length]; exact hz, fun q hq => k q _ H2 c2 _ p2 S2 (k1.trans k2) hq (t1.append t2)⟩
theorem sel_list {x : Str} {p : Pos} {e : Expr} {P : Nat → List Dt → Prop} (hm : X.mg x = none) (h : SE F X Γ c e fun c1 d => ∃ l, seqD d = some l ∧ P c1 l) (hv : bootBuiltins x = some (.type "list") := by decide +kernel) (hg : Gl X x := by rfl) (hn : x ≠ "__name__" := by decide) (hdb : (x == ("__debug__" : Str)) = false := by decide)
    (he : starEach [e] X.env = (false, eval e X.env) :: starEach [] X.env := by rfl) (hpl : (backTo pos (starEach [] X.env)).any (·.1) = false := by rfl) : SEL F X Γ c (.Call (.Name x p) [e] [] pos) P := fun σ H Q S k => by
  refine tE_of (pe_callTy call_list_of hg hm hv (pa_cons pE pa_nil he) hn hdb he hpl) ?_
  refine h σ H _ S fun v H1 c1 d1 p S1 k1 dv1 => ?_
  obtain ⟨l, hs, p⟩ := p
  cases dv1 with
  | lst a t => cases hs; exact ⟨_, _, rfl, .inl (.inl (.inl (of_mask a).2)), fun q hq => k q _ H1 c1 _ p S1 k1 hq t⟩
  | tup a t => cases hs; exact ⟨_, _, rfl, .inr (ex_t (mask_ex _ _) a), fun q hq => k q _ H1 c1 _ p S1 k1 hq t⟩
  | _ => cases hs
/-- return a new list -/
theorem s_retL {e : Expr} (h : SEL F X Γ c e (Φ.rl Γ)) : S1 F X Γ c (.Return (some e) pos) Φ :=
  S1.of (ps_ret pE) fun σ H D S E => h σ H _ S fun p xs H1 c' l q S' e' hp dv => E.rl Γ c' σ H1 p xs l q S' e' hp dv
/-- x = a new list, from now on one's own -/
theorem s_own (i : Nat) {x : Str} {px : Pos} {e : Expr} (hN : X.N.Nodup) (h : SEL F X Γ c e fun c1 l => ∀ a, Φ.nx (Γ.set i (.own a l)) c1) (hi : X.N[i]? = some x := by rfl) (hx : Loc X.env.scope x := by first | exact Or.inl rfl | exact Or.inr rfl)
    (hf : X.fn x = true ∨ X.env.scope.names.lookup x = some .local := by first | exact .inl rfl | exact .inr rfl)
    (hs : swapsWithSole [.Name x px] e pos.line X.env = pure false := by rfl) (hw : swappedStores [.Name x px] e X.env = pure none := by rfl) (h1 : (assignEach [.Name x px] X.env).map (·.2) = [assign (.Name x px) X.env] := by rfl) : S1 F X Γ c (.Assign [.Name x px] e pos) Φ :=
  S1.of (ps_asg pE (pg_name hN hi hx hf) hs hw h1) fun σ H D S E => h σ H _ S fun p xs H1 c' l q S1 e1 hp dv => by
    obtain ⟨S2, e2⟩ := S1.addO (i := i) hp dv
    exact E.nx _ c' _ _ (q p) S2 (e1.trans e2)
theorem ss_freeze (i : Nat) {a : Addr} {l : List Dt} {ss : List Stmt} (hi : Γ[i]? = some (Sl.own a l)) (h : SS F X (Γ.set i (.dat (.lst l))) c ss Φ) : SS F X Γ c ss Φ := fun σ H D S E =>
  h σ H D (S.freeze hi) (E.ext (vw_set_free rfl))
theorem ss_weak {c' : Nat} {ss : List Stmt} (hc : c ≤ c') (h : SS F X Γ c' ss Φ) : SS F X Γ c ss Φ := fun σ H D S E => h σ H D (S.weak hc) E
/-- xs.append(e), xs one's own -/
theorem s_append (i : Nat) {x : Str} {px : Pos} {a : Addr} {l : List Dt} {e : Expr} {apos cpos : Pos} (hs : Γ[i]? = some (Sl.own a l)) (h : SE F X Γ c e fun c1 d => l.length < sizeLine ∧ Φ.nx (Γ.set i (.own a (l ++ [d]))) c1)
    (hN : X.N[i]? = some x := by rfl) (hv : Vis X.env.scope x := by first | exact Or.inl rfl | exact Or.inr (Or.inl rfl) | exact Or.inr (Or.inr rfl)) (hd : (x == ("__debug__" : Str)) = false := by decide) (hcd : (x == ("__classdict__" : Str)) = false := by decide)
    (hb : attributeBase (.Name x px) "append" X.env (eval (.Name x px) X.env) = eval (.Name x px) X.env := by rfl)
    (hall : (((backTo cpos (starEach [e] X.env)).all (fun x => !x.1)) && ((backToKw cpos (keywordEach [] X.env)).all (fun x => x.1.isSome)) && decide ([e].length + ([] : List Keyword).length + (if ([] : List Keyword).isEmpty = true then 0 else 1) < 30)) = true := by rfl)
    (hline : (apos.endLine == cpos.line) = true := by rfl) (hst : starEach [e] X.env = (false, eval e X.env) :: starEach [] X.env := by rfl) (hpl : (backTo cpos (starEach [] X.env)).any (·.1) = false := by rfl)
    (hsw : swapsWith (.Call (.Attribute (.Name x px) "append" apos) [e] [] cpos) none pos.line X.env = pure false := by rfl) : S1 F X Γ c (.Expr (.Call (.Attribute (.Name x px) "append" apos) [e] [] cpos) pos) Φ :=
  S1.of (ps_expr (pe_bm PySem.F.plainAttrs_list PySem.F.slot_list_append PySem.F.type_list_append mt_append (pe_var hN hv hd hcd) (pa_cons pE pa_nil hst) hb hall hline hst hpl) hsw) fun σ H D S E => by
    obtain ⟨h1, xs, h2, h3⟩ := S.sl i _ hs
    refine ⟨_, h1, Or.inl ⟨rfl, xs, .inl (.inl h2)⟩, ?_⟩
    refine h σ H _ S fun v H' c' d p S' e' dv => ?_
    obtain ⟨_, ys, h4, h5⟩ := S'.sl i _ hs
    obtain ⟨S2, e2⟩ := S'.setO hs (h5.append (.cons dv .nil))
    exact ⟨a, ys, v, rfl, rfl, h4, by rw [h5.length]; exact p.1, E.nx _ c' σ _ p.2 S2 (e'.trans e2)⟩
/-- xs[k] = e, xs one's own -/
theorem s_setO (i : Nat) {x : Str} {px sp : Pos} {a : Addr} {l : List Dt} {ix e : Expr} (hs : Γ[i]? = some (Sl.own a l)) (h : SE F X Γ c e fun c1 d => SE F X Γ c1 ix fun c2 d2 => ∃ (n : Int) (j : Nat), d2 = .int n ∧ ixN l.length n = some j ∧ Φ.nx (Γ.set i (.own a (l.set j d))) c2)
    (hN : X.N[i]? = some x := by rfl) (hv : Vis X.env.scope x := by first | exact Or.inl rfl | exact Or.inr (Or.inl rfl) | exact Or.inr (Or.inr rfl)) (hd : (x == ("__debug__" : Str)) = false := by decide) (hcd : (x == ("__classdict__" : Str)) = false := by decide)
    (hga : ∀ v, assign (.Subscript (.Name x px) ix sp) X.env v = (do
      let ov ← holding [v] (eval (.Name x px) X.env)
      let iv ← holding [v, ov] (eval ix X.env)
      standAt sp
      holding [v, ov, iv] (setItem ov iv v)
      release [v, ov, iv] []) := by intro _; rfl)
    (hsw : swapsWithSole [.Subscript (.Name x px) ix sp] e pos.line X.env = pure false := by rfl) (hw : swappedStores [.Subscript (.Name x px) ix sp] e X.env = pure none := by rfl)
    (h1 : (assignEach [.Subscript (.Name x px) ix sp] X.env).map (·.2) = [assign (.Subscript (.Name x px) ix sp) X.env] := by rfl) : S1 F X Γ c (.Assign [.Subscript (.Name x px) ix sp] e pos) Φ :=
  S1.of (ps_asg pE (pg_sub (pe_var hN hv hd hcd) pE set_list hga) hsw hw h1) fun σ H D S E => h σ H _ S fun v H1 c1 d hi S1 e1 dv => by
    obtain ⟨h1, _⟩ := S1.sl i _ hs
    refine ⟨_, h1, hi σ H1 _ S1 fun w H2 c2 d2 p S2 e2 dv2 => ?_⟩
    obtain ⟨n, j, rfl, hj, p⟩ := p
    cases dv2
    obtain ⟨_, ys, h4, h5⟩ := S2.sl i _ hs
    obtain ⟨S3, e3⟩ := S2.setO hs (h5.set (dv.mono e2) j)
    exact ⟨a, ys, n, j, rfl, rfl, h4, by rw [h5.length]; exact hj, E.nx _ c2 σ _ p S3 ((e1.trans e2).trans e3)⟩
/-- an item of one's own list -/
theorem se_ixO (i : Nat) {x : Str} {px : Pos} {a : Addr} {l : List Dt} {e : Expr} {P : Nat → Dt → Prop} (hs : Γ[i]? = some (Sl.own a l)) (h : SE F X Γ c e fun c1 d1 => ∃ k d, d1 = .int k ∧ atI l k = some d ∧ P c1 d) (hN : X.N[i]? = some x := by rfl)
    (hv : Vis X.env.scope x := by first | exact Or.inl rfl | exact Or.inr (Or.inl rfl) | exact Or.inr (Or.inr rfl)) (hd : (x == ("__debug__" : Str)) = false := by decide) (hcd : (x == ("__classdict__" : Str)) = false := by decide) (hix : PlainIx e := by exact fun _ _ => rfl) : SE F X Γ c (.Subscript (.Name x px) e pos) P :=
  SE.of (pe_ix ix_list (pe_var hN hv hd hcd) pE hix) fun σ H Q S k => by
    obtain ⟨h1, _⟩ := S.sl i _ hs
    refine ⟨_, h1, h σ H _ S fun v H' c' d p S' e' dv => ?_⟩
    obtain ⟨j, d', rfl, ha, p⟩ := p
    cases dv
    obtain ⟨_, ys, h4, h5⟩ := S'.sl i _ hs
    obtain ⟨v, hv, dv⟩ := atI_dvs h5 ha
    exact ⟨a, ys, j, v, rfl, rfl, .inl (.inl h4), hv, k v H' c' d' p S' e' dv⟩
end
end G

set_option Elab.async false
set_option linter.all false
set_option maxRecDepth 100000
namespace G
open PySem L2
/-! ### 9. what is walked -/
def wI (X : Cx) (tg iter : Expr) : TI := fun σ H R => ∃ w, PI X tg iter w ∧ w σ H R
theorem pI {X : Cx} {tg iter : Expr} : PI X tg iter (wI X tg iter) := ⟨fun pins s σ H R I ⟨w, h, q⟩ => h.run pins s σ H R I q⟩
/-- the i-th item: there already, or a pair that is new -/
def Item (K : PySem.W.Frag) (V0 : Hp) (H1 : Hp) (x : V) (H2 : Hp) (d : Dt) : Prop :=
  (H2 = H1 ∧ DV K V0 x d) ∨ ∃ T x1 x2 d1 d2, x = .ref T ∧ H1 T = none ∧ H2 = upd H1 T (.tup [x1, x2]) ∧ d = .tup [d1, d2] ∧ DV K V0 x1 d1 ∧ DV K V0 x2 d2
def Src (K : PySem.W.Frag) (V0 : Hp) (J : It) (ds : List Dt) : Prop :=
  ∃ (G : Hp → Prop) (Y : Nat → Hp → V → Hp → Prop), Walk J ds.length G Y ∧ (∀ H, Ex V0 H → G H) ∧ ∀ i H1 x H2, i < ds.length → Y i H1 x H2 → Ex V0 H1 → ∃ d, ds[i]? = some d ∧ Item K V0 H1 x H2 d
def SW (F : Fm) (X : Cx) (Γ : List Sl) (c : Nat) (tg iter : Expr) (P : Nat → List Dt → Prop) : Prop :=
  ∀ (σ : L2.St) (H : Hp) (R : It → Hp → Prop), SI X.K F Γ c σ H → (∀ J H' c' ds, P c' ds → SI X.K F Γ c' σ H' → Ex (Vw F Γ H) (Vw F Γ H') → Src X.K (Vw F Γ H') J ds → R J H') → wI X tg iter σ H R
/-- the signs of a text -/
def signs (z : Str) : List Dt := z.cps.toList.map fun a => Dt.str ⟨#[a]⟩
def idxs (n : Nat) : List Dt := (List.range n).map fun (i : Nat) => Dt.int (i : Int)
def enumD (l : List Dt) : List Dt := (List.range l.length).map fun (i : Nat) => Dt.tup [.int (i : Int), l.getD i .non]
def zipD (l m : List Dt) : List Dt := (l.zip m).map fun p => Dt.tup [p.1, p.2]
section
variable {F : Fm} {X : Cx} {Γ : List Sl} {c : Nat} {Φ : PEnds} {pos : Pos} {tg : Expr} {P : Nat → List Dt → Prop} {K : PySem.W.Frag}
theorem src_at {V0 : Hp} {J : It} {xs : List V} {l : List Dt} {G : Hp → Prop} (w : Walk J xs.length G (YAt xs)) (hG : ∀ H, Ex V0 H → G H) (t : DVs K V0 xs l) : Src K V0 J l :=
  ⟨G, YAt xs, t.length ▸ w, hG, fun i H1 x H2 hi y _ => by
    obtain ⟨d, h1, h2⟩ := t.getV y.2
    exact ⟨d, h1, .inl ⟨y.1, h2⟩⟩⟩
theorem sw_lst {e : Expr} (h : SE F X Γ c e fun c1 d => ∃ l, d = .lst l ∧ P c1 l) : SW F X Γ c tg e P := fun σ H R S k =>
  ⟨_, pi_list pE, h σ H _ S fun v H1 c1 d p S1 k1 dv => by
    obtain ⟨l, rfl, p⟩ := p
    cases dv with
    | lst a t => exact ⟨_, rfl, ⟨_, .inl (.inl (of_mask a).2)⟩, k _ H1 c1 l p S1 k1 (src_at walk_list (fun H e => .inl (.inl (e _ _ a))) t)⟩⟩
theorem sw_tup {e : Expr} (h : SE F X Γ c e fun c1 d => ∃ l, d = .tup l ∧ P c1 l) : SW F X Γ c tg e P := fun σ H R S k =>
  ⟨_, pi_tup pE, h σ H _ S fun v H1 c1 d p S1 k1 dv => by
    obtain ⟨l, rfl, p⟩ := p
    cases dv with
    | tup a t => exact ⟨_, rfl, ⟨_, ex_t (mask_ex _ _) a⟩, k _ H1 c1 l p S1 k1 (src_at walk_tup (fun H e => ex_t e a) t)⟩⟩
theorem src_str {V0 : Hp} {z : Str} : Src K V0 (Its z) (signs z) := by
  have hl : (signs z).length = z.cps.size := by unfold signs; rw [List.length_map, Array.length_toList]
  refine ⟨_, _, hl.symm ▸ walk_str, fun _ _ => True.intro, fun i H1 x H2 hi y _ => ?_⟩
  obtain ⟨h1, a, h2, rfl⟩ := y
  refine ⟨.str ⟨#[a]⟩, ?_, .inl ⟨h1, .str _⟩⟩
  unfold signs
  rw [List.getElem?_map, Array.getElem?_toList, h2]
  rfl
theorem sw_str {e : Expr} (h : SE F X Γ c e fun c1 d => ∃ z, d = .str z ∧ P c1 (signs z)) : SW F X Γ c tg e P := fun σ H R S k =>
  ⟨_, pi_str pE, h σ H _ S fun v H1 c1 d p S1 k1 dv => by
    obtain ⟨z, rfl, p⟩ := p
    cases dv
    exact ⟨z, rfl, k _ H1 c1 _ p S1 k1 src_str⟩⟩
theorem src_range {V0 : Hp} {n : Nat} : Src K V0 (Itr 0 n) (idxs n) := by
  have hl : (idxs n).length = n := by unfold idxs; rw [List.length_map, List.length_range]
  refine ⟨fun _ => True, YFn fun i => .int (0 + (i : Nat)), by rw [hl]; exact walk_range, fun _ _ => True.intro, fun i H1 x H2 hi y _ => ?_⟩
  obtain ⟨h1, h2⟩ := y
  rw [hl] at hi
  refine ⟨.int (i : Int), ?_, .inl ⟨h1, ?_⟩⟩
  · unfold idxs
    rw [List.getElem?_map, List.getElem?_range hi]
    rfl
  · rw [h2]
    show DV K V0 (V.int (0 + (i : Int))) _
    rw [Int.zero_add]
    exact .int _
theorem sw_range {e : Expr} {p : Pos} (hm : X.mg "range" = none) (h : SE F X Γ c e fun c1 d => ∃ j : Int, d = .int j ∧ -(2 ^ 62) ≤ j ∧ j < 2 ^ 62 ∧ P c1 (idxs j.toNat)) (hg : Gl X "range" := by rfl) (hs : starEach [e] X.env = [(false, eval e X.env)] := by rfl) : SW F X Γ c tg (.Call (.Name "range" p) [e] [] pos) P := fun σ H R S k =>
  ⟨_, pi_range1 hg hm (pa_cons pE pa_nil hs) hs, h σ H _ S fun v H1 c1 d p S1 k1 dv => by
    obtain ⟨j, rfl, a, b, p⟩ := p
    cases dv
    exact ⟨j, rfl, a, b, k _ H1 c1 _ p S1 k1 src_range⟩⟩
theorem src_enum {V0 : Hp} {a : Addr} {xs : List V} {l : List Dt} (h : V0 a = some (.lst xs)) (t : DVs K V0 xs l) : Src K V0 (Ite K a) (enumD l) := by
  have hl : (enumD l).length = xs.length := by unfold enumD; rw [List.length_map, List.length_range, t.length]
  refine ⟨_, _, hl.symm ▸ walk_enum (K := K) (a := a) (xs := xs), fun H e => .inl (.inl (e _ _ h)), fun i H1 x H2 hi y _ => ?_⟩
  obtain ⟨T, x1, x2, h1, h2, h3, h4, h5⟩ := y
  rw [hl] at hi
  obtain ⟨d, h6, h7⟩ := t.getV h5
  cases h4
  refine ⟨.tup [.int (i : Int), d], ?_, .inr ⟨T, _, x2, .int (i : Int), d, h1, h2, h3, rfl, .int _, h7⟩⟩
  unfold enumD
  rw [List.getElem?_map, List.getElem?_range (by rw [← t.length]; exact hi)]
  show some (Dt.tup [.int (i : Int), l.getD i .non]) = _
  rw [List.getD_eq_getElem?_getD, h6]
  rfl
theorem sw_enum {e : Expr} {p : Pos} {elts : List Expr} {kk : Nat} {tpos : Pos} (hm : X.mg "enumerate" = none) (h : SE F X Γ c e fun c1 d => ∃ l, d = .lst l ∧ P c1 (enumD l)) (hg : Gl X "enumerate" := by rfl) (hs : starEach [e] X.env = [(false, eval e X.env)] := by rfl) : SW F X Γ c (.Tuple elts kk tpos) (.Call (.Name "enumerate" p) [e] [] pos) P := fun σ H R S k =>
  ⟨_, pi_enum hg hm (pa_cons pE pa_nil hs) hs, h σ H _ S fun v H1 c1 d p S1 k1 dv => by
    obtain ⟨l, rfl, p⟩ := p
    cases dv with
    | lst a t => exact ⟨_, _, rfl, .inl (.inl (of_mask a).2), k _ H1 c1 _ p S1 k1 (src_enum a t)⟩⟩

/-! ### 10. for -/
theorem Item.dv {F : Fm} {Γ Γ1 : List Sl} {c1 : Nat} {σ : L2.St} {H H1 H2 : Hp} {x : V} {d : Dt} (it : Item K (Vw F Γ H) H1 x H2 d) (S : SI K F Γ1 c1 σ H1) (e : Ex (Vw F Γ H) (Vw F Γ1 H1)) : SI K F Γ1 c1 σ H2 ∧ Ex (Vw F Γ1 H1) (Vw F Γ1 H2) ∧ DV K (Vw F Γ1 H2) x d := by
  rcases it with ⟨rfl, dv⟩ | ⟨T, x1, x2, d1, d2, rfl, hT, rfl, rfl, h1, h2⟩
  · exact ⟨S, Ex.refl _, dv.mono e⟩
  · exact ⟨S.new hT, (Kp.new hT).hid, S.newT hT (.cons (h1.mono e) (.cons (h2.mono e) .nil))⟩
theorem s_for {iter : Expr} {body : List Stmt} (hp : PassesOwn (model X.prog X.w) X.A X.env X.xe) (hc : X.calm = true)
    (h : SW F X Γ c tg iter fun c1 ds => ∃ J : Nat → List Sl → Nat → Prop, J 0 Γ c1 ∧ (∀ i d Γ' c', ds[i]? = some d → J i Γ' c' → SG F X Γ' c' tg d fun Γ2 => SS F X Γ2 c' body { Φ with nx := J (i + 1), ct := J (i + 1), bk := Φ.nx }) ∧ ∀ Γ' c', J ds.length Γ' c' → Φ.nx Γ' c')
    (hs : ∀ x, foldedSetIterable iter X.env x = pure x := by intro _; rfl) : S1 F X Γ c (.For tg iter body [] pos) Φ :=
  S1.of (ps_for hp hc pI pGt pSts hs) fun σ H D S E => h σ H _ S fun It H1 c1 ds p S1 e1 src => by
    obtain ⟨J, j0, turn, done⟩ := p
    obtain ⟨G, Y, w, hG, hY⟩ := src
    refine for_it w (fun i σ' H' => ∃ Γ' c', J i Γ' c' ∧ SI X.K F Γ' c' σ' H' ∧ Ex (Vw F Γ H1) (Vw F Γ' H')) ⟨Γ, c1, j0, S1, Ex.refl _⟩ (fun i σ' H' _ ⟨Γ', c', _, _, e'⟩ => hG H' (e'.trans (mask_ex _ _))) ?_ ?_
    · rintro i x σ' H' H2 hi ⟨Γ', c', j, S', e'⟩ y
      obtain ⟨d, hd, it⟩ := hY i H' x H2 hi y (e'.trans (mask_ex _ _))
      obtain ⟨S2, e2, dv⟩ := it.dv S' e'
      refine turn i d Γ' c' hd j σ' H2 x _ S2 dv fun Γ3 σ3 q S3 e3 => ?_
      have e4 := (e1.trans e').trans (e2.trans e3)
      exact q σ3 H2 _ S3 ⟨fun Γ4 c4 σ4 H4 j4 S4 k4 => ⟨Γ4, c4, j4, S4, (e'.trans (e2.trans e3)).trans k4⟩, fun Γ4 c4 σ4 H4 v4 d4 j4 S4 k4 => E.rt Γ4 c4 σ4 H4 v4 d4 j4 S4 (e4.trans k4), fun Γ4 c4 σ4 H4 j4 S4 k4 => E.nx Γ4 c4 σ4 H4 j4 S4 (e4.trans k4), fun Γ4 c4 σ4 H4 j4 S4 k4 => ⟨Γ4, c4, j4, S4, (e'.trans (e2.trans e3)).trans k4⟩, fun Γ4 c4 σ4 H4 p4 x4 l4 q4 S4 k4 => E.rl Γ4 c4 σ4 H4 p4 x4 l4 q4 S4 (e4.trans k4)⟩
    · rintro σ' H' ⟨Γ', c', j, S', e'⟩
      exact E.nx Γ' c' σ' H' (done Γ' c' j) S' (e1.trans e')
end
end G

set_option Elab.async false
set_option linter.all false
set_option maxRecDepth 100000
namespace G
open PySem L2
/-! ### 11. list comprehensions -/
def FD (F : Fm) (D : Addr) (xs : List V) : Fm := { F with H0 := upd F.H0 D (.lst xs), M := D :: F.M }
def rm (H : Hp) (D : Addr) : Hp := fun a => if a = D then none else H a
theorem rm_ne {H : Hp} {D a : Addr} (h : a ≠ D) : rm H D a = H a := if_neg h
theorem rm_same {H : Hp} {D : Addr} : rm H D D = none := if_pos rfl
theorem upd_rm {H : Hp} {D : Addr} {o : HO} (h : H D = some o) : upd (rm H D) D o = H := by
  funext a
  by_cases e : a = D
  · rw [e, upd_same, h]
  · rw [upd_ne e, rm_ne e]
section
variable {K : PySem.W.Frag} {F : Fm} {Γ : List Sl} {c : Nat} {σ : L2.St} {H : Hp} {D : Addr} {xs ys : List V}
theorem hid_FD : ∀ a, a ∈ hid (FD F D xs) Γ ↔ a = D ∨ a ∈ hid F Γ := fun a => by
  unfold hid FD
  simp only [List.mem_append, List.mem_cons]
  constructor
  · rintro (h | h | h | h)
    · exact .inr (.inl h)
    · exact .inr (.inr (.inl h))
    · exact .inl h
    · exact .inr (.inr (.inr h))
  · rintro (h | h | h | h)
    · exact .inr (.inr (.inl h))
    · exact .inl h
    · exact .inr (.inl h)
    · exact .inr (.inr (.inr h))
theorem vw_FD (a : Addr) : Vw (FD F D xs) Γ H a = if a = D then none else Vw F Γ H a := by
  by_cases e : a = D
  · rw [if_pos e]
    exact mask_in ((hid_FD a).mpr (.inl e))
  · rw [if_neg e]
    by_cases h : a ∈ hid F Γ
    · show mask _ _ _ = mask _ _ _
      rw [mask_in h, mask_in ((hid_FD a).mpr (.inr h))]
    · show mask _ _ _ = mask _ _ _
      rw [mask_out h, mask_out fun z => by rcases (hid_FD a).mp z with z | z; exact e z; exact h z]
theorem vw_FD_upd {o : HO} : Vw (FD F D ys) Γ (upd H D o) = Vw (FD F D xs) Γ H := by
  funext a
  rw [vw_FD, vw_FD]
  by_cases e : a = D
  · rw [if_pos e, if_pos e]
  · rw [if_neg e, if_neg e]
    show mask _ _ _ = mask _ _ _
    unfold mask
    rw [upd_ne e]
theorem vw_FD_xs : Vw (FD F D ys) Γ H = Vw (FD F D xs) Γ H := by
  funext a
  rw [vw_FD, vw_FD]
theorem SI.hide (S : SI K F Γ c σ H) (h : H D = none) : SI K (FD F D []) Γ c σ (upd H D (.lst [])) ∧ Ex (Vw F Γ H) (Vw (FD F D []) Γ (upd H D (.lst []))) := by
  have nh : D ∉ hid F Γ := S.fresh h
  have sub : Ex (Vw F Γ H) (Vw (FD F D []) Γ (upd H D (.lst []))) := fun a o q => by
    obtain ⟨n, e⟩ := of_mask q
    have hb : a ≠ D := ne_of_none e h
    rw [vw_FD, if_neg hb]
    show mask _ _ _ = _
    rw [mask_out n, upd_ne hb]
    exact e
  have h0 : F.H0 D = none := S.h0 h
  refine ⟨⟨S.len, S.nd, S.nb, fun j u hj => ?_, fun b o q => ?_, fun b hb => ?_, fun b hb => ?_, fun b hb => ?_, S.wb⟩, sub⟩
  · have q := S.sl j u hj
    cases u with
    | un => exact True.intro
    | dat d => obtain ⟨v, h1, h2⟩ := q; exact ⟨v, h1, h2.mono sub⟩
    | own b m =>
      obtain ⟨h1, zs, h2, h3⟩ := q
      exact ⟨h1, zs, by rw [upd_ne (ne_of_none h2 h)]; exact h2, h3.mono sub⟩
    | bag => exact q
  · obtain ⟨n, e⟩ := of_mask q
    rw [show (FD F D []).W = F.W from rfl] at n ⊢
    rw [mask_out n]
    by_cases hb : b = D
    · subst hb
      rw [show (FD F b []).H0 = upd F.H0 b (.lst []) from rfl, upd_same] at e
      rw [upd_same]
      exact e
    · rw [show (FD F D []).H0 = upd F.H0 D (.lst []) from rfl, upd_ne hb] at e
      rw [upd_ne hb]
      exact (of_mask (S.keep b o (by rw [mask_out n]; exact e))).2
  · have q := S.fr b hb
    have hbD : b ≠ D := fun z => nh (List.mem_append_right _ (List.mem_append_left _ (by rw [← z]; exact hb)))
    exact ⟨by rw [show (FD F D []).H0 = upd F.H0 D (.lst []) from rfl, upd_ne hbD]; exact q.1, fun z => by rcases List.mem_cons.mp z with z | z; exact hbD z; exact q.2 z⟩
  · rcases List.mem_cons.mp hb with z | z
    · rw [z]; exact ⟨_, upd_same⟩
    · obtain ⟨o, q⟩ := S.live b z
      exact ⟨o, by rw [upd_ne (ne_of_none q h)]; exact q⟩
  · obtain ⟨⟨d, s, k, h1, r⟩, h2⟩ := S.bag b hb
    have hbD : b ≠ D := ne_of_none h1 h
    exact ⟨⟨d, s, k, by rw [upd_ne hbD]; exact h1, r⟩, by
      rcases h2 with h2 | h2
      · exact .inl h2
      · exact .inr (by rw [show (FD F D []).H0 = upd F.H0 D (.lst []) from rfl, upd_ne hbD]; exact h2)⟩
theorem SI.grow (S : SI K (FD F D xs) Γ c σ H) (nb : D ∉ F.b) : SI K (FD F D ys) Γ c σ (upd H D (.lst ys)) := by
  have e1 : Vw (FD F D ys) Γ (upd H D (.lst ys)) = Vw (FD F D xs) Γ H := vw_FD_upd
  have na : ∀ a ∈ addrs Γ, a ≠ D := fun a ha z => (S.fr a ha).2 (by rw [z]; exact List.mem_cons_self ..)
  refine ⟨S.len, S.nd, S.nb, fun j u hj => ?_, fun b o q => ?_, fun b hb => ?_, fun b hb => ?_, fun b hb => ?_, S.wb⟩
  · have q := S.sl j u hj
    cases u with
    | un => exact True.intro
    | dat d => obtain ⟨v, h1, h2⟩ := q; exact ⟨v, h1, h2.mono (fun a o q => (congrFun e1 a).trans q)⟩
    | own b m =>
      obtain ⟨h1, zs, h2, h3⟩ := q
      exact ⟨h1, zs, by rw [upd_ne (na b (mem_addrs hj))]; exact h2, h3.mono (fun a o q => (congrFun e1 a).trans q)⟩
    | bag => exact q
  · obtain ⟨n, e⟩ := of_mask q
    rw [mask_out n]
    by_cases hb : b = D
    · subst hb
      rw [show (FD F b ys).H0 = upd F.H0 b (.lst ys) from rfl, upd_same] at e
      rw [upd_same]
      exact e
    · rw [show (FD F D ys).H0 = upd F.H0 D (.lst ys) from rfl, upd_ne hb] at e
      rw [upd_ne hb]
      exact (of_mask (S.keep b o (by rw [mask_out (show b ∉ (FD F D xs).W from n), show (FD F D xs).H0 = upd F.H0 D (.lst xs) from rfl, upd_ne hb]; exact e))).2
  · have q := S.fr b hb
    exact ⟨by rw [show (FD F D ys).H0 = upd F.H0 D (.lst ys) from rfl, upd_ne (na b hb)]; have := q.1; rwa [show (FD F D xs).H0 = upd F.H0 D (.lst xs) from rfl, upd_ne (na b hb)] at this, q.2⟩
  · by_cases z : b = D
    · rw [z]; exact ⟨_, upd_same⟩
    · obtain ⟨o, q⟩ := S.live b hb
      exact ⟨o, by rw [upd_ne z]; exact q⟩
  · obtain ⟨⟨d, s, k, h1, r⟩, h2⟩ := S.bag b hb
    have hbD : b ≠ D := fun z => nb (by rw [← z]; exact hb)
    exact ⟨⟨d, s, k, by rw [upd_ne hbD]; exact h1, r⟩, by
      rcases h2 with h2 | h2
      · exact .inl h2
      · exact .inr (by rw [show (FD F D ys).H0 = upd F.H0 D (.lst ys) from rfl, upd_ne hbD]; rwa [show (FD F D xs).H0 = upd F.H0 D (.lst xs) from rfl, upd_ne hbD] at h2)⟩
theorem vw_rm : Ex (Vw (FD F D xs) Γ H) (Vw F Γ (rm H D)) := fun a o q => by
  rw [vw_FD] at q
  by_cases e : a = D
  · rw [if_pos e] at q; cases q
  · rw [if_neg e] at q
    obtain ⟨n, q⟩ := of_mask q
    show mask _ _ _ = _
    rw [mask_out n, rm_ne e]
    exact q
theorem SI.unhide (S : SI K (FD F D xs) Γ c σ H) (nb : D ∉ F.b) (h0 : F.H0 D = none) (nM : D ∉ F.M) : SI K F Γ c σ (rm H D) := by
  have na : ∀ a ∈ addrs Γ, a ≠ D := fun a ha z => (S.fr a ha).2 (by rw [z]; exact List.mem_cons_self ..)
  refine ⟨S.len, S.nd, S.nb, fun j u hj => ?_, fun b o q => ?_, fun b hb => ?_, fun b hb => ?_, fun b hb => ?_, S.wb⟩
  · have q := S.sl j u hj
    cases u with
    | un => exact True.intro
    | dat d => obtain ⟨v, h1, h2⟩ := q; exact ⟨v, h1, h2.mono vw_rm⟩
    | own b m =>
      obtain ⟨h1, zs, h2, h3⟩ := q
      exact ⟨h1, zs, by rw [rm_ne (na b (mem_addrs hj))]; exact h2, h3.mono vw_rm⟩
    | bag => exact q
  · obtain ⟨n, e⟩ := of_mask q
    have hb : b ≠ D := fun z => by rw [z, h0] at e; cases e
    rw [mask_out n, rm_ne hb]
    exact (of_mask (S.keep b o (by rw [mask_out (show b ∉ (FD F D xs).W from n), show (FD F D xs).H0 = upd F.H0 D (.lst xs) from rfl, upd_ne hb]; exact e))).2
  · have q := S.fr b hb
    exact ⟨by have := q.1; rwa [show (FD F D xs).H0 = upd F.H0 D (.lst xs) from rfl, upd_ne (na b hb)] at this, fun z => q.2 (List.mem_cons_of_mem _ z)⟩
  · have hbD : b ≠ D := fun z => nM (by rw [← z]; exact hb)
    obtain ⟨o, q⟩ := S.live b (List.mem_cons_of_mem _ hb)
    exact ⟨o, by rw [rm_ne hbD]; exact q⟩
  · obtain ⟨⟨d, s, k, h1, r⟩, h2⟩ := S.bag b hb
    have hbD : b ≠ D := fun z => nb (by rw [← z]; exact hb)
    exact ⟨⟨d, s, k, by rw [rm_ne hbD]; exact h1, r⟩, by
      rcases h2 with h2 | h2
      · exact .inl h2
      · exact .inr (by rwa [show (FD F D xs).H0 = upd F.H0 D (.lst xs) from rfl, upd_ne hbD] at h2)⟩
theorem SI.hD (S : SI K (FD F D xs) Γ c σ H) (nb : D ∉ F.b) : H D = some (.lst xs) := by
  have nw : D ∉ (FD F D xs).W := fun z => nb (S.wb D z)
  exact (of_mask (S.keep D (.lst xs) (by rw [mask_out nw]; exact upd_same))).2
theorem set_back {α : Type} {l : List α} {j : Nat} {s t : α} (h : l[j]? = some s) : (l.set j t).set j s = l := by
  refine List.ext_getElem? fun i => ?_
  rw [List.set_set]
  by_cases hij : j = i
  · subst hij
    rw [List.getElem?_set_self (List.getElem?_eq_some_iff.mp h).1, h]
  · rw [List.getElem?_set_ne hij]
/-- a slot restored -/
theorem SI.back {j : Nat} {s : Sl} {d : Dt} {o : Option V} (S : SI K F (Γ.set j (.dat d)) c (σ.set j o) H) (hl : σ.length = Γ.length) (hj : Γ[j]? = some s) (hs : s.addr = []) (ok : SlOk K F (hid F Γ) H σ[j]? s) : SI K F Γ c σ H := by
  have hjl : j < Γ.length := (List.getElem?_eq_some_iff.mp hj).1
  obtain ⟨o', ho⟩ : ∃ o', σ[j]? = some o' := ⟨_, List.getElem?_eq_getElem (by rw [hl]; exact hjl)⟩
  have e1 : (Γ.set j (.dat d)).set j s = Γ := set_back hj
  have e2 : (σ.set j o).set j o' = σ := set_back ho
  have q := S.setF hs (i := j) (o := o') (by rw [e1, ← ho]; exact ok)
  rw [e1, e2] at q
  exact q
theorem hid_set_same {j : Nat} {s : Sl} {d : Dt} (hj : Γ[j]? = some s) (hs : s.addr = []) : ∀ a, a ∈ hid F (Γ.set j (.dat d)) ↔ a ∈ hid F Γ := fun a => ⟨hid_set_free rfl a, fun h => by
  have e : (Γ.set j (.dat d)).set j s = Γ := set_back hj
  rw [← e] at h
  exact hid_set_free hs a h⟩
theorem vw_set_same {j : Nat} {s : Sl} {d : Dt} (hj : Γ[j]? = some s) (hs : s.addr = []) : Vw F (Γ.set j (.dat d)) H = Vw F Γ H := by
  funext a
  show mask _ _ _ = mask _ _ _
  by_cases h : a ∈ hid F Γ
  · rw [mask_in h, mask_in ((hid_set_same hj hs a).mpr h)]
  · rw [mask_out h, mask_out fun z => h ((hid_set_same hj hs a).mp z)]
theorem Item.dv' {V0 H2 : Hp} {x : V} {d : Dt} (it : Item K V0 H x H2 d) (S : SI K F Γ c σ H) (e : Ex V0 (Vw F Γ H)) : SI K F Γ c σ H2 ∧ Ex (Vw F Γ H) (Vw F Γ H2) ∧ DV K (Vw F Γ H2) x d := by
  rcases it with ⟨rfl, dv⟩ | ⟨T, x1, x2, d1, d2, rfl, hT, rfl, rfl, h1, h2⟩
  · exact ⟨S, Ex.refl _, dv.mono e⟩
  · exact ⟨S.new hT, (Kp.new hT).hid, S.newT hT (.cons (h1.mono e) (.cons (h2.mono e) .nil))⟩
end
def tEb (X : Cx) (scope : Scope) (e : Expr) : TE := fun σ H Q => ∀ (s0 : Shared) (H0 : Hp) (C : Addr) (cl : List (Str × Addr)) (fp : List Addr), tE (X.blk s0 H0 scope (compEnvC scope cl C X.env) fp) e σ H Q
theorem pEb {X : Cx} {scope : Scope} {e : Expr} (s0 : Shared) (H0 : Hp) (C : Addr) (cl : List (Str × Addr)) (fp : List Addr) : PE (X.blk s0 H0 scope (compEnvC scope cl C X.env) fp) e (tEb X scope e) := ⟨fun pins s σ H Q I h => (h s0 H0 C cl fp).run pins s I⟩
def tTb (X : Cx) (scope : Scope) (e : Expr) : TT := fun σ H Q => ∀ (s0 : Shared) (H0 : Hp) (C : Addr) (cl : List (Str × Addr)) (fp : List Addr), tT (X.blk s0 H0 scope (compEnvC scope cl C X.env) fp) e σ H Q
theorem pTb {X : Cx} {scope : Scope} {e : Expr} (s0 : Shared) (H0 : Hp) (C : Addr) (cl : List (Str × Addr)) (fp : List Addr) : PT (X.blk s0 H0 scope (compEnvC scope cl C X.env) fp) e (tTb X scope e) := ⟨fun pins s σ H Q I h => (h s0 H0 C cl fp).run pins s I⟩
section
variable {F : Fm} {X : Cx} {Γ : List Sl} {c : Nat} {Φ : PEnds} {pos : Pos} {P : Nat → List Dt → Prop}
/-- the turns of a comprehension, whatever its text: tt, te the test and the element -/
theorem lc_turns {σ : L2.St} {H1 : Hp} {c1 : Nat} {J : It} {ds : List Dt} {D : Addr} {Q : VK} {j : Nat} {sj : Sl} {tt : TT} {te : TE} (S1 : SI X.K F Γ c1 σ H1) (src : Src X.K (Vw F Γ H1) J ds) (hD : H1 D = none) (hz : ds.length ≤ sizeLine) (hj : Γ[j]? = some sj) (hs : sj.addr = [])
    (Jv : Nat → Nat → List Dt → Prop) (j0 : Jv 0 c1 [])
    (turn : ∀ i d c' acc, ds[i]? = some d → Jv i c' acc → ∀ F', F'.b = F.b → ∀ σ2 H2, SI X.K F' (Γ.set j (.dat d)) c' σ2 H2 → ∀ R : Bool → Hp → Prop,
      (∀ b H3 c2, (if b = true then ∀ R' : VK, (∀ y H4 c3 dy, Jv (i + 1) c3 (acc ++ [dy]) → SI X.K F' (Γ.set j (.dat d)) c3 σ2 H4 → Ex (Vw F' (Γ.set j (.dat d)) H2) (Vw F' (Γ.set j (.dat d)) H4) → DV X.K (Vw F' (Γ.set j (.dat d)) H4) y dy → R' y H4) → te σ2 H3 R' else Jv (i + 1) c2 acc) →
        SI X.K F' (Γ.set j (.dat d)) c2 σ2 H3 → Ex (Vw F' (Γ.set j (.dat d)) H2) (Vw F' (Γ.set j (.dat d)) H3) → R b H3) → tt σ2 H2 R)
    (done : ∀ c' acc xs H', Jv ds.length c' acc → SI X.K F Γ c' σ H' → Ex (Vw F Γ H1) (Vw F Γ H') → H' D = none → DVs X.K (Vw F Γ H') xs acc → Q (.ref D) (upd H' D (.lst xs))) :
    ∃ W : Nat → Nat → Hp → Prop, (∃ m, W 0 m (upd H1 D (.lst []))) ∧ ∀ i m H, W i m H →
      (J.stop i H ∧ Q (.ref D) H) ∨ (J.go i H ∧ ∃ Nx : Hp → Prop, (∀ H', Nx H' → ∃ m', m' < m ∧ W (i + 1) m' H') ∧ ∀ x H', J.yld i H x H' → gName j x (wipe σ [j]) H' fun σ2 H2 => wipe σ2 [j] = wipe σ [j] ∧ tt σ2 H2 fun b H3 =>
        if b = true then te σ2 H3 fun y H4 => ∃ acc, H4 D = some (.lst acc) ∧ acc.length < sizeLine ∧ Nx (upd H4 D (.lst (acc ++ [y]))) else Nx H3) := by
  obtain ⟨G, Y, w, hG, hY⟩ := src
  have nh : D ∉ hid F Γ := S1.fresh hD
  have nb : D ∉ F.b := fun z => nh (hid_b z)
  have nM : D ∉ F.M := fun z => nh (List.mem_append_right _ (List.mem_append_right _ z))
  have h0 := S1.h0 hD
  obtain ⟨Sh, eh⟩ := S1.hide (D := D) hD
  refine lc_it w (fun i H' => ∃ c' acc xs, Jv i c' acc ∧ acc.length ≤ i ∧ SI X.K (FD F D xs) Γ c' σ H' ∧ Ex (Vw F Γ H1) (Vw (FD F D xs) Γ H') ∧ DVs X.K (Vw (FD F D xs) Γ H') xs acc) ⟨c1, [], [], j0, Nat.le_refl _, Sh, eh, .nil⟩
    (fun i H' _ ⟨c', acc, xs, _, _, _, e', _⟩ => hG H' (e'.trans (mask_ex _ _))) ?_ ?_
  · rintro i x H' H2 hi ⟨c', acc, xs, jv, la, S', e', dvs⟩ y
    obtain ⟨d, hd, it⟩ := hY i H' x H2 hi y (e'.trans (mask_ex _ _))
    obtain ⟨S2, e2, dv⟩ := it.dv' S' e'
    have hw1 : wipe σ [j] = σ.set j none := rfl
    show wipe ((wipe σ [j]).set j (some x)) [j] = wipe σ [j] ∧ tt ((wipe σ [j]).set j (some x)) H2 _
    rw [hw1, List.set_set]
    refine ⟨by show (σ.set j (some x)).set j none = σ.set j none; rw [List.set_set], ?_⟩
    have vs : ∀ H, Vw (FD F D xs) (Γ.set j (.dat d)) H = Vw (FD F D xs) Γ H := fun H => vw_set_same hj hs
    -- what stays of the slot j
    have okj : ∀ H3, Ex (Vw (FD F D xs) Γ H') (Vw (FD F D xs) Γ H3) → SlOk X.K (FD F D xs) (hid (FD F D xs) Γ) H3 σ[j]? sj := fun H3 e3 => by
      have q := S'.sl j sj hj
      cases sj with
      | un => exact True.intro
      | dat d0 => obtain ⟨v, h1, h2⟩ := q; exact ⟨v, h1, h2.mono e3⟩
      | own a l => cases hs
      | bag => exact q
    refine turn i d c' acc hd jv (FD F D xs) rfl (σ.set j (some x)) H2 (S2.setD dv) _ fun b H3 c2 hb S3 e3 => ?_
    rw [vs, vs] at e3
    cases b with
    | false =>
      have hb : Jv (i + 1) c2 acc := hb
      show ∃ c' acc xs, _
      exact ⟨c2, acc, xs, hb, Nat.le_succ_of_le la, S3.back S'.len hj hs (okj H3 (e2.trans e3)), e'.trans (e2.trans e3), dvs.mono (e2.trans e3)⟩
    | true =>
      refine (show ∀ R' : VK, _ → te _ _ R' from hb) _ fun y H4 c3 dy jn S4 e4 dvy => ?_
      rw [vs, vs] at e4
      rw [vs] at dvy
      have S5 : SI X.K (FD F D xs) Γ c3 σ H4 := S4.back S'.len hj hs (okj H4 (e2.trans e4))
      refine ⟨xs, S5.hD nb, ?_, c3, acc ++ [dy], xs ++ [y], jn, ?_, S5.grow nb, ?_, ?_⟩
      · rw [dvs.length]
        omega
      · rw [List.length_append]
        exact Nat.succ_le_succ la
      · rw [vw_FD_upd (xs := xs)]
        exact e'.trans (e2.trans e4)
      · rw [vw_FD_upd (xs := xs)]
        exact (dvs.mono (e2.trans e4)).append (.cons dvy .nil)
  · rintro H' ⟨c', acc, xs, jv, la, S', e', dvs⟩
    have q := done c' acc xs (rm H' D) jv (S'.unhide nb h0 nM) (e'.trans vw_rm) rm_same (dvs.mono vw_rm)
    rw [upd_rm (S'.hD nb)] at q
    exact q
def SELt (F : Fm) (X : Cx) (Γ : List Sl) (c : Nat) (t : TE) (P : Nat → List Dt → Prop) : Prop :=
  ∀ (σ : L2.St) (H : Hp) (Q : VK), SI X.K F Γ c σ H → (∀ p xs H1 c' l, P c' l → SI X.K F Γ c' σ H1 → Ex (Vw F Γ H) (Vw F Γ H1) → H1 p = none → DVs X.K (Vw F Γ H1) xs l → Q (.ref p) (upd H1 p (.lst xs))) → t σ H Q
theorem s_setT {st : Stmt} {t : TE} (i : Nat) (hp : PS X st (tAsg t (gName i))) (h : SELt F X Γ c t fun c1 l => Φ.nx (Γ.set i (.dat (.lst l))) c1) : S1 F X Γ c st Φ :=
  S1.of hp fun σ H D S E => h σ H _ S fun p xs H1 c' l q S1 e1 hp dv => E.nx _ c' _ _ q ((S1.new hp).setD (S1.newL hp dv)) ((e1.trans (Kp.new hp).hid).trans (vw_set_free rfl))
theorem s_ownT {st : Stmt} {t : TE} (i : Nat) (hp : PS X st (tAsg t (gName i))) (h : SELt F X Γ c t fun c1 l => ∀ a, Φ.nx (Γ.set i (.own a l)) c1) : S1 F X Γ c st Φ :=
  S1.of hp fun σ H D S E => h σ H _ S fun p xs H1 c' l q S1 e1 hp dv => by
    obtain ⟨S2, e2⟩ := S1.addO (i := i) hp dv
    exact E.nx _ c' _ _ (q p) S2 (e1.trans e2)
/-- [elt for x in iter] -/
theorem lct_lc {elt iter : Expr} {x : Str} {px : Pos} {scope : Scope} (j : Nat) {sj : Sl} (hj : Γ[j]? = some sj) (hs : sj.addr = [])
    (h : SW F X Γ c (.Name x px) iter fun c1 ds => ds.length ≤ sizeLine ∧ ∃ Jv : Nat → Nat → List Dt → Prop, Jv 0 c1 [] ∧
      (∀ i d c' acc, ds[i]? = some d → Jv i c' acc → ∀ F' s0 H0 C cl fp, F'.b = F.b → SE F' (X.blk s0 H0 scope (compEnvC scope cl C X.env) fp) (Γ.set j (.dat d)) c' elt fun c2 y => Jv (i + 1) c2 (acc ++ [y])) ∧ ∀ c' acc, Jv ds.length c' acc → P c' acc) : SELt F X Γ c (tLc (wI X (.Name x px) iter) (gName j) tYes (tEb X scope elt) [j]) P := fun σ H Q S k => by
  refine h σ H _ S fun J H1 c1 ds p S1 e1 src D hD => ?_
  obtain ⟨hz, Jv, j0, turn, done⟩ := p
  refine lc_turns (tt := tYes) (te := tEb X scope elt) S1 src hD hz hj hs Jv j0 (fun i d c' acc hd jv F' hF σ2 H2 S2 R kk => ?_) fun c' acc xs H' jv S' e' hn dv => k D xs H' c' acc (done c' acc jv) S' (e1.trans e') hn dv
  refine kk true H2 c' ?_ S2 (Ex.refl _)
  exact fun R' k' s0 H0 C cl fp => turn i d c' acc hd jv F' s0 H0 C cl fp hF σ2 H2 R' S2 fun y H4 c3 dy jn S4 e4 dvy => k' y H4 c3 dy jn S4 e4 dvy
theorem sel_lc {elt iter : Expr} {x : Str} {px : Pos} {scope : Scope} (j : Nat) {sj : Sl} (hc : X.calm = true) (hN : X.N.Nodup) (ok : BlkOk X.N X.env.scope scope [(x, j)]) (hj : Γ[j]? = some sj) (hs : sj.addr = [])
    (h : SW F X Γ c (.Name x px) iter fun c1 ds => ds.length ≤ sizeLine ∧ ∃ Jv : Nat → Nat → List Dt → Prop, Jv 0 c1 [] ∧
      (∀ i d c' acc, ds[i]? = some d → Jv i c' acc → ∀ F' s0 H0 C cl fp, F'.b = F.b → SE F' (X.blk s0 H0 scope (compEnvC scope cl C X.env) fp) (Γ.set j (.dat d)) c' elt fun c2 y => Jv (i + 1) c2 (acc ++ [y])) ∧ ∀ c' acc, Jv ds.length c' acc → P c' acc) (hxj : X.N[j]? = some x := by rfl) (hx : ∀ (s0 : Shared) (H0 : Hp) (C : Addr) (cl : List (Str × Addr)) (fp : List Addr), Loc (X.blk s0 H0 scope (compEnvC scope cl C X.env) fp).env.scope x ∧ ((X.blk s0 H0 scope (compEnvC scope cl C X.env) fp).fn x = true ∨ (X.blk s0 H0 scope (compEnvC scope cl C X.env) fp).env.scope.names.lookup x = some .local) := by intro _ _ _ _ _; first | exact ⟨.inl rfl, .inr rfl⟩ | exact ⟨.inr rfl, .inl rfl⟩) (hfs : ∀ x, foldedSetIterable iter X.env x = pure x := by intro _; rfl) : SEL F X Γ c (.ListComp elt [⟨.Name x px, iter, [], 0⟩] scope pos) P := fun σ H Q S k =>
  tE_of (pe_lc (own := [(x, j)]) (g := gName j) hc hN pI ok (fun s0 H0 C cl fp => pg_name hN hxj (hx s0 H0 C cl fp).1 (hx s0 H0 C cl fp).2) (fun _ _ _ _ _ => pts_nil) (fun s0 H0 C cl fp => pEb s0 H0 C cl fp) hfs) (lct_lc j hj hs h σ H Q S k)
theorem ps_lc {elt iter : Expr} {x y : Str} {px py spos : Pos} {scope : Scope} (i j : Nat) (hc : X.calm = true) (hN : X.N.Nodup) (ok : BlkOk X.N X.env.scope scope [(x, j)]) (hsw : swapsWith (.ListComp elt [⟨.Name x px, iter, [], 0⟩] scope pos) (some (.Name y py)) spos.line X.env = pure true := by exact sw_true rfl rfl rfl (by decide +kernel)) (hy : X.N[i]? = some y := by rfl) (hyl : X.env.scope.names.lookup y = some .local := by rfl) (hxj : X.N[j]? = some x := by rfl) (hx : ∀ (s0 : Shared) (H0 : Hp) (C : Addr) (cl : List (Str × Addr)) (fp : List Addr), Loc (X.blk s0 H0 scope (compEnvC scope cl C X.env) fp).env.scope x ∧ ((X.blk s0 H0 scope (compEnvC scope cl C X.env) fp).fn x = true ∨ (X.blk s0 H0 scope (compEnvC scope cl C X.env) fp).env.scope.names.lookup x = some .local) := by intro _ _ _ _ _; first | exact ⟨.inl rfl, .inr rfl⟩ | exact ⟨.inr rfl, .inl rfl⟩) (hfs : ∀ x, foldedSetIterable iter X.env x = pure x := by intro _; rfl) :
    PS X (.Assign [.Name y py] (.ListComp elt [⟨.Name x px, iter, [], 0⟩] scope pos) spos) (tAsg (tLc (wI X (.Name x px) iter) (gName j) tYes (tEb X scope elt) [j]) (gName i)) :=
  ps_setLc (own := [(x, j)]) (g := gName j) hc hN hy hyl hsw pI ok (fun s0 H0 C cl fp => pg_name hN hxj (hx s0 H0 C cl fp).1 (hx s0 H0 C cl fp).2) (fun _ _ _ _ _ => pts_nil) (fun s0 H0 C cl fp => pEb s0 H0 C cl fp) hfs
/-- [elt for x in iter if t] -/
theorem lct_lcIf {elt iter t : Expr} {x : Str} {px : Pos} {scope : Scope} (j : Nat) {sj : Sl} (hj : Γ[j]? = some sj) (hs : sj.addr = [])
    (h : SW F X Γ c (.Name x px) iter fun c1 ds => ds.length ≤ sizeLine ∧ ∃ Jv : Nat → Nat → List Dt → Prop, Jv 0 c1 [] ∧
      (∀ i d c' acc, ds[i]? = some d → Jv i c' acc → ∀ F' s0 H0 C cl fp, F'.b = F.b → ST F' (X.blk s0 H0 scope (compEnvC scope cl C X.env) fp) (Γ.set j (.dat d)) c' t fun c2 b =>
        if b = true then ∀ s0 H0 C cl fp, SE F' (X.blk s0 H0 scope (compEnvC scope cl C X.env) fp) (Γ.set j (.dat d)) c2 elt fun c3 y => Jv (i + 1) c3 (acc ++ [y]) else Jv (i + 1) c2 acc) ∧ ∀ c' acc, Jv ds.length c' acc → P c' acc) : SELt F X Γ c (tLc (wI X (.Name x px) iter) (gName j) (tTb X scope t) (tEb X scope elt) [j]) P := fun σ H Q S k => by
  refine h σ H _ S fun J H1 c1 ds p S1 e1 src D hD => ?_
  obtain ⟨hz, Jv, j0, turn, done⟩ := p
  refine lc_turns (tt := tTb X scope t) (te := tEb X scope elt) S1 src hD hz hj hs Jv j0 (fun i d c' acc hd jv F' hF σ2 H2 S2 R kk s0 H0 C cl fp => ?_) fun c' acc xs H' jv S' e' hn dv => k D xs H' c' acc (done c' acc jv) S' (e1.trans e') hn dv
  refine turn i d c' acc hd jv F' s0 H0 C cl fp hF σ2 H2 R S2 fun b H3 c2 hb S3 e3 => kk b H3 c2 ?_ S3 e3
  cases b with
  | false => exact hb
  | true => exact fun R' k' s0 H0 C cl fp => (show ∀ s0 H0 C cl fp, SE _ _ _ _ _ _ from hb) s0 H0 C cl fp σ2 H3 R' S3 fun y H4 c3 dy jn S4 e4 dvy => k' y H4 c3 dy jn S4 (e3.trans e4) dvy
theorem sel_lcIf {elt iter t : Expr} {x : Str} {px : Pos} {scope : Scope} (j : Nat) {sj : Sl} (hc : X.calm = true) (hN : X.N.Nodup) (ok : BlkOk X.N X.env.scope scope [(x, j)]) (hj : Γ[j]? = some sj) (hs : sj.addr = [])
    (h : SW F X Γ c (.Name x px) iter fun c1 ds => ds.length ≤ sizeLine ∧ ∃ Jv : Nat → Nat → List Dt → Prop, Jv 0 c1 [] ∧
      (∀ i d c' acc, ds[i]? = some d → Jv i c' acc → ∀ F' s0 H0 C cl fp, F'.b = F.b → ST F' (X.blk s0 H0 scope (compEnvC scope cl C X.env) fp) (Γ.set j (.dat d)) c' t fun c2 b =>
        if b = true then ∀ s0 H0 C cl fp, SE F' (X.blk s0 H0 scope (compEnvC scope cl C X.env) fp) (Γ.set j (.dat d)) c2 elt fun c3 y => Jv (i + 1) c3 (acc ++ [y]) else Jv (i + 1) c2 acc) ∧ ∀ c' acc, Jv ds.length c' acc → P c' acc) (hxj : X.N[j]? = some x := by rfl) (hx : ∀ (s0 : Shared) (H0 : Hp) (C : Addr) (cl : List (Str × Addr)) (fp : List Addr), Loc (X.blk s0 H0 scope (compEnvC scope cl C X.env) fp).env.scope x ∧ ((X.blk s0 H0 scope (compEnvC scope cl C X.env) fp).fn x = true ∨ (X.blk s0 H0 scope (compEnvC scope cl C X.env) fp).env.scope.names.lookup x = some .local) := by intro _ _ _ _ _; first | exact ⟨.inl rfl, .inr rfl⟩ | exact ⟨.inr rfl, .inl rfl⟩) (hfs : ∀ x, foldedSetIterable iter X.env x = pure x := by intro _; rfl) : SEL F X Γ c (.ListComp elt [⟨.Name x px, iter, [t], 0⟩] scope pos) P := fun σ H Q S k =>
  tE_of (pe_lc (own := [(x, j)]) (g := gName j) (tt := tTb X scope t) hc hN pI ok (fun s0 H0 C cl fp => pg_name hN hxj (hx s0 H0 C cl fp).1 (hx s0 H0 C cl fp).2) (fun s0 H0 C cl fp => pts_one (pTb s0 H0 C cl fp)) (fun s0 H0 C cl fp => pEb s0 H0 C cl fp) hfs) (lct_lcIf j hj hs h σ H Q S k)
theorem ps_lcIf {elt iter t : Expr} {x y : Str} {px py spos : Pos} {scope : Scope} (i j : Nat) (hc : X.calm = true) (hN : X.N.Nodup) (ok : BlkOk X.N X.env.scope scope [(x, j)]) (hsw : swapsWith (.ListComp elt [⟨.Name x px, iter, [t], 0⟩] scope pos) (some (.Name y py)) spos.line X.env = pure true := by exact sw_true rfl rfl rfl (by decide +kernel)) (hy : X.N[i]? = some y := by rfl) (hyl : X.env.scope.names.lookup y = some .local := by rfl) (hxj : X.N[j]? = some x := by rfl) (hx : ∀ (s0 : Shared) (H0 : Hp) (C : Addr) (cl : List (Str × Addr)) (fp : List Addr), Loc (X.blk s0 H0 scope (compEnvC scope cl C X.env) fp).env.scope x ∧ ((X.blk s0 H0 scope (compEnvC scope cl C X.env) fp).fn x = true ∨ (X.blk s0 H0 scope (compEnvC scope cl C X.env) fp).env.scope.names.lookup x = some .local) := by intro _ _ _ _ _; first | exact ⟨.inl rfl, .inr rfl⟩ | exact ⟨.inr rfl, .inl rfl⟩) (hfs : ∀ x, foldedSetIterable iter X.env x = pure x := by intro _; rfl) :
    PS X (.Assign [.Name y py] (.ListComp elt [⟨.Name x px, iter, [t], 0⟩] scope pos) spos) (tAsg (tLc (wI X (.Name x px) iter) (gName j) (tTb X scope t) (tEb X scope elt) [j]) (gName i)) :=
  ps_setLc (own := [(x, j)]) (g := gName j) (tt := tTb X scope t) hc hN hy hyl hsw pI ok (fun s0 H0 C cl fp => pg_name hN hxj (hx s0 H0 C cl fp).1 (hx s0 H0 C cl fp).2) (fun s0 H0 C cl fp => pts_one (pTb s0 H0 C cl fp)) (fun s0 H0 C cl fp => pEb s0 H0 C cl fp) hfs
end
end G

set_option Elab.async false
set_option linter.all false
set_option maxRecDepth 100000
namespace G
open PySem L2 PyProof.Rows
/-! ### 12. defs -/
/-- a def that changes nothing -/
def spP (K : PySem.W.Frag) {α : Type} (args : α → List Dt) (pre : α → Prop) (post : α → Dt → Prop) : Sp := fun vs H Q _ =>
  ∃ (M : List Addr) (a : α), (∀ x ∈ M, ∃ o, H x = some o) ∧ DVs K (mask M H) vs (args a) ∧ pre a ∧ ∀ v H' d, post a d → Ex H H' → DV K (mask M H') v d → Q v H'
def LIM : Nat := 1000000000
/-- a def whose first argument is the bag -/
def spB (K : PySem.W.Frag) {α : Type} (args : α → List Dt) (pre : α → Prop) (cost : α → Nat) (post : α → Dt → Prop) : Sp := fun vs H Q _ =>
  ∃ (M : List Addr) (b : Addr) (c : Nat) (a : α) (ws : List V), vs = .ref b :: ws ∧ b ∈ M ∧ (∀ x ∈ M, ∃ o, H x = some o) ∧ BagAt H b c ∧ c + cost a ≤ LIM ∧ DVs K (mask M H) ws (args a) ∧ pre a ∧
    ∀ v H' d, post a d → Ex (mask [b] H) (mask [b] H') → BagAt H' b (c + cost a) → DV K (mask M H') v d → Q v H'
section
variable {F : Fm} {X : Cx} {Γ : List Sl} {c : Nat} {P : Nat → Dt → Prop} {pos : Pos}
theorem SI.hlive {K : PySem.W.Frag} {σ : L2.St} {H : Hp} (S : SI K F Γ c σ H) : ∀ x ∈ hid F Γ, ∃ o, H x = some o := fun x hx => by
  cases e : H x with
  | none => exact absurd hx (S.fresh e)
  | some o => exact ⟨o, rfl⟩
theorem se_callP {α : Type} {args : α → List Dt} {pre : α → Prop} {post : α → Dt → Prop} {CX : CXT} {k : Nat} {f : Addr} {fd : FuncData} {ps : List Str} {E : XK} {x : Str} {p : Pos} {e : Expr} {es : List Expr}
    (Gf : FnOk X.prog X.w X.K X.mg X.base CX k f fd ps (spP X.K args pre post)) (hr : Room k X.A) (hm : X.mg x = some (.ref f)) (hk : PySem.W.keepIn X.K (.ref f) = true) (hb : Binds X.K fd ps []) (hx : Passes CX X E)
    (h : SA F X Γ c (e :: es) fun c1 ds => ∃ a, ds = args a ∧ pre a ∧ ∀ d, post a d → P c1 d) (hg : Gl X x := by rfl) (hdb : (x == ("__debug__" : Str)) = false := by decide)
    (he : starEach (e :: es) X.env = (false, eval e X.env) :: starEach es X.env := by rfl) (hpl : (backTo pos (starEach es X.env)).any (·.1) = false := by rfl) : SE F X Γ c (.Call (.Name x p) (e :: es) [] pos) P :=
  SE.of (pe_call Gf hr hg hm hk hb .nil hx pAs hdb he hpl) fun σ H Q S k => h σ H _ S fun vs H1 c1 ds p S1 k1 dv => by
    obtain ⟨a, rfl, hp, p⟩ := p
    rw [List.append_nil]
    refine ⟨hid F Γ, a, S1.hlive, dv, hp, fun v H' d hd e' dv' => ?_⟩
    have kp : Kp F H1 H' := mask_more (M := []) (fun _ z => nomatch z) (by rw [mask_nil, mask_nil]; exact e')
    refine k v H' c1 d (p d hd) (S1.step kp fun b hb => ?_) (k1.trans kp.hid) dv'
    obtain ⟨dd, s, kk, h1, r⟩ := S1.bagAt b hb
    exact ⟨dd, s, kk, e' _ _ h1, r⟩
theorem se_callB1 {α : Type} {args : α → List Dt} {pre : α → Prop} {cost : α → Nat} {post : α → Dt → Prop} {CX : CXT} {k : Nat} {f : Addr} {fd : FuncData} {ps : List Str} {E : XK} {x y : Str} {p p0 : Pos} {es : List Expr} (i : Nat)
    (Gf : FnOk X.prog X.w X.K X.mg X.base CX k f fd ps (spB X.K args pre cost post)) (hr : Room k X.A) (hm : X.mg x = some (.ref f)) (hk : PySem.W.keepIn X.K (.ref f) = true) (hb : Binds X.K fd ps []) (hx : Passes CX X E) (hs : Γ[i]? = some .bag)
    (h : SA F X Γ c es fun c1 ds => ∃ a, ds = args a ∧ pre a ∧ c1 + cost a ≤ LIM ∧ ∀ d, post a d → P (c1 + cost a) d) (hN : X.N[i]? = some y := by rfl) (hv : Vis X.env.scope y := by first | exact Or.inl rfl | exact Or.inr (Or.inl rfl) | exact Or.inr (Or.inr rfl))
    (hd : (y == ("__debug__" : Str)) = false := by decide) (hcd : (y == ("__classdict__" : Str)) = false := by decide) (hg : Gl X x := by rfl) (hdb : (x == ("__debug__" : Str)) = false := by decide)
    (he : starEach (.Name y p0 :: es) X.env = (false, eval (.Name y p0) X.env) :: starEach es X.env := by rfl) (hpl : (backTo pos (starEach es X.env)).any (·.1) = false := by rfl) : SE F X Γ c (.Call (.Name x p) (.Name y p0 :: es) [] pos) P :=
  SE.of (pe_call Gf hr hg hm hk hb .nil hx (pa_cons (pe_var hN hv hd hcd) pAs he) hdb he hpl) fun σ H Q S k => by
    obtain ⟨b, hb1, hb2⟩ := S.sl i _ hs
    refine ⟨_, hb2, h σ H _ S fun vs H1 c1 ds p S1 k1 dv => ?_⟩
    obtain ⟨a, rfl, hp, hc, p⟩ := p
    have hbb : b ∈ F.b := by rw [hb1]; exact List.mem_cons_self ..
    show spB X.K args pre cost post ((V.ref b :: vs) ++ []) H1 Q E
    rw [List.append_nil]
    refine ⟨hid F Γ, b, c1, a, vs, rfl, hid_b hbb, S1.hlive, S1.bagAt b hbb, hc, dv, hp, fun v H' d hd e' hbag dv' => ?_⟩
    have kp : Kp F H1 H' := by unfold Kp; rw [hb1]; exact e'
    refine k v H' _ d (p d hd) (S1.step kp fun b' hb' => ?_) (k1.trans kp.hid) dv'
    rw [hb1] at hb'
    cases List.mem_singleton.mp hb'
    exact hbag
end
/-! how a def's proof begins -/
def startP (N : List Str) (ds : List Dt) : List Sl := ds.map Sl.dat ++ List.replicate (N.length - ds.length) Sl.un
def startB (N : List Str) (ds : List Dt) : List Sl := Sl.bag :: (ds.map Sl.dat ++ List.replicate (N.length - (ds.length + 1)) Sl.un)
theorem addrs_dat : ∀ (ds : List Dt) (n : Nat), addrs (ds.map Sl.dat ++ List.replicate n Sl.un) = []
  | [], 0 => rfl
  | [], n + 1 => by
    show addrs (Sl.un :: List.replicate n Sl.un) = []
    exact addrs_dat [] n
  | d :: ds, n => by
    show (Sl.dat d).addr ++ addrs (ds.map Sl.dat ++ List.replicate n Sl.un) = []
    rw [addrs_dat ds n]; rfl
theorem slots_dat {K : PySem.W.Frag} {F : Fm} {hd : List Addr} {H : Hp} : ∀ {vs : List V} {ds : List Dt} (n : Nat), DVs K (mask hd H) vs ds → ∀ (i : Nat) (s : Sl), (ds.map Sl.dat ++ List.replicate n Sl.un)[i]? = some s → SlOk K F hd H (vs.map some ++ List.replicate n (none : Option V))[i]? s
  | _, _, n, .nil, i, s, h => by
    simp only [List.map_nil, List.nil_append] at h
    have := List.mem_of_getElem? h
    rw [(List.mem_replicate.mp this).2]
    exact True.intro
  | _, _, n, .cons h1 t, 0, s, h => by
    simp at h
    subst h
    exact ⟨_, rfl, h1⟩
  | _ :: vs, _ :: ds, n, .cons h1 t, i + 1, s, h => by
    have h' : (ds.map Sl.dat ++ List.replicate n Sl.un)[i]? = some s := by simpa using h
    have q := slots_dat (F := F) n t i s h'
    simpa using q
section
variable {P : Program} {w : World} {K : PySem.W.Frag} {mg : Str → Option Value} {base : Heap}
theorem fn_P {α : Type} {args : α → List Dt} {pre : α → Prop} {post : α → Dt → Prop} {x qual : Str} {st : Stmt} {f : Addr} {fd : FuncData} {N ps : List Str} {k : Nat} (Fu : Fun K x qual st f fd) (S : FnScope N ps (defScope st)) (hl : ∀ a, (args a).length = ps.length)
    (h : ∀ (cdv : Value) (A : Around) (outer : List Env) (s : Shared) (H : Hp) (E : XK) (F : Fm) (a : α), pre a → Room k (A.deeper (envOfC qual (defScope st) s.heap.objs.size f cdv)) → F.b = [] →
      SS F (cxOf CX0 P w K mg base N qual (defScope st) f cdv A outer s H E).nox (startP N (args a)) 0 (defBody st) { nx := fun _ _ => post a .non, rt := fun _ _ d => post a d }) : FnOk P w K mg base CX0 (k + 1) f fd ps (spP K args pre post) := by
  refine Fu.ok S (fun vs H Q E ⟨M, a, _, dv, _⟩ => by rw [dv.length, hl a]) (fun cdv A outer s H vs Q E hr ⟨M, a, hM, dv, hp, k⟩ => ?_)
  have hq := h cdv A outer s H E { H0 := H, M := M, W := [], b := [] } a hp hr rfl
  have e0 : addrs (startP N (args a)) = [] := addrs_dat _ _
  have eh : hid { H0 := H, M := M, W := [], b := [] } (startP N (args a)) = M := by unfold hid; rw [e0]; rfl
  refine ⟨_, pSts, hq _ H _ ⟨?_, (by rw [e0]; exact List.nodup_nil), (fun b z => nomatch z), ?_, Ex.refl _, (by rw [e0]; exact (fun b z => nomatch z)), hM, (fun b z => nomatch z), (fun b z => nomatch z)⟩ ⟨?_, ?_, fun _ _ _ _ z => z.elim, fun _ _ _ _ z => z.elim, fun _ _ _ _ _ _ _ z => z.elim⟩⟩
  · unfold L2.start startP
    rw [List.length_append, List.length_append, List.length_map, List.length_map, List.length_replicate, List.length_replicate, dv.length]
  · intro i s' hi
    rw [eh]
    unfold L2.start
    rw [dv.length]
    exact slots_dat _ dv i s' hi
  · intro Γ' c' σ' H' p S' e'
    refine k .non H' .non p ?_ .non
    have := S'.keep
    rwa [show (({ H0 := H, M := M, W := [], b := [] } : Fm)).W = [] from rfl, mask_nil, mask_nil] at this
  · intro Γ' c' σ' H' v d p S' e' dv'
    refine k v H' d p ?_ (dv'.mono (mask_sub fun x hx => List.mem_append_right _ (List.mem_append_right _ hx)))
    have := S'.keep
    rwa [show (({ H0 := H, M := M, W := [], b := [] } : Fm)).W = [] from rfl, mask_nil, mask_nil] at this
theorem fn_B {α : Type} {args : α → List Dt} {pre : α → Prop} {cost : α → Nat} {post : α → Dt → Prop} {x qual : Str} {st : Stmt} {f : Addr} {fd : FuncData} {N ps : List Str} {k : Nat} (Fu : Fun K x qual st f fd) (S : FnScope N ps (defScope st)) (hl : ∀ a, (args a).length + 1 = ps.length)
    (h : ∀ (cdv : Value) (A : Around) (outer : List Env) (s : Shared) (H : Hp) (E : XK) (F : Fm) (a : α) (c : Nat) (b : Addr), pre a → Room k (A.deeper (envOfC qual (defScope st) s.heap.objs.size f cdv)) → F.b = [b] → c + cost a ≤ LIM →
      SS F (cxOf CX0 P w K mg base N qual (defScope st) f cdv A outer s H E).nox (startB N (args a)) c (defBody st) { nx := fun _ c' => c' ≤ c + cost a ∧ post a .non, rt := fun _ c' d => c' ≤ c + cost a ∧ post a d }) : FnOk P w K mg base CX0 (k + 1) f fd ps (spB K args pre cost post) := by
  refine Fu.ok S (fun vs H Q E ⟨M, b, c, a, ws, e, _, _, _, _, dv, _⟩ => by rw [e, List.length_cons, dv.length, hl a]) (fun cdv A outer s H vs Q E hr ⟨M, b, c, a, ws, e, hbM, hM, hbag, hc, dv, hp, k⟩ => ?_)
  subst e
  have hq := h cdv A outer s H E { H0 := H, M := M, W := [b], b := [b] } a c b hp hr rfl hc
  have e0 : addrs (startB N (args a)) = [] := by
    show (Sl.bag).addr ++ addrs ((args a).map Sl.dat ++ List.replicate _ Sl.un) = []
    rw [addrs_dat]; rfl
  have eh : ∀ x, x ∈ hid { H0 := H, M := M, W := [b], b := [b] } (startB N (args a)) → x ∈ M := fun x hx => by
    unfold hid at hx
    rw [e0] at hx
    rcases List.mem_append.mp hx with z | z
    · rw [List.mem_singleton.mp z]; exact hbM
    · exact z
  refine ⟨_, pSts, hq _ H _ ⟨?_, (by rw [e0]; exact List.nodup_nil), (fun b z => by rw [e0]; exact (fun q => nomatch q)), ?_, Ex.refl _, (by rw [e0]; exact (fun b z => nomatch z)), hM, fun b' z => ?_, fun b z => z⟩ ⟨?_, ?_, fun _ _ _ _ z => z.elim, fun _ _ _ _ z => z.elim, fun _ _ _ _ _ _ _ z => z.elim⟩⟩
  · unfold L2.start startB
    simp only [List.length_append, List.length_cons, List.length_map, List.length_replicate, dv.length]
    omega
  · intro i s' hi
    have dv' := dv.mono (mask_sub eh (H := H))
    cases i with
    | zero =>
      have : s' = Sl.bag := by
        have q : some Sl.bag = some s' := hi
        cases q; rfl
      rw [this]
      exact ⟨b, rfl, rfl⟩
    | succ i =>
      have q := slots_dat (F := { H0 := H, M := M, W := [b], b := [b] }) (N.length - ((args a).length + 1)) dv' i s' (by unfold startB at hi; simpa using hi)
      unfold L2.start
      rw [List.length_cons, dv.length]
      show SlOk K _ _ _ (some (V.ref b) :: (ws.map some ++ List.replicate (N.length - ((args a).length + 1)) none))[i + 1]? s'
      rw [List.getElem?_cons_succ]
      exact q
  · cases List.mem_singleton.mp z
    exact ⟨hbag, .inl (List.mem_cons_self ..)⟩
  · intro Γ' c' σ' H' p S' e'
    exact k .non H' .non p.2 S'.keep ((S'.bagAt b (List.mem_cons_self ..)).mono p.1) .non
  · intro Γ' c' σ' H' v d p S' e' dv'
    exact k v H' d p.2 S'.keep ((S'.bagAt b (List.mem_cons_self ..)).mono p.1) (dv'.mono (mask_sub fun x hx => List.mem_append_right _ (List.mem_append_right _ hx)))
/-- a def that returns a new list -/
def spN (K : PySem.W.Frag) {α : Type} (args : α → List Dt) (pre : α → Prop) (post : α → List Dt → Prop) : Sp := fun vs H Q _ =>
  ∃ (M : List Addr) (a : α), (∀ x ∈ M, ∃ o, H x = some o) ∧ DVs K (mask M H) vs (args a) ∧ pre a ∧ ∀ p xs H' l, post a l → Ex H H' → H' p = none → DVs K (mask M H') xs l → Q (.ref p) (upd H' p (.lst xs))
theorem fn_N {α : Type} {args : α → List Dt} {pre : α → Prop} {post : α → List Dt → Prop} {x qual : Str} {st : Stmt} {f : Addr} {fd : FuncData} {N ps : List Str} {k : Nat} (Fu : Fun K x qual st f fd) (S : FnScope N ps (defScope st)) (hl : ∀ a, (args a).length = ps.length)
    (h : ∀ (cdv : Value) (A : Around) (outer : List Env) (s : Shared) (H : Hp) (E : XK) (F : Fm) (a : α), pre a → Room k (A.deeper (envOfC qual (defScope st) s.heap.objs.size f cdv)) → F.b = [] →
      SS F (cxOf CX0 P w K mg base N qual (defScope st) f cdv A outer s H E).nox (startP N (args a)) 0 (defBody st) { nx := fun _ _ => False, rt := fun _ _ _ => False, rl := fun _ _ l => post a l }) : FnOk P w K mg base CX0 (k + 1) f fd ps (spN K args pre post) := by
  refine Fu.ok S (fun vs H Q E ⟨M, a, _, dv, _⟩ => by rw [dv.length, hl a]) (fun cdv A outer s H vs Q E hr ⟨M, a, hM, dv, hp, k⟩ => ?_)
  have hq := h cdv A outer s H E { H0 := H, M := M, W := [], b := [] } a hp hr rfl
  have e0 : addrs (startP N (args a)) = [] := addrs_dat _ _
  have eh : hid { H0 := H, M := M, W := [], b := [] } (startP N (args a)) = M := by unfold hid; rw [e0]; rfl
  refine ⟨_, pSts, hq _ H _ ⟨?_, (by rw [e0]; exact List.nodup_nil), (fun b z => nomatch z), ?_, Ex.refl _, (by rw [e0]; exact (fun b z => nomatch z)), hM, (fun b z => nomatch z), (fun b z => nomatch z)⟩ ⟨fun _ _ _ _ z => z.elim, fun _ _ _ _ _ _ z => z.elim, fun _ _ _ _ z => z.elim, fun _ _ _ _ z => z.elim, ?_⟩⟩
  · unfold L2.start startP
    rw [List.length_append, List.length_append, List.length_map, List.length_map, List.length_replicate, List.length_replicate, dv.length]
  · intro i s' hi
    rw [eh]
    unfold L2.start
    rw [dv.length]
    exact slots_dat _ dv i s' hi
  · intro Γ' c' σ' H' p xs l q S' e' hp dv'
    refine k p xs H' l q ?_ hp (dv'.mono (mask_sub fun x hx => List.mem_append_right _ (List.mem_append_right _ hx)))
    have := S'.keep
    rwa [show (({ H0 := H, M := M, W := [], b := [] } : Fm)).W = [] from rfl, mask_nil, mask_nil] at this
/-- a def that is handed the bag and reads and writes it itself -/
theorem fn_T {α : Type} {args : α → List Dt} {pre : α → Prop} {post : α → Dt → Prop} {x qual : Str} {st : Stmt} {f : Addr} {fd : FuncData} {N ps : List Str} {k : Nat} (Fu : Fun K x qual st f fd) (S : FnScope N ps (defScope st)) (hl : ∀ a, (args a).length + 1 = ps.length)
    (h : ∀ (cdv : Value) (A : Around) (outer : List Env) (s : Shared) (H : Hp) (E : XK) (F : Fm) (a : α) (c : Nat) (b : Addr) (d s' k' : Int), pre a → Room k (A.deeper (envOfC qual (defScope st) s.heap.objs.size f cdv)) → F.b = [] → c + 1 ≤ LIM → 0 ≤ d → 0 ≤ s' → s' < 2147483647 → 0 ≤ k' → k' ≤ (c : Int) →
      SS F (cxOf CX0 P w K mg base N qual (defScope st) f cdv A outer s H E).nox (.own b [.int d, .int s', .int k'] :: ((args a).map Sl.dat ++ List.replicate (N.length - ((args a).length + 1)) Sl.un)) 0 (defBody st)
        { nx := fun _ _ => False, rt := fun Γ' _ z => post a z ∧ ∃ d s' k' : Int, Γ'[0]? = some (Sl.own b [.int d, .int s', .int k']) ∧ 0 ≤ d ∧ 0 ≤ s' ∧ s' < 2147483647 ∧ 0 ≤ k' ∧ k' ≤ (c : Int) + 1 }) : FnOk P w K mg base CX0 (k + 1) f fd ps (spB K args pre (fun _ => 1) post) := by
  refine Fu.ok S (fun vs H Q E ⟨M, b, c, a, ws, e, _, _, _, _, dv, _⟩ => by rw [e, List.length_cons, dv.length, hl a]) (fun cdv A outer s H vs Q E hr ⟨M, b, c, a, ws, e, hbM, hM, hbag, hc, dv, hp, k⟩ => ?_)
  subst e
  obtain ⟨d, s', k', hb, h1, h2, h3, h4, h5⟩ := hbag
  obtain ⟨M', hM'⟩ : ∃ M' : List Addr, M' = M.filter (fun x => decide (x ≠ b)) := ⟨_, rfl⟩
  have mM' : ∀ x, x ∈ M' ↔ x ∈ M ∧ x ≠ b := fun x => by rw [hM', List.mem_filter]; simp
  have hq := h cdv A outer s H E { H0 := rm H b, M := M', W := [], b := [] } a c b d s' k' hp hr rfl hc h1 h2 h3 h4 h5
  have e0 : addrs (Sl.own b [.int d, .int s', .int k'] :: ((args a).map Sl.dat ++ List.replicate (N.length - ((args a).length + 1)) Sl.un)) = [b] := by
    show [b] ++ addrs ((args a).map Sl.dat ++ List.replicate _ Sl.un) = [b]
    rw [addrs_dat]; rfl
  have eh : ∀ x, x ∈ hid { H0 := rm H b, M := M', W := [], b := [] } (Sl.own b [.int d, .int s', .int k'] :: ((args a).map Sl.dat ++ List.replicate (N.length - ((args a).length + 1)) Sl.un)) → x ∈ M := fun x hx => by
    unfold hid at hx
    rw [e0] at hx
    rcases List.mem_append.mp hx with z | z
    · exact nomatch z
    · rcases List.mem_append.mp z with z | z
      · rw [List.mem_singleton.mp z]; exact hbM
      · exact ((mM' x).mp z).1
  have k0 : Ex (mask [] (rm H b)) (mask [] H) := by
    rw [mask_nil, mask_nil]
    intro x o q
    by_cases z : x = b
    · rw [z, show rm H b b = none from rm_same] at q; cases q
    · rwa [rm_ne z] at q
  have f0 : ∀ x ∈ ([b] : List Addr), rm H b x = none ∧ x ∉ M' := fun x hx => by
    rw [List.mem_singleton.mp hx]
    exact ⟨rm_same, fun z => ((mM' b).mp z).2 rfl⟩
  refine ⟨_, pSts, hq _ H _ ⟨?_, (by rw [e0]; simp), (fun b z => nomatch z), ?_, k0, (by rw [e0]; exact f0), (fun x hx => hM x ((mM' x).mp hx).1), (fun b z => nomatch z), (fun b z => nomatch z)⟩ ⟨fun _ _ _ _ z => z.elim, ?_, fun _ _ _ _ z => z.elim, fun _ _ _ _ z => z.elim, fun _ _ _ _ _ _ _ z => z.elim⟩⟩
  · unfold L2.start
    simp only [List.length_append, List.length_cons, List.length_map, List.length_replicate, dv.length]
    omega
  · intro i s1 hi
    have dv' := dv.mono (mask_sub eh (H := H))
    cases i with
    | zero =>
      have : s1 = Sl.own b [.int d, .int s', .int k'] := by
        have q : some (Sl.own b [.int d, .int s', .int k']) = some s1 := hi
        cases q; rfl
      rw [this]
      exact ⟨rfl, _, hb, .cons (.int d) (.cons (.int s') (.cons (.int k') .nil))⟩
    | succ i =>
      have q := slots_dat (F := { H0 := rm H b, M := M', W := [], b := [] }) (N.length - ((args a).length + 1)) dv' i s1 (by simpa using hi)
      unfold L2.start
      rw [List.length_cons, dv.length]
      show SlOk K _ _ _ (some (V.ref b) :: (ws.map some ++ List.replicate (N.length - ((args a).length + 1)) none))[i + 1]? s1
      rw [List.getElem?_cons_succ]
      exact q
  · intro Γ' c' σ' H' v z p S' e' dv'
    obtain ⟨pp, d2, s2, k2, g0, g1, g2, g3, g4, g5⟩ := p
    have hbm : b ∈ addrs Γ' := mem_addrs g0
    obtain ⟨_, xs, hb', dvs⟩ := S'.sl 0 _ g0
    have hx : xs = [.int d2, .int s2, .int k2] := by
      cases dvs with
      | cons a1 t => cases t with
        | cons a2 t => cases t with
          | cons a3 t => cases t; cases a1; cases a2; cases a3; rfl
    subst hx
    refine k v H' z pp (fun x o q => ?_) ⟨d2, s2, k2, hb', g1, g2, g3, g4, by show k2 ≤ ((c + 1 : Nat) : Int); omega⟩ (dv'.mono (mask_sub fun x hx => ?_))
    · obtain ⟨n, q⟩ := of_mask q
      have hxb : x ≠ b := fun z => n (by rw [z]; exact List.mem_singleton.mpr rfl)
      rw [mask_out n]
      have := S'.keep
      rw [show (({ H0 := rm H b, M := M', W := [], b := [] } : Fm)).W = [] from rfl, mask_nil, mask_nil] at this
      exact this x o (by rw [show (({ H0 := rm H b, M := M', W := [], b := [] } : Fm)).H0 = rm H b from rfl, rm_ne hxb]; exact q)
    · unfold hid
      by_cases hxb : x = b
      · exact List.mem_append_right _ (List.mem_append_left _ (by rw [hxb]; exact hbm))
      · exact List.mem_append_right _ (List.mem_append_right _ ((mM' x).mpr ⟨hx, hxb⟩))
end
end G

set_option Elab.async false
set_option linter.all false
set_option maxRecDepth 100000
namespace G
open PySem L2 PyProof.Rows
theorem take_succ_map {α β : Type} (f : α → β) {l : List α} {i : Nat} {d : α} (h : l[i]? = some d) : (l.take (i + 1)).map f = (l.take i).map f ++ [f d] := by
  rw [List.take_add_one, h, List.map_append]
  rfl
theorem take_succ_filter {α β : Type} (f : α → β) (q : α → Bool) {l : List α} {i : Nat} {d : α} (h : l[i]? = some d) : ((l.take (i + 1)).filter q).map f = if q d = true then ((l.take i).filter q).map f ++ [f d] else ((l.take i).filter q).map f := by
  rw [List.take_add_one, h, List.filter_append, List.map_append]
  show _ ++ (([d].filter q).map f) = _
  rw [List.filter_cons]
  cases q d with
  | true => rfl
  | false => exact List.append_nil _
section
variable {F : Fm} {X : Cx} {Γ : List Sl} {c : Nat} {Φ : PEnds} {pos : Pos} {P : Nat → List Dt → Prop}
theorem SW.mono {tg iter : Expr} {P P' : Nat → List Dt → Prop} (h : SW F X Γ c tg iter P) (hp : ∀ c l, P c l → P' c l) : SW F X Γ c tg iter P' := fun σ H R S k => h σ H R S fun J H' c' ds p => k J H' c' ds (hp c' ds p)
/-- [elt for x in iter], the element a function of the item -/
theorem map_sw {elt iter : Expr} {x : Str} {px : Pos} {scope : Scope} {j : Nat} (f : Dt → Dt) (h : SW F X Γ c (.Name x px) iter fun c1 ds => ds.length ≤ sizeLine ∧ (∀ d ∈ ds, ∀ F' s0 H0 C cl fp, F'.b = F.b → SE F' (X.blk s0 H0 scope (compEnvC scope cl C X.env) fp) (Γ.set j (.dat d)) c1 elt fun c2 y => c2 = c1 ∧ y = f d) ∧ P c1 (ds.map f)) :
    SW F X Γ c (.Name x px) iter fun c1 ds => ds.length ≤ sizeLine ∧ ∃ Jv : Nat → Nat → List Dt → Prop, Jv 0 c1 [] ∧
      (∀ i d c' acc, ds[i]? = some d → Jv i c' acc → ∀ F' s0 H0 C cl fp, F'.b = F.b → SE F' (X.blk s0 H0 scope (compEnvC scope cl C X.env) fp) (Γ.set j (.dat d)) c' elt fun c2 y => Jv (i + 1) c2 (acc ++ [y])) ∧ ∀ c' acc, Jv ds.length c' acc → P c' acc :=
  h.mono fun c' ds p => ⟨p.1, fun i c2 acc => c2 = c' ∧ acc = (ds.take i).map f, ⟨rfl, rfl⟩, fun i d c2 acc hd ⟨e1, e2⟩ F' s0 H0 C cl fp hF => by
      subst e1 e2
      exact (p.2.1 d (List.mem_of_getElem? hd) F' s0 H0 C cl fp hF).mono fun c3 y ⟨e1, e2⟩ => ⟨e1, by rw [e2, take_succ_map f hd]⟩,
    fun c2 acc ⟨e1, e2⟩ => by rw [e1, e2, List.take_length]; exact p.2.2⟩
theorem filter_sw {elt iter t : Expr} {x : Str} {px : Pos} {scope : Scope} {j : Nat} (q : Dt → Bool) (f : Dt → Dt) (h : SW F X Γ c (.Name x px) iter fun c1 ds => ds.length ≤ sizeLine ∧ (∀ d ∈ ds, ∀ F' s0 H0 C cl fp, F'.b = F.b → ST F' (X.blk s0 H0 scope (compEnvC scope cl C X.env) fp) (Γ.set j (.dat d)) c1 t (fun c2 b => c2 = c1 ∧ b = q d)) ∧
      (∀ d ∈ ds, q d = true → ∀ F' s0 H0 C cl fp, F'.b = F.b → SE F' (X.blk s0 H0 scope (compEnvC scope cl C X.env) fp) (Γ.set j (.dat d)) c1 elt fun c2 y => c2 = c1 ∧ y = f d) ∧ P c1 ((ds.filter q).map f)) :
    SW F X Γ c (.Name x px) iter fun c1 ds => ds.length ≤ sizeLine ∧ ∃ Jv : Nat → Nat → List Dt → Prop, Jv 0 c1 [] ∧
      (∀ i d c' acc, ds[i]? = some d → Jv i c' acc → ∀ F' s0 H0 C cl fp, F'.b = F.b → ST F' (X.blk s0 H0 scope (compEnvC scope cl C X.env) fp) (Γ.set j (.dat d)) c' t fun c2 b =>
        if b = true then ∀ s0 H0 C cl fp, SE F' (X.blk s0 H0 scope (compEnvC scope cl C X.env) fp) (Γ.set j (.dat d)) c2 elt fun c3 y => Jv (i + 1) c3 (acc ++ [y]) else Jv (i + 1) c2 acc) ∧ ∀ c' acc, Jv ds.length c' acc → P c' acc :=
  h.mono fun c' ds p => ⟨p.1, fun i c2 acc => c2 = c' ∧ acc = ((ds.take i).filter q).map f, ⟨rfl, rfl⟩, fun i d c2 acc hd ⟨e1, e2⟩ F' s0 H0 C cl fp hF => by
      subst e1 e2
      intro σ1 H1 Q1 S1 k1
      refine p.2.1 d (List.mem_of_getElem? hd) F' s0 H0 C cl fp hF σ1 H1 Q1 S1 fun b H2 c3 ⟨ec, eb⟩ S2 e2 => k1 b H2 c3 ?_ S2 e2
      subst ec eb
      have ts := take_succ_filter f q hd
      cases hq : q d with
      | true =>
        rw [hq, if_pos rfl] at ts
        exact fun s0 H0 C cl fp => (p.2.2.1 d (List.mem_of_getElem? hd) hq F' s0 H0 C cl fp hF).mono fun c3 y ⟨e1, e2⟩ => ⟨e1, by rw [e2]; exact ts.symm⟩
      | false =>
        rw [hq, if_neg Bool.false_ne_true] at ts
        exact ⟨rfl, ts.symm⟩,
    fun c2 acc ⟨e1, e2⟩ => by rw [e1, e2, List.take_length]; exact p.2.2.2⟩
end
end G

set_option Elab.async false
set_option linter.all false
set_option maxRecDepth 100000
namespace G
open PySem L2 PyProof.Rows
/-- a def that stands under its name and keeps a promise -/
structure DefOk (P : Program) (w : World) (K : PySem.W.Frag) (mg : Str → Option Value) (base : Heap) (CX : CXT) (k : Nat) (x : Str) (ps : List Str) (sp : Sp) : Prop where
  ex : ∃ f fd, FnOk P w K mg base CX k f fd ps sp ∧ mg x = some (.ref f) ∧ PySem.W.keepIn K (.ref f) = true ∧ Binds K fd ps []
theorem DefOk.mono {P : Program} {w : World} {K : PySem.W.Frag} {mg : Str → Option Value} {base : Heap} {CX : CXT} {j k : Nat} {x : Str} {ps : List Str} {sp : Sp} (D : DefOk P w K mg base CX j x ps sp) (h : j ≤ k) : DefOk P w K mg base CX k x ps sp := by
  obtain ⟨f, fd, h1, h2⟩ := D.ex
  exact ⟨f, fd, h1.mono h, h2⟩
section
variable {F : Fm} {X : Cx} {Γ : List Sl} {c : Nat} {P : Nat → Dt → Prop} {pos : Pos}
theorem se_fP {α : Type} {args : α → List Dt} {pre : α → Prop} {post : α → Dt → Prop} {k : Nat} {ps : List Str} {x : Str} {p : Pos} {e : Expr} {es : List Expr}
    (D : DefOk X.prog X.w X.K X.mg X.base CX0 k x ps (spP X.K args pre post)) (hr : Room k X.A)
    (h : SA F X Γ c (e :: es) fun c1 ds => ∃ a, ds = args a ∧ pre a ∧ ∀ d, post a d → P c1 d) (hg : Gl X x := by rfl) (hdb : (x == ("__debug__" : Str)) = false := by decide)
    (he : starEach (e :: es) X.env = (false, eval e X.env) :: starEach es X.env := by rfl) (hpl : (backTo pos (starEach es X.env)).any (·.1) = false := by rfl) : SE F X Γ c (.Call (.Name x p) (e :: es) [] pos) P := by
  obtain ⟨f, fd, h1, h2, h3, h4⟩ := D.ex
  exact se_callP h1 hr h2 h3 h4 pass0 h hg hdb he hpl
theorem se_fB {α : Type} {args : α → List Dt} {pre : α → Prop} {cost : α → Nat} {post : α → Dt → Prop} {k : Nat} {ps : List Str} {x y : Str} {p p0 : Pos} {es : List Expr} (i : Nat)
    (D : DefOk X.prog X.w X.K X.mg X.base CX0 k x ps (spB X.K args pre cost post)) (hr : Room k X.A) (hs : Γ[i]? = some .bag)
    (h : SA F X Γ c es fun c1 ds => ∃ a, ds = args a ∧ pre a ∧ c1 + cost a ≤ LIM ∧ ∀ d, post a d → P (c1 + cost a) d) (hN : X.N[i]? = some y := by rfl) (hv : Vis X.env.scope y := by first | exact Or.inl rfl | exact Or.inr (Or.inl rfl) | exact Or.inr (Or.inr rfl))
    (hd : (y == ("__debug__" : Str)) = false := by decide) (hcd : (y == ("__classdict__" : Str)) = false := by decide) (hg : Gl X x := by rfl) (hdb : (x == ("__debug__" : Str)) = false := by decide)
    (he : starEach (.Name y p0 :: es) X.env = (false, eval (.Name y p0) X.env) :: starEach es X.env := by rfl) (hpl : (backTo pos (starEach es X.env)).any (·.1) = false := by rfl) : SE F X Γ c (.Call (.Name x p) (.Name y p0 :: es) [] pos) P := by
  obtain ⟨f, fd, h1, h2, h3, h4⟩ := D.ex
  exact se_callB1 i h1 hr h2 h3 h4 pass0 hs h hN hv hd hcd hg hdb he hpl
theorem fit_of_flat {d : Dt} {n : Nat} (h : flatD d = true) (hs : ∀ s, d = .str s → PyData.strOk s = true) : Fit n d := by
  cases d with
  | non => exact fit_non
  | bl b => exact fit_bl
  | int i => exact fit_int
  | str s => exact fit_str (hs s rfl)
  | _ => cases h
end
end G

set_option Elab.async false
set_option linter.all false
set_option maxRecDepth 100000
namespace G
open PySem L2 PyProof.Rows
/-! texts -/
abbrev tl (s : Str) : List Nat := s.cps.toList
theorem tl_eq (s : Str) : TL.tl s = tl s := rfl
theorem str_ext {a b : Str} (h : tl a = tl b) : a = b := TL.ext_tl h
theorem tl_app (a b : Str) : tl (a ++ b) = tl a ++ tl b := TL.tl_append a b
theorem len_app (a b : Str) : (a ++ b).length = a.length + b.length := by rw [TL.len_tl, TL.len_tl a, TL.len_tl b, TL.tl_append, List.length_append]
theorem len_tl (s : Str) : s.length = (tl s).length := TL.len_tl s
theorem tl_join (y : Str) (l : List Str) : tl (Txt.join y l) = TL.joinL (tl y) (l.map tl) := by
  rw [TL.join_eq]
  exact TL.tl_join y l
theorem joinL_nil : ∀ l : List (List Nat), TL.joinL [] l = l.flatten
  | [] => rfl
  | [p] => by simp [TL.joinL]
  | p :: q :: r => by
    show p ++ ([] ++ TL.joinL [] (q :: r)) = (p :: q :: r).flatten
    rw [joinL_nil (q :: r)]
    rfl
theorem tl_join0 {y : Str} (h : tl y = []) (l : List Str) : tl (Txt.join y l) = (l.map tl).flatten := by rw [tl_join, h, joinL_nil]
theorem joinL_ne {S : List Nat} {p : List Nat} : ∀ {l : List (List Nat)}, l ≠ [] → TL.joinL S (p :: l) = p ++ (S ++ TL.joinL S l)
  | [], h => absurd rfl h
  | q :: r, _ => rfl
theorem spl_ne (S : List Nat) : ∀ (k : Nat) (acc L : List Nat), TL.spl S k acc L ≠ []
  | k, acc, [] => by rw [TL.spl_nil]; simp
  | 0, acc, c :: r => by
    show (if TL.pre S (c :: r) = true then acc :: TL.spl S (S.length - 1) [] r else TL.spl S 0 (acc ++ [c]) r) ≠ []
    split
    · simp
    · exact spl_ne S 0 _ r
  | k + 1, acc, c :: r => by
    show TL.spl S k acc r ≠ []
    exact spl_ne S k acc r
/-- a split text, joined -/
theorem join_spl {S : List Nat} (hS : S ≠ []) : ∀ (n : Nat) (acc L : List Nat), L.length ≤ n → TL.joinL S (TL.spl S 0 acc L) = acc ++ L
  | n, acc, [], _ => by rw [TL.spl_nil]; simp [TL.joinL]
  | n + 1, acc, c :: r, h => by
    cases e : TL.pre S (c :: r) with
    | true =>
      rw [TL.spl_hit e, joinL_ne (spl_ne _ _ _ _), TL.spl_pass, join_spl hS n [] _ (by rw [List.length_drop]; simp at h; omega)]
      have e1 : (c :: r).take S.length = S := eq_of_beq e
      have e2 : (c :: r).drop S.length = r.drop (S.length - 1) := by
        cases S with
        | nil => exact absurd rfl hS
        | cons s S => rfl
      rw [List.nil_append, ← e2]
      have e3 : S ++ (c :: r).drop S.length = c :: r := by
        have := List.take_append_drop S.length (c :: r)
        rw [e1] at this
        exact this
      rw [e3]
    | false =>
      rw [TL.spl_miss e, join_spl hS n _ r (by simp at h; omega), List.append_assoc]
      rfl
/-- what a split at one sign leaves has that sign no more -/
theorem spl_free {s : Nat} : ∀ (L acc : List Nat), s ∉ acc → ∀ p ∈ TL.spl [s] 0 acc L, s ∉ p
  | [], acc, h, p, hp => by rw [TL.spl_nil] at hp; rw [List.mem_singleton.mp hp]; exact h
  | c :: r, acc, h, p, hp => by
    cases e : TL.pre [s] (c :: r) with
    | true =>
      rw [TL.spl_hit e] at hp
      rcases List.mem_cons.mp hp with z | z
      · rw [z]; exact h
      · exact spl_free r [] (by simp) p z
    | false =>
      rw [TL.spl_miss e] at hp
      refine spl_free r _ (fun z => ?_) p hp
      rcases List.mem_append.mp z with z | z
      · exact h z
      · have z := List.mem_singleton.mp z
        rw [← z] at e
        have : TL.pre [s] (s :: r) = true := by simp [TL.pre]
        rw [this] at e
        cases e
theorem split_tl (x y : Str) (hy : tl y ≠ []) (hk : y.cps.all (· < 256) = true) : (Txt.split x y).map tl = TL.spl (tl y) 0 [] (tl x) := TL.split_spl x y hy (TL.kind_ok hk)
theorem join_split (x y : Str) (hy : tl y ≠ []) (hk : y.cps.all (· < 256) = true) : TL.joinL (tl y) ((Txt.split x y).map tl) = tl x := by
  rw [split_tl x y hy hk, join_spl hy _ _ _ (Nat.le_refl _), List.nil_append]
theorem split_ne (x y : Str) (hy : tl y ≠ []) (hk : y.cps.all (· < 256) = true) : Txt.split x y ≠ [] := fun e => by
  have h := split_tl x y hy hk
  rw [e] at h
  exact spl_ne _ _ _ _ h.symm
theorem mem_joinL {S p : List Nat} {a : Nat} : ∀ {l : List (List Nat)}, p ∈ l → a ∈ p → a ∈ TL.joinL S l
  | [q], h, ha => by rw [List.mem_singleton.mp h] at ha; exact ha
  | q :: r :: t, h, ha => by
    show a ∈ q ++ (S ++ TL.joinL S (r :: t))
    rcases List.mem_cons.mp h with h | h
    · rw [h] at ha; exact List.mem_append_left _ ha
    · exact List.mem_append_right _ (List.mem_append_right _ (mem_joinL h ha))
theorem of_joinL {S : List Nat} {a : Nat} : ∀ {l : List (List Nat)}, a ∈ TL.joinL S l → a ∈ S ∨ ∃ p ∈ l, a ∈ p
  | [q], h => .inr ⟨q, List.mem_singleton.mpr rfl, h⟩
  | q :: r :: t, h => by
    rcases List.mem_append.mp (show a ∈ q ++ (S ++ TL.joinL S (r :: t)) from h) with h | h
    · exact .inr ⟨q, List.mem_cons_self .., h⟩
    · rcases List.mem_append.mp h with h | h
      · exact .inl h
      · rcases of_joinL h with h | ⟨p, hp, ha⟩
        · exact .inl h
        · exact .inr ⟨p, List.mem_cons_of_mem _ hp, ha⟩
theorem len_joinL (S : List Nat) : ∀ l : List (List Nat), (TL.joinL S l).length + (if l = [] then 0 else S.length) = (l.map List.length).sum + l.length * S.length
  | [] => by simp [TL.joinL]
  | [q] => by simp [TL.joinL]
  | q :: r :: t => by
    have ih := len_joinL S (r :: t)
    rw [if_neg (by simp)] at ih
    show (q ++ (S ++ TL.joinL S (r :: t))).length + _ = _
    rw [List.length_append, List.length_append, if_neg (by simp), List.map_cons, List.sum_cons, List.length_cons (as := r :: t), Nat.add_mul, Nat.one_mul]
    omega
theorem le_sum_of_mem {a : Nat} : ∀ {l : List Nat}, a ∈ l → a ≤ l.sum
  | b :: l, h => by
    rw [List.sum_cons]
    rcases List.mem_cons.mp h with h | h
    · omega
    · have := le_sum_of_mem h; omega
/-- plain texts: a length, signs of seven bits -/
structure Asc (n : Nat) (s : Str) : Prop where
  len : s.length ≤ n
  cp : ∀ a ∈ tl s, a < 128
theorem Asc.mono {n m : Nat} {s : Str} (h : Asc n s) (l : n ≤ m) : Asc m s := ⟨Nat.le_trans h.len l, h.cp⟩
theorem Asc.ok {n : Nat} {s : Str} (h : Asc n s) : PyData.strOk s = true := by
  unfold PyData.strOk
  rw [Array.all_eq_true_iff_forall_mem]
  intro a ha
  have := h.cp a (by simpa [tl] using ha)
  exact decide_eq_true (by omega)
theorem Asc.app {n m : Nat} {a b : Str} (h : Asc n a) (k : Asc m b) : Asc (n + m) (a ++ b) := ⟨by rw [len_app]; exact Nat.add_le_add h.len k.len, fun x hx => by
  rw [tl_app] at hx
  rcases List.mem_append.mp hx with z | z
  · exact h.cp x z
  · exact k.cp x z⟩
theorem tl_cut (z : Str) (lo hi : Option Int) : tl (cutS z lo hi) = ((tl z).drop (HT.sIx z.length 0 lo)).take (HT.sIx z.length z.length hi - HT.sIx z.length 0 lo) := rfl
theorem Asc.cut {n : Nat} {z : Str} (h : Asc n z) (lo hi : Option Int) : Asc n (cutS z lo hi) := ⟨by
  rw [len_tl, tl_cut, List.length_take, List.length_drop]
  have := h.len
  rw [len_tl] at this
  omega, fun a ha => by
  rw [tl_cut] at ha
  exact h.cp a (List.mem_of_mem_drop (List.mem_of_mem_take ha))⟩
theorem Asc.part {n : Nat} {x y : Str} (h : Asc n x) (hy : tl y ≠ []) (hk : y.cps.all (· < 256) = true) : ∀ p ∈ Txt.split x y, Asc n p := fun p hp => by
  have hj := join_split x y hy hk
  have hm : tl p ∈ (Txt.split x y).map tl := List.mem_map_of_mem hp
  refine ⟨?_, fun a ha => h.cp a (by rw [← hj]; exact mem_joinL hm ha)⟩
  have hl := len_joinL (tl y) ((Txt.split x y).map tl)
  rw [hj, if_neg (by intro e; rw [e] at hm; exact nomatch hm)] at hl
  have h1 : (tl p).length ≤ (((Txt.split x y).map tl).map List.length).sum := by
    have : (tl p).length ∈ ((Txt.split x y).map tl).map List.length := List.mem_map_of_mem hm
    exact le_sum_of_mem this
  have h2 : (tl y).length ≤ ((Txt.split x y).map tl).length * (tl y).length := by
    have : 0 < ((Txt.split x y).map tl).length := List.length_pos_of_mem hm
    exact Nat.le_mul_of_pos_left _ this
  have h3 := h.len
  rw [len_tl] at h3 ⊢
  omega
/-! slices of lists -/
theorem cutD_map {α β : Type} (f : α → β) (l : List α) (lo hi : Option Int) : cutD (l.map f) lo hi = (cutD l lo hi).map f := by
  unfold cutD
  rw [List.length_map, List.map_take, List.map_drop]
theorem cutD_from {α : Type} (l : List α) {k : Int} (h : 0 ≤ k) : cutD l (some k) none = l.drop k.toNat := by
  unfold cutD
  show (l.drop (if k < 0 then _ else min k.toNat l.length)).take (l.length - (if k < 0 then _ else min k.toNat l.length)) = _
  rw [if_neg (by omega)]
  by_cases e : k.toNat ≤ l.length
  · rw [Nat.min_eq_left e, List.take_of_length_le (by rw [List.length_drop]; omega)]
  · rw [Nat.min_eq_right (by omega), List.drop_length, List.drop_of_length_le (by omega)]
    simp
theorem cutD_to {α : Type} (l : List α) {k : Int} (h : 0 ≤ k) : cutD l none (some k) = l.take k.toNat := by
  unfold cutD
  show (l.drop 0).take ((if k < 0 then _ else min k.toNat l.length) - 0) = _
  rw [if_neg (by omega), List.drop_zero, Nat.sub_zero]
  by_cases e : k.toNat ≤ l.length
  · rw [Nat.min_eq_left e]
  · rw [Nat.min_eq_right (by omega), List.take_length, List.take_of_length_le (by omega)]
theorem cutD_mem {α : Type} {l : List α} {lo hi : Option Int} {a : α} (h : a ∈ cutD l lo hi) : a ∈ l := List.mem_of_mem_drop (List.mem_of_mem_take h)
theorem eqd_lst_nil (l : List Dt) : eqd (.lst l) (.lst []) = l.isEmpty := by
  unfold eqd
  cases l with
  | nil => rfl
  | cons d l => rfl
theorem eqd_tup_nil (l : List Dt) : eqd (.tup l) (.tup []) = l.isEmpty := by
  unfold eqd
  cases l with
  | nil => rfl
  | cons d l => rfl
section
variable {F : Fm} {X : Cx} {Γ : List Sl} {c : Nat} {Φ : PEnds} {pos : Pos}
theorem so_none {P : Nat → Option Int → Prop} (p : P c none) : SO F X Γ c none P := p
theorem so_some {e : Expr} {P : Nat → Option Int → Prop} (h : SE F X Γ c e fun c1 d => ∃ i, d = .int i ∧ P c1 (some i)) : SO F X Γ c (some e) P := h
/-- a, b = e1, a new list that is one's own from now on -/
theorem s_parO (i j : Nat) {x y : Str} {a b : Expr} {px py pt : Pos} {kt k2 pt2} (hc : X.calm = true) (hN : X.N.Nodup) (hij : i ≠ j) (h : SE F X Γ c a fun c1 d1 => SEL F X Γ c1 b fun c2 l => ∀ p, Φ.nx ((Γ.set i (.dat d1)).set j (.own p l)) c2)
    (hi : X.N[i]? = some x := by rfl) (hj : X.N[j]? = some y := by rfl) (hx : X.env.scope.names.lookup x = some .local := by rfl) (hy : X.env.scope.names.lookup y = some .local := by rfl)
    (hst1 : starEach [a, b] X.env = (false, eval a X.env) :: starEach [b] X.env := by rfl) (hst2 : starEach [b] X.env = (false, eval b X.env) :: starEach [] X.env := by rfl)
    (hw : swappedStores [.Tuple [.Name x px, .Name y py] kt pt] (.Tuple [a, b] k2 pt2) X.env = pure (some [x, y]) := by rfl) (hs : swapsWithSole [.Tuple [.Name x px, .Name y py] kt pt] (.Tuple [a, b] k2 pt2) pos.line X.env = pure false := by rfl) :
    S1 F X Γ c (.Assign [.Tuple [.Name x px, .Name y py] kt pt] (.Tuple [a, b] k2 pt2) pos) Φ :=
  S1.of (ps_par hc hN hi hj hij hx hy (pa_cons pE (pa_cons pE pa_nil hst2) hst1) hw hs) fun σ H D S E => h σ H _ S fun v H1 c1 d1 q S1 e1 dv => q σ H1 _ S1 fun p xs H2 c2 l r S2 e2 hp dvs => by
    obtain ⟨S3, e3⟩ := (S2.setD (i := i) (dv.mono e2)).addO (i := j) hp (dvs.mono (vw_set_free rfl))
    exact ⟨_, _, rfl, E.nx _ c2 _ _ (r p) S3 (((e1.trans e2).trans (vw_set_free rfl)).trans e3)⟩
end
end G

set_option Elab.async false
set_option linter.all false
set_option maxRecDepth 100000
namespace G
open PySem L2 PyProof.Rows
/-! ### 13. an exception of one's own, over ValueError, with one field -/
def spI (K : PySem.W.Frag) (C : Addr) (fld : Str) (pre : Dt → Prop) : Sp := fun vs H Q _ => ∃ (a : Addr) (v : V) (M : List Addr) (d : Dt), vs = [.ref a, v] ∧ H a = some (exo a C none) ∧ DV K (mask M H) v d ∧ pre d ∧
  ∀ dx, H dx = none → dx ≠ a → Q .non (upd (upd H dx (exd dx [(fld, v)])) a (exo a C (some dx)))
structure ExC (P : Program) (w : World) (K : PySem.W.Frag) (mg : Str → Option Value) (base : Heap) (C : Addr) (x fld : Str) (pre : Dt → Prop) : Prop where
  O : OexC K C
  xf : XfC K C
  nof : PySem.W.findIn K (.ref C) fld = some none
  exm : PySem.W.exmOne K (.ref C) (.ref C) = some true
  gx : mg x = some (.ref C)
  ini : ∃ fI fd, PySem.W.findIn K (.ref C) "__init__" = some (some (.ref fI)) ∧ PySem.W.typeIn K (.ref fI) = some (.type "function") ∧ FnOk P w K mg base CX0 1 fI fd ["self", fld] (spI K C fld pre) ∧ Binds K fd ["self", fld] []
/-- a def that changes nothing and may raise it -/
def spX (K : PySem.W.Frag) (C : Addr) (fld : Str) {α : Type} (args : α → List Dt) (pre : α → Prop) (post exc : α → Dt → Prop) : Sp := fun vs H Q E =>
  ∃ (M : List Addr) (a : α), (∀ x ∈ M, ∃ o, H x = some o) ∧ DVs K (mask M H) vs (args a) ∧ pre a ∧ (∀ v H' d, post a d → Ex H H' → DV K (mask M H') v d → Q v H') ∧
    ∀ v H' dd d, exc a d → Ex H H' → H dd = none → H' dd = some (.xd [(fld, v)]) → DV K (mask M H') v d → E (.ref C) (some dd) H'
section
variable {F : Fm} {X : Cx} {Γ : List Sl} {c : Nat} {P : Nat → Dt → Prop} {Φ : PEnds} {pos : Pos}
theorem exc_heap {H : Hp} {a dx C : Addr} {fld : Str} {v : V} (ha : H a = none) (hd : H dx = none) (ne : dx ≠ a) :
    upd (L2.del (upd (upd (upd H a (exo a C none)) dx (exd dx [(fld, v)])) a (exo a C (some dx))) a) dx (.xd [(fld, v)]) = upd H dx (.xd [(fld, v)]) := by
  funext b
  by_cases h1 : b = dx
  · rw [h1, upd_same, upd_same]
  · rw [upd_ne h1, upd_ne h1]
    by_cases h2 : b = a
    · rw [h2, del_same, ha]
    · rw [del_ne h2, upd_ne h2, upd_ne h1, upd_ne h2]
theorem s_raise {C : Addr} {x fld : Str} {pre : Dt → Prop} {E : XK} {e : Expr} {p cpos : Pos} (T : ExC X.prog X.w X.K X.mg X.base C x fld pre) (hc : X.calm = true) (tk : Takes X (fun cls d _ H => E cls d H)) (hr : Room 2 X.A)
    (h : SE F X Γ c e fun c1 d => pre d ∧ ∀ v H1 σ dd, SI X.K F Γ c1 σ H1 → DV X.K (Vw F Γ H1) v d → H1 dd = none → E (.ref C) (some dd) (upd H1 dd (.xd [(fld, v)])))
    (hg : Gl X x := by rfl) (hdb : (x == ("__debug__" : Str)) = false := by decide) (he : starEach [e] X.env = (false, eval e X.env) :: starEach [] X.env := by rfl) (hpl : (backTo cpos (starEach [] X.env)).any (·.1) = false := by rfl) :
    S1 F X Γ c (.Raise (some (.Call (.Name x p) [e] [] cpos)) none pos) Φ := by
  obtain ⟨fI, fd, h1, h2, h3, h4⟩ := T.ini
  refine S1.of (ps_raise hc tk (pmk_oex T.O h1 h2 h3 hr h4 .nil pass0 hg T.gx (pa_cons pE pa_nil he) hdb he hpl)) fun σ H D S E' => ?_
  refine h σ H _ S fun v H1 c1 d p S1 e1 dv => ⟨by show 1 ≤ 1000; decide, fun a ha => ?_⟩
  refine ⟨a, v, hid F Γ, d, rfl, upd_same, dv.mono (Kp.new ha).hid, p.1, fun dx hdx ne => ?_⟩
  have hd1 : H1 dx = none := by rw [upd_ne ne] at hdx; exact hdx
  refine ⟨rfl, dx, [(fld, v)], upd_same, by rw [upd_ne ne, upd_same], hd1, ?_⟩
  rw [exc_heap ha hd1 ne]
  exact p.2 v H1 σ dx S1 dv hd1
/-- a call of a def that may raise it, where W takes what is raised -/
theorem se_fX {α : Type} {args : α → List Dt} {pre : α → Prop} {post exc : α → Dt → Prop} {C : Addr} {fld : Str} {k : Nat} {ps : List Str} {x : Str} {p : Pos} {e : Expr} {es : List Expr} {W : WX} (Wd : Dt → Prop)
    (D : DefOk X.prog X.w X.K X.mg X.base (L2.CX X.prog X.w) k x ps (spX X.K C fld args pre post exc)) (hr : Room k X.A) (tk : Takes X W)
    (hW : ∀ c1 d v σ H' dd, Wd d → SI X.K F Γ c1 σ H' → H' dd = some (.xd [(fld, v)]) → dd ∉ hid F Γ → DV X.K (Vw F Γ H') v d → W (.ref C) (some dd) σ H')
    (h : SA F X Γ c (e :: es) fun c1 ds => ∃ a, ds = args a ∧ pre a ∧ (∀ d, post a d → P c1 d) ∧ ∀ d, exc a d → Wd d) (hg : Gl X x := by rfl) (hdb : (x == ("__debug__" : Str)) = false := by decide)
    (he : starEach (e :: es) X.env = (false, eval e X.env) :: starEach es X.env := by rfl) (hpl : (backTo pos (starEach es X.env)).any (·.1) = false := by rfl) : SE F X Γ c (.Call (.Name x p) (e :: es) [] pos) P := by
  obtain ⟨f, fd, h1, h2, h3, h4⟩ := D.ex
  refine SE.of (pe_callS h1 hr hg h2 h3 h4 (fun σ => passAt tk σ) pAs hdb he hpl) fun σ H Q S k => h σ H _ S fun vs H1 c1 ds q S1 k1 dv => ?_
  obtain ⟨a, rfl, hp, q1, q2⟩ := q
  have kp : ∀ {H' : Hp}, Ex H1 H' → Kp F H1 H' := fun e' => mask_more (M := []) (fun _ z => nomatch z) (by rw [mask_nil, mask_nil]; exact e')
  have st : ∀ {H' : Hp}, Ex H1 H' → SI X.K F Γ c1 σ H' := fun e' => S1.step (kp e') fun b hb => by
    obtain ⟨dd, s, kk, z1, r⟩ := S1.bagAt b hb
    exact ⟨dd, s, kk, e' _ _ z1, r⟩
  refine ⟨hid F Γ, a, S1.hlive, dv, hp, fun v H' d hd e' dv' => k v H' c1 d (q1 d hd) (st e') (k1.trans (kp e').hid) dv', fun v H' dd d hd e' hn hx dv' => ?_⟩
  exact hW c1 d v σ H' dd (q2 d hd) (st e') hx (S1.fresh hn) dv'
/-- n.f in the suite of except .. as n -/
theorem se_xf {a C dd : Addr} {oe : Obj} {pn : List (Addr × Obj)} {n f : Str} {np : Pos} {fs : List (Str × Dt)} {d : Dt} (i : Nat) (T : XfC X.K C) (hno : PySem.W.findIn X.K (.ref C) f = some none) (hz : Zc (.ref C) (some dd) oe) (hf : ∃ vs, oe.data = .fields vs)
    (hs : Γ[i]? = some (.dat (.exc a dd fs))) (hl : fs.lookup f = some d) (p : P c d) (hN : X.N[i]? = some n := by rfl) (hv : Vis X.env.scope n := by first | exact Or.inl rfl | exact Or.inr (Or.inl rfl) | exact Or.inr (Or.inr rfl))
    (hd : (n == ("__debug__" : Str)) = false := by decide) (hcd : (n == ("__classdict__" : Str)) = false := by decide) (hb : attributeBase (.Name n np) f X.env (eval (.Name n np) X.env) = eval (.Name n np) X.env := by rfl) :
    SE F (X.suite a ((a, oe) :: pn)) Γ c (.Attribute (.Name n np) f pos) P :=
  SE.of (pe_xf T hno hz hf (pe_var hN hv hd hcd) hb) fun σ H Q S k => by
    obtain ⟨v, h1, h2⟩ := S.sl i _ hs
    cases h2 with
    | exc hx t =>
      obtain ⟨u, h3, h4⟩ := t.get hl
      exact ⟨_, h1, rfl, rfl, dd, _, u, rfl, (of_mask hx).2, h3, k u H c d p S (Ex.refl _) h4⟩
theorem SI.snap {K : PySem.W.Frag} {σ : L2.St} {H : Hp} (S : SI K F Γ c σ H) (hb : F.b = []) (ha : addrs Γ = []) : SI K { F with H0 := H } Γ c σ H :=
  ⟨S.len, S.nd, S.nb, S.sl, Ex.refl _, (by rw [ha]; exact fun a h => nomatch h), S.live, (fun b h => by rw [show ({ F with H0 := H } : Fm).b = F.b from rfl, hb] at h; exact nomatch h), S.wb⟩
theorem SI.unsnap {K : PySem.W.Frag} {σ σ' : L2.St} {H H' : Hp} {Γ' : List Sl} {c' : Nat} (S : SI K F Γ c σ H) (hb : F.b = []) (S' : SI K { F with H0 := H } Γ' c' σ' H') : SI K F Γ' c' σ' H' ∧ Ex (Vw F Γ H) (Vw F Γ' H') := by
  have nW : F.W = [] := by
    cases e : F.W with
    | nil => rfl
    | cons a l =>
      have := S.wb a (by rw [e]; exact List.mem_cons_self ..)
      rw [hb] at this; exact nomatch this
  have k2 : Ex (mask F.W H) (mask F.W H') := S'.keep
  refine ⟨⟨S'.len, S'.nd, S'.nb, S'.sl, S.keep.trans k2, fun a ha => ⟨S.h0 (S'.fr a ha).1, (S'.fr a ha).2⟩, S'.live, (fun b h => by rw [hb] at h; exact nomatch h), S'.wb⟩, fun x o q => ?_⟩
  obtain ⟨n, e⟩ := of_mask q
  have e' : H' x = some o := (of_mask (k2 x o (by rw [nW, mask_out (by simp)]; exact e))).2
  show mask _ _ _ = _
  rw [mask_out, e']
  intro z
  rcases List.mem_append.mp z with z | z
  · exact n (List.mem_append_left _ z)
  · rcases List.mem_append.mp z with z | z
    · have := (S'.fr x z).1
      rw [show ({ F with H0 := H } : Fm).H0 = H from rfl, e] at this
      cases this
    · exact n (List.mem_append_right _ (List.mem_append_right _ z))
/-- try: .. except x as n: .. -/
theorem s_try {C : Addr} {x fld n : Str} {pre : Dt → Prop} {body suite : List Stmt} {b₀ : Stmt} {np pos' : Pos} (i : Nat) (Wd : Dt → Prop) (T : ExC X.prog X.w X.K X.mg X.base C x fld pre) (hN : X.N.Nodup) (hb0 : F.b = []) (ha0 : addrs Γ = [])
    (hb : ∀ (F' : Fm) (W : WX) (pn : List (Addr × Obj)) (xe : Value → Shared → Prop), F'.b = [] → Takes (X.tr pn xe) W → (∀ c1 d v σ H' dd, Wd d → SI X.K F' Γ c1 σ H' → H' dd = some (.xd [(fld, v)]) → dd ∉ hid F' Γ → DV X.K (Vw F' Γ H') v d → W (.ref C) (some dd) σ H') → SS F' (X.tr pn xe) Γ c body Φ)
    (hsu : ∀ (F' : Fm) (a : Addr) (oe : Obj) (pn : List (Addr × Obj)) (dd : Addr) (d : Dt) (c1 : Nat), F'.b = [] → Wd d → Zc (.ref C) (some dd) oe → (∃ vs, oe.data = .fields vs) →
      SS F' (X.suite a ((a, oe) :: pn)) (Γ.set i (.dat (.exc a dd [(fld, d)]))) c1 (b₀ :: suite) { Φ with nx := fun Γ' c' => Φ.nx (Γ'.set i .un) c', bk := fun _ _ => False, ct := fun _ _ => False })
    (hs : X.stack = X.env :: X.outer := by rfl) (hf : X.env.frame = some X.env.locals := by rfl) (hi : X.N[i]? = some n := by rfl) (hln : X.env.kindOf n = some .local := by rfl) (hg : Gl X x := by rfl) (hdb : (x == ("__debug__" : Str)) = false := by decide) :
    S1 F X Γ c (.Try body [.ExceptHandler (some (.Name x np)) (some n) (b₀ :: suite) pos'] [] [] pos) Φ := by
  refine S1.of (ps_try_as (i := i) (Wout := fun _ _ _ _ => False) (tb := fun W => fun D σ H => ∀ pn xe, Takes (X.tr pn xe) W → tSts (X.tr pn xe) body D σ H)
    (ts := fun a cls d => fun D σ H => ∀ oe pn, Zc cls d oe → (∃ vs, oe.data = .fields vs) → tSts (X.suite a ((a, oe) :: pn)) (b₀ :: suite) D σ H) hs hf hN hi hln ⟨hg, hdb, .inl T.gx⟩ takes0
    (fun W pn xe tk _ => ⟨fun pins s σ H D I h => (h pn xe tk).run pins s I⟩) (fun a oe cls d pn hz hd => ⟨fun pins s σ H D I h => (h oe pn hz hd).run pins s I⟩)) fun σ H D S E => ?_
  intro pn xe tk
  have un := fun {Γ' : List Sl} {c' : Nat} {σ' : L2.St} {H' : Hp} (S' : SI X.K { F with H0 := H } Γ' c' σ' H') => S.unsnap hb0 S'
  refine hb { F with H0 := H } _ pn xe hb0 tk (fun c1 d v σ' H' dd wd S' hx hn dv => ?_) σ H D (S.snap hb0 ha0) ⟨fun Γ' c' σ' H' p S' _ => E.nx Γ' c' σ' H' p (un S').1 (un S').2, fun Γ' c' σ' H' v d p S' _ dv => E.rt Γ' c' σ' H' v d p (un S').1 (un S').2 dv,
    fun Γ' c' σ' H' p S' _ => E.bk Γ' c' σ' H' p (un S').1 (un S').2, fun Γ' c' σ' H' p S' _ => E.ct Γ' c' σ' H' p (un S').1 (un S').2, fun Γ' c' σ' H' p xs l q S' _ hp dv => E.rl Γ' c' σ' H' p xs l q (un S').1 (un S').2 hp dv⟩
  refine ⟨true, T.exm, fun _ a ha oe pn' hz hd => ?_, fun z => nomatch z⟩
  refine hsu { F with H0 := H } a oe pn' dd d c1 hb0 wd hz hd _ H' _ (S'.setD (i := i) (d := .exc a dd [(fld, d)]) (.exc ((mask_out hn).trans hx) (.cons dv .nil))) ⟨fun Γ' c' σ2 H2 p S2 _ => ?_, fun Γ' c' σ2 H2 v d p S2 _ dv => E.rt Γ' c' σ2 H2 v d p (un S2).1 (un S2).2 dv, fun _ _ _ _ z => z.elim, fun _ _ _ _ z => z.elim, fun Γ' c' σ2 H2 p xs l q S2 _ hp dv => E.rl Γ' c' σ2 H2 p xs l q (un S2).1 (un S2).2 hp dv⟩
  exact E.nx _ c' _ H2 p ((un S2).1.setF rfl True.intro) ((un S2).2.trans (vw_set_free rfl))
end
section
variable {P : Program} {w : World} {K : PySem.W.Frag} {mg : Str → Option Value} {base : Heap}
theorem fn_X {α : Type} {args : α → List Dt} {pre : α → Prop} {post exc : α → Dt → Prop} {C : Addr} {fld : Str} {x qual : Str} {st : Stmt} {f : Addr} {fd : FuncData} {N ps : List Str} {k : Nat} (Fu : Fun K x qual st f fd) (S : FnScope N ps (defScope st)) (hl : ∀ a, (args a).length = ps.length)
    (h : ∀ (cdv : Value) (A : Around) (outer : List Env) (s : Shared) (H : Hp) (E : XK) (F : Fm) (a : α), pre a → Room k (A.deeper (envOfC qual (defScope st) s.heap.objs.size f cdv)) → F.b = [] →
      Takes (cxOf (L2.CX P w) P w K mg base N qual (defScope st) f cdv A outer s H E) (fun cls d _ H => E cls d H) →
      (∀ Γ' c' σ' v H1 dd d, exc a d → SI K F Γ' c' σ' H1 → DV K (Vw F Γ' H1) v d → H1 dd = none → E (.ref C) (some dd) (upd H1 dd (.xd [(fld, v)]))) →
      SS F (cxOf (L2.CX P w) P w K mg base N qual (defScope st) f cdv A outer s H E) (startP N (args a)) 0 (defBody st) { nx := fun _ _ => post a .non, rt := fun _ _ d => post a d }) : FnOk P w K mg base (L2.CX P w) (k + 1) f fd ps (spX K C fld args pre post exc) := by
  refine Fu.okX S (fun vs H Q E ⟨M, a, _, dv, _⟩ => by rw [dv.length, hl a]) (fun cdv A outer s H vs Q E hr ⟨M, a, hM, dv, hp, k, kx⟩ => ?_)
  have hsub : ∀ Γ', ∀ x ∈ M, x ∈ hid { H0 := H, M := M, W := [], b := [] } Γ' := fun Γ' x hx => List.mem_append_right _ (List.mem_append_right _ hx)
  have hq := h cdv A outer s H E { H0 := H, M := M, W := [], b := [] } a hp hr rfl (takes_of rfl rfl rfl rfl) (fun Γ' c' σ' v H1 dd d hx S' dv' hn => by
    have hk := S'.keep
    rw [show (({ H0 := H, M := M, W := [], b := [] } : Fm)).W = [] from rfl, mask_nil, mask_nil] at hk
    have hk : Ex H H1 := hk
    have hH : H dd = none := by
      cases e : H dd with
      | none => rfl
      | some o => rw [hk dd o e] at hn; cases hn
    refine kx v _ dd d hx (hk.trans fun b o e => by rw [upd_ne (ne_of_none e hn)]; exact e) hH upd_same ?_
    exact (dv'.mono (mask_sub (hsub Γ'))).mono (fun b o e => by
      obtain ⟨n, e⟩ := of_mask e
      rw [mask_out n, upd_ne (ne_of_none e hn)]
      exact e))
  have e0 : addrs (startP N (args a)) = [] := addrs_dat _ _
  have eh : hid { H0 := H, M := M, W := [], b := [] } (startP N (args a)) = M := by unfold hid; rw [e0]; rfl
  refine ⟨_, pSts, hq _ H _ ⟨?_, (by rw [e0]; exact List.nodup_nil), (fun b z => nomatch z), ?_, Ex.refl _, (by rw [e0]; exact (fun b z => nomatch z)), hM, (fun b z => nomatch z), (fun b z => nomatch z)⟩ ⟨?_, ?_, fun _ _ _ _ z => z.elim, fun _ _ _ _ z => z.elim, fun _ _ _ _ _ _ _ z => z.elim⟩⟩
  · unfold L2.start startP
    rw [List.length_append, List.length_append, List.length_map, List.length_map, List.length_replicate, List.length_replicate, dv.length]
  · intro i s' hi
    rw [eh]
    unfold L2.start
    rw [dv.length]
    exact slots_dat _ dv i s' hi
  · intro Γ' c' σ' H' p S' e'
    refine k .non H' .non p ?_ .non
    have := S'.keep
    rwa [show (({ H0 := H, M := M, W := [], b := [] } : Fm)).W = [] from rfl, mask_nil, mask_nil] at this
  · intro Γ' c' σ' H' v d p S' e' dv'
    refine k v H' d p ?_ (dv'.mono (mask_sub (hsub Γ')))
    have := S'.keep
    rwa [show (({ H0 := H, M := M, W := [], b := [] } : Fm)).W = [] from rfl, mask_nil, mask_nil] at this
end
end G

set_option Elab.async false
set_option linter.all false
set_option maxRecDepth 100000
namespace G
open PySem L2 PyProof.Rows
theorem room65 {k : Nat} {A : Around} (hr : Room k A) : A.units + 65 < cLine := by have := hr.un; omega
section
variable {F : Fm} {X : Cx} {Γ : List Sl} {c : Nat} {P : Nat → Dt → Prop} {Φ : PEnds} {pos : Pos}
theorem se_neg {e : Expr} (h : SE F X Γ c e fun c1 d => ∃ i : Int, d = .int i ∧ P c1 (.int (-i))) : SE F X Γ c (.UnaryOp .USub e pos) P :=
  SE.of (pe_un un_neg pE) fun σ H Q S k => h σ H _ S fun v H1 c1 d p S1 e1 dv => by
    obtain ⟨i, rfl, p⟩ := p
    cases dv
    exact ⟨i, rfl, k _ H1 c1 _ p S1 e1 (.int _)⟩
theorem ov_inD {d : Dt} {l : List Dt} (hu : X.A.units + 65 < cLine) (f1 : Fit 64 d) (f2 : Fit 64 (.lst l)) (p : P c (.bl (l.any fun z => eqd z d))) : OpV F X Γ c (compareOp .In) d (.lst l) P :=
  OpV.of (op_inD hu) fun σ H x y Q S h1 h2 k => ⟨py d, pys l, (h1.mono (mask_ex _ _)).dp f1.pl, (h2.mono (mask_ex _ _)).dp f2.pl, f1.shaped, f2.shaped, k _ H c _ (by rw [pys_map, List.any_map]; exact p) S (Ex.refl _) (.bl _)⟩
/-- l.index(e): the place of the first equal one -/
theorem se_indexD {o e : Expr} {apos : Pos} (hu : X.A.units + 65 < cLine) (h : SE F X Γ c o fun c1 dl => ∃ l, dl = .lst l ∧ SE F X Γ c1 e fun c2 d => ∃ j z, Fit 64 d ∧ Fit 64 (.lst l) ∧ l[j]? = some z ∧ eqd z d = true ∧ (∀ m z', m < j → l[m]? = some z' → eqd z' d = false) ∧ P c2 (.int (j : Nat)))
    (hb : attributeBase o "index" X.env (eval o X.env) = eval o X.env := by rfl)
    (hall : (((backTo pos (starEach [e] X.env)).all (fun x => !x.1)) && ((backToKw pos (keywordEach [] X.env)).all (fun x => x.1.isSome)) && decide ([e].length + ([] : List Keyword).length + (if ([] : List Keyword).isEmpty = true then 0 else 1) < 30)) = true := by rfl)
    (hline : (apos.endLine == pos.line) = true := by rfl) (hst : starEach [e] X.env = (false, eval e X.env) :: starEach [] X.env := by rfl) (hpl : (backTo pos (starEach [] X.env)).any (·.1) = false := by rfl) : SE F X Γ c (.Call (.Attribute o "index" apos) [e] [] pos) P :=
  SE.of (pe_bm PySem.F.plainAttrs_list PySem.F.slot_list_index PySem.F.type_list_index (mt_indexD hu) pE (pa_cons pE pa_nil hst) hb hall hline hst hpl) fun σ H Q S k => h σ H _ S fun v H1 c1 d p S1 e1 dv => by
    obtain ⟨l, rfl, p⟩ := p
    cases id dv with
    | lst a t =>
      refine ⟨Or.inl ⟨rfl, _, .inl (.inl (of_mask a).2)⟩, p σ H1 _ S1 fun w H2 c2 d2 p2 S2 e2 dv2 => ?_⟩
      obtain ⟨j, z, f1, f2, hj, hz, hm, p2⟩ := p2
      refine ⟨_, w, py d2, pys l, j, py z, rfl, rfl, ((dv.mono e2).mono (mask_ex _ _)).dp f2.pl, (dv2.mono (mask_ex _ _)).dp f1.pl, f2.shaped, f1.shaped, by rw [pys_map, List.getElem?_map, hj]; rfl, hz, fun m z' hlt hz' => ?_, k _ H2 c2 _ p2 S2 (e1.trans e2) (.int _)⟩
      rw [pys_map, List.getElem?_map] at hz'
      cases e : l[m]? with
      | none => rw [e] at hz'; cases hz'
      | some u =>
        rw [e] at hz'
        cases hz'
        exact hm m u hlt e
/-- xs[i], xs[j] = e, xs one's own -/
theorem s_set2O (i : Nat) {x : Str} {px py' pt sp1 sp2 : Pos} {kt : Nat} {a : Addr} {l : List Dt} {ix1 ix2 e : Expr} (hc : X.calm = true) (hs : Γ[i]? = some (Sl.own a l))
    (h : SE F X Γ c e fun c1 d => ∃ d1 d2, d = .tup [d1, d2] ∧ SE F X Γ c1 ix1 fun c2 k1 => ∃ (n1 : Int) (j1 : Nat), k1 = .int n1 ∧ ixN l.length n1 = some j1 ∧ SE F X (Γ.set i (.own a (l.set j1 d1))) c2 ix2 fun c3 k2 => ∃ (n2 : Int) (j2 : Nat), k2 = .int n2 ∧ ixN l.length n2 = some j2 ∧ Φ.nx ((Γ.set i (.own a (l.set j1 d1))).set i (.own a ((l.set j1 d1).set j2 d2))) c3)
    (hN : X.N[i]? = some x := by rfl) (hv : L2.Vis X.env.scope x := by first | exact Or.inl rfl | exact Or.inr (Or.inl rfl) | exact Or.inr (Or.inr rfl)) (hd : (x == ("__debug__" : Str)) = false := by decide) (hcd : (x == ("__classdict__" : Str)) = false := by decide)
    (hga1 : ∀ v, assign (.Subscript (.Name x px) ix1 sp1) X.env v = (do
      let ov ← holding [v] (eval (.Name x px) X.env)
      let iv ← holding [v, ov] (eval ix1 X.env)
      standAt sp1
      holding [v, ov, iv] (setItem ov iv v)
      release [v, ov, iv] []) := by intro _; rfl)
    (hga2 : ∀ v, assign (.Subscript (.Name x py') ix2 sp2) X.env v = (do
      let ov ← holding [v] (eval (.Name x py') X.env)
      let iv ← holding [v, ov] (eval ix2 X.env)
      standAt sp2
      holding [v, ov, iv] (setItem ov iv v)
      release [v, ov, iv] []) := by intro _; rfl)
    (hg1 : (assignEach [.Subscript (.Name x px) ix1 sp1, .Subscript (.Name x py') ix2 sp2] X.env).map (·.2) = assign (.Subscript (.Name x px) ix1 sp1) X.env :: (assignEach [.Subscript (.Name x py') ix2 sp2] X.env).map (·.2) := by rfl)
    (hg2 : (assignEach [.Subscript (.Name x py') ix2 sp2] X.env).map (·.2) = assign (.Subscript (.Name x py') ix2 sp2) X.env :: (assignEach [] X.env).map (·.2) := by rfl)
    (hn : (assignEach [.Subscript (.Name x px) ix1 sp1, .Subscript (.Name x py') ix2 sp2] X.env).length = 2 := by rfl) (hst : (assignEach [.Subscript (.Name x px) ix1 sp1, .Subscript (.Name x py') ix2 sp2] X.env).findIdx? (·.1) = none := by rfl)
    (hsw : swapsWithSole [.Tuple [.Subscript (.Name x px) ix1 sp1, .Subscript (.Name x py') ix2 sp2] kt pt] e pos.line X.env = pure false := by rfl) (hw : swappedStores [.Tuple [.Subscript (.Name x px) ix1 sp1, .Subscript (.Name x py') ix2 sp2] kt pt] e X.env = pure none := by rfl)
    (h1 : (assignEach [.Tuple [.Subscript (.Name x px) ix1 sp1, .Subscript (.Name x py') ix2 sp2] kt pt] X.env).map (·.2) = [assign (.Tuple [.Subscript (.Name x px) ix1 sp1, .Subscript (.Name x py') ix2 sp2] kt pt) X.env] := by rfl) :
    S1 F X Γ c (.Assign [.Tuple [.Subscript (.Name x px) ix1 sp1, .Subscript (.Name x py') ix2 sp2] kt pt] e pos) Φ := by
  refine S1.of (ps_asg pE (pg_tup hc (pgs_cons (pg_sub (pe_var hN hv hd hcd) pE set_list hga1) (pgs_cons (pg_sub (pe_var hN hv hd hcd) pE set_list hga2) pgs_nil hg2) hg1) hn hst) hsw hw h1) fun σ H D S E => h σ H _ S fun v H1 c1 d p S1 e1 dv => ?_
  obtain ⟨d1, d2, rfl, p⟩ := p
  cases dv with
  | tup ha t =>
    cases t with
    | cons q1 t => cases t with
      | cons q2 t =>
        cases t
        refine ⟨_, _, rfl, ex_t (mask_ex _ _) ha, rfl, _, _, rfl, ?_⟩
        obtain ⟨z1, _⟩ := S1.sl i _ hs
        refine ⟨_, z1, p σ H1 _ S1 fun w1 H2 c2 k1 p2 S2 e2 dw => ?_⟩
        obtain ⟨n1, j1, rfl, hj1, p2⟩ := p2
        cases dw
        obtain ⟨_, ys, h4, h5⟩ := S2.sl i _ hs
        obtain ⟨S3, e3⟩ := S2.setO hs (h5.set (q1.mono e2) j1)
        refine ⟨a, ys, n1, j1, rfl, rfl, h4, by rw [h5.length]; exact hj1, ?_⟩
        refine ⟨_, _, rfl, _, z1, ?_⟩
        have hs' : (Γ.set i (Sl.own a (l.set j1 d1)))[i]? = some (Sl.own a (l.set j1 d1)) := List.getElem?_set_self (List.getElem?_eq_some_iff.mp hs).1
        refine p2 σ _ _ S3 fun w2 H3 c3 k2 p3 S4 e4 dw2 => ?_
        obtain ⟨n2, j2, rfl, hj2, p3⟩ := p3
        cases dw2
        obtain ⟨_, zs, h6, h7⟩ := S4.sl i _ hs'
        obtain ⟨S5, e5⟩ := S4.setO hs' (h7.set (q2.mono ((e2.trans e3).trans e4)) j2)
        refine ⟨a, zs, n2, j2, rfl, rfl, h6, by rw [h7.length, List.length_set]; exact hj2, rfl, ?_⟩
        exact E.nx _ c3 σ _ p3 S5 ((((e1.trans e2).trans e3).trans e4).trans e5)
end
end G

set_option Elab.async false
set_option linter.all false
set_option maxRecDepth 100000
namespace G
open PySem L2 PyProof.Rows
section
variable {F : Fm} {X : Cx} {Γ : List Sl} {c : Nat} {P : Nat → Dt → Prop} {Φ : PEnds} {pos : Pos}
/-- len of one's own list -/
theorem se_lenO (i : Nat) {x : Str} {p px : Pos} {a : Addr} {l : List Dt} (hm : X.mg "len" = none) (hs : Γ[i]? = some (Sl.own a l)) (q : P c (.int l.length)) (hN : X.N[i]? = some x := by rfl) (hv : L2.Vis X.env.scope x := by first | exact Or.inl rfl | exact Or.inr (Or.inl rfl) | exact Or.inr (Or.inr rfl))
    (hd : (x == ("__debug__" : Str)) = false := by decide) (hcd : (x == ("__classdict__" : Str)) = false := by decide) (hg : Gl X "len" := by rfl)
    (he : starEach [.Name x px] X.env = (false, eval (.Name x px) X.env) :: starEach [] X.env := by rfl) (hpl : (backTo pos (starEach [] X.env)).any (·.1) = false := by rfl) : SE F X Γ c (.Call (.Name "len" p) [.Name x px] [] pos) P :=
  SE.of (pe_callB call_len_seq hg hm PySem.boot_len (pa_cons (pe_var hN hv hd hcd) pa_nil he) (by decide) (by decide) he hpl) fun σ H Q S k => by
    obtain ⟨h1, xs, h2, h3⟩ := S.sl i _ hs
    exact ⟨_, h1, a, xs, rfl, .inl (.inl (.inl h2)), by rw [h3.length]; exact k _ H c _ q S (Ex.refl _) (.int _)⟩
/-- a call that returns a new list -/
theorem sel_fN {α : Type} {args : α → List Dt} {pre : α → Prop} {post : α → List Dt → Prop} {k : Nat} {ps : List Str} {x : Str} {p : Pos} {e : Expr} {es : List Expr} {P : Nat → List Dt → Prop}
    (D : DefOk X.prog X.w X.K X.mg X.base CX0 k x ps (spN X.K args pre post)) (hr : Room k X.A)
    (h : SA F X Γ c (e :: es) fun c1 ds => ∃ a, ds = args a ∧ pre a ∧ ∀ l, post a l → P c1 l) (hg : Gl X x := by rfl) (hdb : (x == ("__debug__" : Str)) = false := by decide)
    (he : starEach (e :: es) X.env = (false, eval e X.env) :: starEach es X.env := by rfl) (hpl : (backTo pos (starEach es X.env)).any (·.1) = false := by rfl) : SEL F X Γ c (.Call (.Name x p) (e :: es) [] pos) P := by
  obtain ⟨f, fd, h1, h2, h3, h4⟩ := D.ex
  intro σ H Q S k
  refine tE_of (pe_call h1 hr hg h2 h3 h4 .nil pass0 pAs hdb he hpl) (h σ H _ S fun vs H1 c1 ds q S1 k1 dv => ?_)
  obtain ⟨a, rfl, hp, q⟩ := q
  rw [List.append_nil]
  refine ⟨hid F Γ, a, S1.hlive, dv, hp, fun p xs H' l hl e' hn dvs => ?_⟩
  have kp : Kp F H1 H' := mask_more (M := []) (fun _ z => nomatch z) (by rw [mask_nil, mask_nil]; exact e')
  refine k p xs H' c1 l (q l hl) (S1.step kp fun b hb => ?_) (k1.trans kp.hid) hn dvs
  obtain ⟨dd, s, kk, z1, r⟩ := S1.bagAt b hb
  exact ⟨dd, s, kk, e' _ _ z1, r⟩
def NoBag (i : Nat) (Γ : List Sl) : Prop := ∀ j, j ≠ i → Γ[j]? ≠ some .bag
/-- one's own list of three is a bag from now on -/
theorem ss_toBag (i : Nat) {a : Addr} {d s k : Int} {c' : Nat} {ss : List Stmt} (hb : F.b = []) (hi : Γ[i]? = some (Sl.own a [.int d, .int s, .int k])) (h1 : 0 ≤ d) (h2 : 0 ≤ s) (h3 : s < 2147483647) (h4 : 0 ≤ k) (h5 : k ≤ (c' : Int)) (nb : NoBag i Γ)
    (h : ∀ F' : Fm, F'.b = [a] → SS F' X (Γ.set i .bag) c' ss { nx := fun Γ' _ => Φ.nx (Γ'.set i .un) 0 ∧ NoBag i Γ', rt := fun Γ' _ d => Φ.rt (Γ'.set i .un) 0 d ∧ NoBag i Γ', bk := fun Γ' _ => Φ.bk (Γ'.set i .un) 0 ∧ NoBag i Γ', ct := fun Γ' _ => Φ.ct (Γ'.set i .un) 0 ∧ NoBag i Γ' }) : SS F X Γ c ss Φ := by
  intro σ H D S E
  have nW : F.W = [] := by
    cases e : F.W with
    | nil => rfl
    | cons x l =>
      have := S.wb x (by rw [e]; exact List.mem_cons_self ..)
      rw [hb] at this; exact nomatch this
  have ha : a ∈ addrs Γ := mem_addrs hi
  have hl : i < Γ.length := (List.getElem?_eq_some_iff.mp hi).1
  obtain ⟨z1, xs, z2, z3⟩ := S.sl i _ hi
  have hx : xs = [.int d, .int s, .int k] := by
    cases z3 with
    | cons a1 t => cases t with
      | cons a2 t => cases t with
        | cons a3 t => cases t; cases a1; cases a2; cases a3; rfl
  subst hx
  have na : a ∉ addrs (Γ.set i .bag) := fun z => by
    obtain ⟨j, m, hj⟩ := addrs_mem z
    by_cases hij : i = j
    · subst hij
      rw [List.getElem?_set_self hl] at hj
      cases hj
    · rw [List.getElem?_set_ne hij] at hj
      exact hij (addrs_once S.nd hi hj)
  have back : ∀ x, x ∈ addrs Γ → x = a ∨ x ∈ addrs (Γ.set i .bag) := fun x hx => by
    obtain ⟨j, m, hj⟩ := addrs_mem hx
    by_cases hij : i = j
    · subst hij
      rw [hi] at hj
      cases hj
      exact .inl rfl
    · exact .inr (mem_addrs (i := j) (l := m) (by rw [List.getElem?_set_ne hij]; exact hj))
  -- the masks are the same
  have hh : ∀ x, x ∈ hid { F with b := [a] } (Γ.set i .bag) ↔ x ∈ hid F Γ := fun x => by
    unfold hid
    rw [hb]
    constructor
    · intro z
      rcases List.mem_append.mp z with z | z
      · exact List.mem_append_right _ (List.mem_append_left _ (by rw [List.mem_singleton.mp z]; exact ha))
      · rcases List.mem_append.mp z with z | z
        · exact List.mem_append_right _ (List.mem_append_left _ (addrs_set_free rfl z))
        · exact List.mem_append_right _ (List.mem_append_right _ z)
    · intro z
      rcases List.mem_append.mp z with z | z
      · exact nomatch z
      · rcases List.mem_append.mp z with z | z
        · rcases back x z with z | z
          · exact List.mem_append_left _ (by rw [z]; exact List.mem_singleton.mpr rfl)
          · exact List.mem_append_right _ (List.mem_append_left _ z)
        · exact List.mem_append_right _ (List.mem_append_right _ z)
  have vw : Ex (Vw F Γ H) (Vw { F with b := [a] } (Γ.set i .bag) H) := mask_sub fun x z => (hh x).mp z
  have S0 : SI X.K { F with b := [a] } (Γ.set i .bag) c' σ H := by
    refine ⟨by rw [List.length_set]; exact S.len, nodup_set_free rfl S.nd, fun b hbm z => ?_, fun j u hj => ?_, S.keep, fun x hx => S.fr x (addrs_set_free rfl hx), S.live, fun b hbm => ?_, fun x hx => ?_⟩
    · cases List.mem_singleton.mp hbm
      exact na z
    · by_cases hij : i = j
      · subst hij
        rw [List.getElem?_set_self hl] at hj
        cases hj
        exact ⟨a, rfl, z1⟩
      · rw [List.getElem?_set_ne hij] at hj
        have q := S.sl j u hj
        cases u with
        | un => exact True.intro
        | dat d => obtain ⟨v, h1, h2⟩ := q; exact ⟨v, h1, h2.mono vw⟩
        | own b m => obtain ⟨h1, xs, h2, h3⟩ := q; exact ⟨h1, xs, h2, h3.mono vw⟩
        | bag => exact absurd hj (nb j (Ne.symm hij))
    · cases List.mem_singleton.mp hbm
      exact ⟨⟨d, s, k, z2, h1, h2, h3, h4, h5⟩, .inr (S.fr a ha).1⟩
    · rw [show ({ F with b := [a] } : Fm).W = F.W from rfl, nW] at hx
      exact nomatch hx
  -- back again
  have fwd : ∀ {Γ' : List Sl} {c2 : Nat} {σ' : L2.St} {H' : Hp}, NoBag i Γ' → SI X.K { F with b := [a] } Γ' c2 σ' H' → SI X.K F (Γ'.set i .un) 0 σ' H' ∧ Ex (Vw { F with b := [a] } Γ' H') (Vw F (Γ'.set i .un) H') := fun {Γ' c2 σ' H'} nb' S' => by
    have v2 : Ex (Vw { F with b := [a] } Γ' H') (Vw F (Γ'.set i .un) H') := mask_sub fun x z => by
      unfold hid at z ⊢
      rw [hb] at z
      rcases List.mem_append.mp z with z | z
      · exact nomatch z
      · rcases List.mem_append.mp z with z | z
        · exact List.mem_append_right _ (List.mem_append_left _ (addrs_set_free rfl z))
        · exact List.mem_append_right _ (List.mem_append_right _ z)
    refine ⟨⟨by rw [List.length_set]; exact S'.len, nodup_set_free rfl S'.nd, (fun b z => by rw [hb] at z; exact nomatch z), fun j u hj => ?_, S'.keep, fun x hx => S'.fr x (addrs_set_free rfl hx), S'.live, (fun b z => by rw [hb] at z; exact nomatch z), (fun x hx => by rw [nW] at hx; exact nomatch hx)⟩, v2⟩
    by_cases hij : i = j
    · subst hij
      by_cases hl' : i < Γ'.length
      · rw [List.getElem?_set_self hl'] at hj
        cases hj
        exact True.intro
      · rw [List.getElem?_eq_none (by rw [List.length_set]; omega)] at hj
        cases hj
    · rw [List.getElem?_set_ne hij] at hj
      have q := S'.sl j u hj
      cases u with
      | un => exact True.intro
      | dat d => obtain ⟨v, h1, h2⟩ := q; exact ⟨v, h1, h2.mono v2⟩
      | own b m => obtain ⟨h1, xs, h2, h3⟩ := q; exact ⟨h1, xs, h2, h3.mono v2⟩
      | bag => exact absurd hj (nb' j (Ne.symm hij))
  refine h { F with b := [a] } rfl σ H D S0 ⟨fun Γ' c2 σ' H' p S' e' => ?_, fun Γ' c2 σ' H' v d p S' e' dv => ?_, fun Γ' c2 σ' H' p S' e' => ?_, fun Γ' c2 σ' H' p S' e' => ?_, fun _ _ _ _ _ _ _ z => z.elim⟩
  · obtain ⟨S2, e2⟩ := fwd p.2 S'
    exact E.nx _ 0 σ' H' p.1 S2 ((vw.trans e').trans e2)
  · obtain ⟨S2, e2⟩ := fwd p.2 S'
    exact E.rt _ 0 σ' H' v d p.1 S2 ((vw.trans e').trans e2) (dv.mono e2)
  · obtain ⟨S2, e2⟩ := fwd p.2 S'
    exact E.bk _ 0 σ' H' p.1 S2 ((vw.trans e').trans e2)
  · obtain ⟨S2, e2⟩ := fwd p.2 S'
    exact E.ct _ 0 σ' H' p.1 S2 ((vw.trans e').trans e2)
theorem eqd_refl {d : Dt} {n : Nat} (h : Fit n d) : eqd d d = true := SeqAt.eqv_refl _ h.lay
end
end G

set_option Elab.async false
set_option linter.all false
set_option maxRecDepth 100000
namespace K46
open PySem L2 G PyProof.Rows
def top (i : Nat) : Stmt := PySem.Challenge.pw_openlines_k46_bodies_written.main.body.getD i (.Pass ⟨0, 0, 0, 0⟩)
abbrev abc : Str := "abcdefghijklmnopqrstuvwxyz"
structure Txt (mg : Str → Option Value) : Prop where
  isi : mg "isinstance" = none
  str : mg "str" = none
  len : mg "len" = none
  all : mg "all" = none
  abs : mg "abs" = none
  tuple : mg "tuple" = none
  enumerate : mg "enumerate" = none
  range : mg "range" = none
  sorted : mg "sorted" = none
  max : mg "max" = none
  min : mg "min" = none
  bool : mg "bool" = none
  LETTERS : ∃ t, mg "LETTERS" = some (.str abc t)
  MOST_LETTERS : ∃ t, mg "MOST_LETTERS" = some (.int 8 t)
  MOST_ROWS : ∃ t, mg "MOST_ROWS" = some (.int 6 t)
  SAY : ∃ t, mg "SAY" = some (.str "say" t)
  NEXT : ∃ t, mg "NEXT" = some (.str "next" t)
  CALL : ∃ t, mg "CALL" = some (.str "call" t)
  NO_ROWS : ∃ t, mg "NO_ROWS" = some (.str "-" t)
  ROW_GAP : ∃ t, mg "ROW_GAP" = some (.str ", " t)
theorem mod_lt {a b : Int} (h : 0 < b) : 0 ≤ a % b ∧ a % b < b := ⟨Int.emod_nonneg a (by omega), Int.emod_lt_of_pos a h⟩
theorem atI_nat' {α : Type} {l : List α} {i : Int} (h0 : 0 ≤ i) (h1 : i < l.length) : ∃ d, atI l i = some d ∧ d ∈ l := by
  unfold atI ixN
  rw [if_pos h0, if_pos h1]
  have hl : i.toNat < l.length := by omega
  exact ⟨l[i.toNat], List.getElem?_eq_getElem hl, List.getElem_mem hl⟩
section
variable {P : Program} {w : World} {K : PySem.W.Frag} {mg : Str → Option Value} {base : Heap}
/-! the bag -/
abbrev sBag : Stmt := top 17
theorem scBag : FnScope ["_law_script", "_law_at", "_law_cell", "_law_digits"] ["_law_script", "_law_at"] (defScope sBag) := ⟨rfl, rfl, rfl, by decide +kernel, rfl, by decide +kernel, by decide +kernel⟩
theorem ok_bag {f : Addr} {fd : FuncData} (Fu : Fun K "_law_bag" "_law_bag" sBag f fd) (T : Txt mg) :
    FnOk P w K mg base CX0 1 f fd ["_law_script", "_law_at"] (spN K (fun x : List Int × Int => [.fzl (x.1.map .int), .int x.2]) (fun x => 0 ≤ x.2 ∧ x.2 < 1000)
      (fun _ l => ∃ d s : Int, l = [.int d, .int s, .int 0] ∧ 0 ≤ d ∧ 0 ≤ s ∧ s < 2147483647)) := by
  refine fn_N Fu scBag (fun a => rfl) (fun cdv A outer s H E F x hp hr hF => ?_)
  obtain ⟨ns, i⟩ := x
  obtain ⟨h0, h1⟩ := hp
  simp only at h0 h1
  have key2 : ∀ n m : Int, 0 ≤ m → SS F (cxOf CX0 P w K mg base ["_law_script", "_law_at", "_law_cell", "_law_digits"] "_law_bag" (defScope sBag) f cdv A outer s H E).nox (((startP ["_law_script", "_law_at", "_law_cell", "_law_digits"] [.fzl (ns.map .int), .int i]).set 2 (.dat (.int n))).set 3 (.dat (.int m))) 0 ((defBody sBag).drop 2)
        { nx := fun _ _ => False, rt := fun _ _ _ => False, rl := fun _ _ l => ∃ d s : Int, l = [.int d, .int s, .int 0] ∧ 0 ≤ d ∧ 0 ≤ s ∧ s < 2147483647 } := by
    intro n m hm
    have hn := mod_lt (a := n) (b := 2147483647) (by decide)
    have hb : (n % 2147483647 + 7121 * i + 11).natAbs < 2 ^ 64 := by omega
    have hx := mod_lt (a := (n % 2147483647 + 7121 * i + 11) ^ (3 : Int).toNat) (b := 2147483629) (by decide)
    refine ss_one ?_
    refine s_retL ?_
    refine sel_lst ?_
    refine sa_cons ?_
    refine se_var 3 rfl ?_
    refine sa_cons ?_
    refine se_bin ?_
    refine se_bin ?_
    refine se_bin ?_
    refine se_bin ?_
    refine se_bin ?_
    refine se_var 2 rfl ?_
    refine se_int ?_
    refine ov_mod (by decide) ?_
    refine se_bin ?_
    refine se_int ?_
    refine se_var 1 rfl ?_
    refine ov_mul (.inl ⟨by decide, by decide⟩) ?_
    refine ov_add ?_
    refine se_int ?_
    refine ov_add ?_
    refine se_int ?_
    refine ov_pow ⟨by decide, by decide, hb⟩ ?_
    refine se_int ?_
    refine ov_mod (by decide) ?_
    refine sa_cons ?_
    refine se_int ?_
    refine sa_nil ?_
    exact ⟨by show 3 ≤ sizeLine; decide, m, _, rfl, hm, hx.1, by omega⟩
  have key : ∀ n : Int, SS F (cxOf CX0 P w K mg base ["_law_script", "_law_at", "_law_cell", "_law_digits"] "_law_bag" (defScope sBag) f cdv A outer s H E).nox ((startP ["_law_script", "_law_at", "_law_cell", "_law_digits"] [.fzl (ns.map .int), .int i]).set 2 (.dat (.int n))) 0 ((defBody sBag).drop 1)
      { nx := fun _ _ => False, rt := fun _ _ _ => False, rl := fun _ _ l => ∃ d s : Int, l = [.int d, .int s, .int 0] ∧ 0 ≤ d ∧ 0 ≤ s ∧ s < 2147483647 } := by
    intro n
    refine ss_cons ?_
    refine s_set 3 scBag.nd ?_
    refine se_if ?_
    refine st_cmp ?_
    refine se_callB (id := "abs") T.abs ?_
    refine sa_cons ?_
    refine se_var 2 rfl ?_
    refine sa_nil ?_
    refine cv_abs ?_
    refine se_bin ?_
    refine se_int ?_
    refine se_int ?_
    refine ov_pow ⟨by decide, by decide, by decide⟩ ?_
    refine ov_ge ?_
    refine ⟨_, rfl, ?_⟩
    refine ite2 (fun h => ?_) (fun h => ?_)
    · refine se_callB (id := "abs") T.abs ?_
      refine sa_cons ?_
      refine se_var 2 rfl ?_
      refine sa_nil ?_
      refine cv_abs ?_
      exact key2 n _ (by split <;> omega)
    · refine se_int ?_
      exact key2 n 0 (by decide)
  refine ss_cons ?_
  refine s_set 2 scBag.nd ?_
  refine se_if ?_
  refine st_cmp ?_
  refine se_var 1 rfl ?_
  refine se_callB (id := "len") T.len ?_
  refine sa_cons ?_
  refine se_var 0 rfl ?_
  refine sa_nil ?_
  refine cv_lenF ?_
  refine ov_lt ?_
  refine ⟨_, rfl, ?_⟩
  refine ite2 (fun h => ?_) (fun h => ?_)
  · refine se_ix ?_
    refine se_var 0 rfl ?_
    refine se_var 1 rfl ?_
    have h := of_decide_eq_true h
    obtain ⟨d, hd, hm⟩ := atI_nat' (l := ns.map Dt.int) h0 (by simpa using h)
    obtain ⟨n, _, rfl⟩ := List.mem_map.mp hm
    exact iv_fzl hd (key n)
  · refine se_int ?_
    exact key 0
abbrev sTake : Stmt := top 18
theorem scTake : FnScope ["_law_bag_here", "_law_many", "_law_digit"] ["_law_bag_here", "_law_many"] (defScope sTake) := ⟨rfl, rfl, rfl, by decide +kernel, rfl, by decide +kernel, by decide +kernel⟩
theorem ok_take {f : Addr} {fd : FuncData} (Fu : Fun K "_law_take" "_law_take" sTake f fd) :
    FnOk P w K mg base CX0 1 f fd ["_law_bag_here", "_law_many"] (spB K (fun n : Int => [.int n]) (fun n => 0 < n ∧ n < 1000000) (fun _ => 1) (fun n z => ∃ k, z = .int k ∧ 0 ≤ k ∧ k < n)) := by
  refine fn_T Fu scTake (fun a => rfl) (fun cdv A outer s H E F n c b d s' k' hp hr hF hc h1 h2 h3 h4 h5 => ?_)
  obtain ⟨hn0, hn1⟩ := hp
  have hc' : (c : Int) + 1 ≤ 1000000000 := by have : c + 1 ≤ 1000000000 := hc; omega
  refine ss_cons ?_
  refine s_if ?_
  refine st_cmp ?_
  refine se_ixO 0 rfl ?_
  refine se_int ?_
  refine ⟨0, _, rfl, rfl, ?_⟩
  refine se_int ?_
  refine ov_gt ?_
  refine ⟨_, rfl, ?_⟩
  refine ite2 (fun h => ?_) (fun h => ?_)
  · have hd : 0 < d := of_decide_eq_true h
    refine ss_cons ?_
    refine s_set 2 scTake.nd ?_
    refine se_bin ?_
    refine se_ixO 0 rfl ?_
    refine se_int ?_
    refine ⟨0, _, rfl, rfl, ?_⟩
    refine se_var 1 rfl ?_
    refine ov_mod hn0 ?_
    refine ss_cons ?_
    refine s_setO 0 rfl ?_
    refine se_bin ?_
    refine se_ixO 0 rfl ?_
    refine se_int ?_
    refine ⟨0, _, rfl, rfl, ?_⟩
    refine se_var 1 rfl ?_
    refine ov_div ⟨hn0, by omega⟩ ?_
    refine se_int ?_
    refine ⟨0, 0, rfl, rfl, ?_⟩
    refine ss_one ?_
    refine s_ret ?_
    refine se_var 2 rfl ?_
    exact ⟨⟨_, rfl, mod_lt hn0⟩, d / n, s', k', rfl, Int.ediv_nonneg (by omega) (by omega), h2, h3, h4, by omega⟩
  · refine ss_nil ?_
    refine ss_cons ?_
    refine s_setO 0 rfl ?_
    refine se_bin ?_
    refine se_ixO 0 rfl ?_
    refine se_int ?_
    refine ⟨2, _, rfl, rfl, ?_⟩
    refine se_int ?_
    refine ov_add ?_
    refine se_int ?_
    refine ⟨2, 2, rfl, rfl, ?_⟩
    refine ss_cons ?_
    refine s_setO 0 rfl ?_
    refine se_bin ?_
    refine se_bin ?_
    refine se_bin ?_
    refine se_bin ?_
    refine se_ixO 0 rfl ?_
    refine se_int ?_
    refine ⟨1, _, rfl, rfl, ?_⟩
    refine se_int ?_
    refine ov_mul (.inr ⟨by decide, by decide⟩) ?_
    refine se_bin ?_
    refine se_bin ?_
    refine se_int ?_
    refine se_ixO 0 rfl ?_
    refine se_int ?_
    refine ⟨2, _, rfl, rfl, ?_⟩
    refine ov_mul (.inl ⟨by decide, by decide⟩) ?_
    refine se_ixO 0 rfl ?_
    refine se_int ?_
    refine ⟨2, _, rfl, rfl, ?_⟩
    refine ov_mul (.inr ⟨by omega, by omega⟩) ?_
    refine ov_add ?_
    refine se_int ?_
    refine ov_add ?_
    refine se_int ?_
    refine ov_mod (by decide) ?_
    refine se_int ?_
    refine ⟨1, 1, rfl, rfl, ?_⟩
    have hm := mod_lt (a := s' * 48271 + 6607 * (k' + 1) * (k' + 1) + 5) (b := 2147483647) (by decide)
    have hb : ((s' * 48271 + 6607 * (k' + 1) * (k' + 1) + 5) % 2147483647 / 16).natAbs < 2 ^ 64 := by omega
    refine ss_one ?_
    refine s_ret ?_
    refine se_bin ?_
    refine se_bin ?_
    refine se_bin ?_
    refine se_bin ?_
    refine se_ixO 0 rfl ?_
    refine se_int ?_
    refine ⟨1, _, rfl, rfl, ?_⟩
    refine se_int ?_
    refine ov_div ⟨by decide, by decide⟩ ?_
    refine se_int ?_
    refine ov_pow ⟨by decide, by decide, hb⟩ ?_
    refine se_int ?_
    refine ov_mod (by decide) ?_
    refine se_var 1 rfl ?_
    refine ov_mod hn0 ?_
    exact ⟨⟨_, rfl, mod_lt hn0⟩, d, _, _, rfl, h1, hm.1, hm.2, by omega, by omega⟩
end
end K46

set_option Elab.async false
set_option linter.all false
set_option maxRecDepth 100000
namespace K46
open PySem L2 G PyProof.Rows
/-! names -/
def nameC (s : Str) : Bool := decide (1 ≤ (s.length : Int)) && (decide ((s.length : Int) ≤ 8) && s.cps.toList.all fun a => decide (a ∈ abc.cps.toList))
theorem nameC_iff {s : Str} : nameC s = true ↔ 1 ≤ s.length ∧ s.length ≤ 8 ∧ ∀ a ∈ s.cps.toList, a ∈ abc.cps.toList := by
  unfold nameC
  simp only [Bool.and_eq_true, decide_eq_true_eq, List.all_eq_true]
  constructor
  · rintro ⟨h1, h2, h3⟩; exact ⟨by omega, by omega, h3⟩
  · rintro ⟨h1, h2, h3⟩; exact ⟨by omega, by omega, h3⟩
section
variable {P : Program} {w : World} {K : PySem.W.Frag} {mg : Str → Option Value} {base : Heap}
abbrev DTake (P : Program) (w : World) (K : PySem.W.Frag) (mg : Str → Option Value) (base : Heap) : Prop := DefOk P w K mg base CX0 1 "_law_take" ["_law_bag_here", "_law_many"] (spB K (fun n : Int => [.int n]) (fun n => 0 < n ∧ n < 1000000) (fun _ => 1) (fun n z => ∃ k, z = .int k ∧ 0 ≤ k ∧ k < n))
abbrev sNames : Stmt := top 19
abbrev nNames : List Str := ["_law_bag_here", "_law_many", "_law_letters", "_law_size", "_law_spot", "_law_first", "_law_base", "_law_own", "_law_k", "_law_one"]
theorem scNames : FnScope nNames ["_law_bag_here", "_law_many"] (defScope sNames) := ⟨rfl, rfl, rfl, by decide +kernel, rfl, by decide +kernel, by decide +kernel⟩
def lett (s : Str) : Prop := s.length = 1 ∧ ∀ a ∈ s.cps.toList, a ∈ abc.cps.toList
theorem pick_abc {k : Int} (h0 : 0 ≤ k) (h1 : k < 26) : ∃ a, atI abc.cps.toList k = some a ∧ a ∈ abc.cps.toList := atI_nat' h0 (by rw [show abc.cps.toList.length = 26 from by decide +kernel]; omega)
theorem lett_sign {a : Nat} (h : a ∈ abc.cps.toList) : lett ⟨#[a]⟩ := ⟨rfl, fun b hb => by simp at hb; subst hb; exact h⟩
theorem ok_names {f : Addr} {fd : FuncData} (Fu : Fun K "_law_names" "_law_names" sNames f fd) (T : Txt mg) (DT : DTake P w K mg base) :
    FnOk P w K mg base CX0 2 f fd ["_law_bag_here", "_law_many"] (spB K (fun n : Int => [.int n]) (fun n => 0 ≤ n ∧ n ≤ 10) (fun _ => 10) (fun n z => ∃ l : List Str, z = .lst (l.map .str) ∧ (l.length : Int) = n ∧ ∀ x ∈ l, nameC x = true)) := by
  refine fn_B Fu scNames (fun a => rfl) (fun cdv A outer s H E F n c b hp hr hF hc => ?_)
  obtain ⟨hn0, hn1⟩ := hp
  have hl : c + 10 ≤ LIM := hc
  refine ss_cons ?_
  refine s_set 2 scNames.nd ?_
  refine se_str ?_
  refine ss_cons ?_
  refine s_asg ?_
  refine se_tup ?_
  refine sa_cons ?_
  refine se_ix ?_
  refine se_tup ?_
  refine sa_cons ?_
  refine se_int ?_
  refine sa_cons ?_
  refine se_int ?_
  refine sa_cons ?_
  refine se_int ?_
  refine sa_cons ?_
  refine se_int ?_
  refine sa_cons ?_
  refine se_int ?_
  refine sa_nil ?_
  refine ⟨by show 5 ≤ sizeLine; decide, ?_⟩
  refine se_fB 0 DT (hr.mono (by decide)) rfl ?_
  refine sa_cons ?_
  refine se_int ?_
  refine sa_nil ?_
  refine ⟨5, rfl, ⟨by decide, by decide⟩, by show c + 1 ≤ LIM; omega, ?_⟩
  rintro _ ⟨k, rfl, hk0, hk1⟩
  obtain ⟨m, hm, hm0, hm1⟩ : ∃ m : Int, atI [Dt.int 0, .int 0, .int 1, .int 3, .int 7] k = some (.int m) ∧ 0 ≤ m ∧ m ≤ 7 := by
    have hk : k = 0 ∨ k = 1 ∨ k = 2 ∨ k = 3 ∨ k = 4 := by omega
    rcases hk with rfl | rfl | rfl | rfl | rfl
    · exact ⟨0, rfl, by decide, by decide⟩
    · exact ⟨0, rfl, by decide, by decide⟩
    · exact ⟨1, rfl, by decide, by decide⟩
    · exact ⟨3, rfl, by decide, by decide⟩
    · exact ⟨7, rfl, by decide, by decide⟩
  refine iv_tup hm ?_
  refine sa_cons ?_
  refine se_fB 0 DT (hr.mono (by decide)) rfl ?_
  refine sa_cons ?_
  refine se_int ?_
  refine sa_nil ?_
  refine ⟨2, rfl, ⟨by decide, by decide⟩, by show c + 1 + 1 ≤ LIM; omega, ?_⟩
  rintro _ ⟨sp, rfl, hs0, hs1⟩
  refine sa_nil ?_
  refine ⟨by show 2 ≤ sizeLine; decide, ?_⟩
  refine sg_tup rfl ?_
  refine sgs_cons  ?_
  refine sg_name 3 scNames.nd ?_
  refine sgs_cons  ?_
  refine sg_name 4 scNames.nd ?_
  refine sgs_nil  ?_
  refine ss_cons ?_
  refine s_asg ?_
  refine se_tup ?_
  refine sa_cons ?_
  refine se_fB 0 DT (hr.mono (by decide)) rfl ?_
  refine sa_cons ?_
  refine se_int ?_
  refine sa_nil ?_
  refine ⟨26, rfl, ⟨by decide, by decide⟩, by show c + 1 + 1 + 1 ≤ LIM; omega, ?_⟩
  rintro _ ⟨fi, rfl, hf0, hf1⟩
  refine sa_cons ?_
  refine se_join ?_
  refine se_str ?_
  refine ⟨_, rfl, ?_⟩
  refine SEL.se ?_
  refine sel_lc 8 rfl scNames.nd (blkOk_by (own := [("_law_k", 8)]) (N := nNames) (sc := defScope sNames) (by decide +kernel)) rfl rfl ?_
  refine sw_range T.range ?_
  refine se_var 3 rfl ?_
  refine ⟨m, rfl, by omega, by omega, ?_, fun i c' acc => c' ≤ c + 3 + i ∧ ∃ l : List Str, acc = l.map .str ∧ l.length = i ∧ ∀ x ∈ l, lett x, ⟨by omega, [], rfl, rfl, fun x hx => nomatch hx⟩, ?_, ?_⟩
  · unfold idxs; rw [List.length_map, List.length_range]; exact Nat.le_trans (show m.toNat ≤ 7 by omega) (by decide)
  · rintro i d c' acc hd ⟨hc', l, rfl, hl', hx⟩ F' s0 H0 C cl fp hF'
    have hi : i < 7 := by
      have := (List.getElem?_eq_some_iff.mp hd).1
      unfold idxs at this; rw [List.length_map, List.length_range] at this; omega
    refine se_ix ?_
    refine se_var 2 rfl ?_
    refine se_fB 0 DT (hr.mono (by decide)) rfl ?_
    refine sa_cons ?_
    refine se_int ?_
    refine sa_nil ?_
    refine ⟨26, rfl, ⟨by decide, by decide⟩, by show c' + 1 ≤ LIM; omega, ?_⟩
    rintro _ ⟨k', rfl, hk0', hk1'⟩
    obtain ⟨a, ha, ham⟩ := pick_abc hk0' hk1'
    refine iv_str (by decide +kernel) ha ⟨by show c' + 1 ≤ _; omega, l ++ [⟨#[a]⟩], by rw [List.map_append]; rfl, by rw [List.length_append, hl']; rfl, fun x hx' => ?_⟩
    rcases List.mem_append.mp hx' with h | h
    · exact hx x h
    · rw [List.mem_singleton.mp h]; exact lett_sign ham
  · rintro c' acc ⟨hc', l, rfl, hl', hx⟩
    have hi : (idxs m.toNat).length = m.toNat := by unfold idxs; rw [List.length_map, List.length_range]
    rw [hi] at hc' hl'
    have hjl : tl (Txt.join "" l) = (l.map tl).flatten := tl_join0 rfl l
    have hbl : (Txt.join "" l).length ≤ 7 := by
      rw [len_tl, hjl, List.length_flatten, List.map_map]
      have : (l.map (List.length ∘ tl)).sum ≤ l.length := by
        clear hl' hjl
        induction l with
        | nil => exact Nat.le_refl _
        | cons x l ih =>
          have h1 := (hx x (List.mem_cons_self ..)).1
          have h2 := ih fun y hy => hx y (List.mem_cons_of_mem _ hy)
          rw [len_tl] at h1
          rw [List.map_cons, List.sum_cons, List.length_cons]
          show (tl x).length + _ ≤ _
          omega
      omega
    have hbm : ∀ a ∈ tl (Txt.join "" l), a ∈ tl abc := fun a ha => by
      rw [hjl] at ha
      obtain ⟨p, hp, ha⟩ := List.mem_flatten.mp ha
      obtain ⟨x, hx', rfl⟩ := List.mem_map.mp hp
      exact (hx x hx').2 a ha
    refine ⟨l, rfl, ?_, ?_⟩
    · have : (l.map (·.length)).sum ≤ 7 := by
        have e : (l.map (·.length)) = l.map (List.length ∘ tl) := List.map_congr_left fun x _ => len_tl x
        rw [len_tl, hjl, List.length_flatten, List.map_map] at hbl
        rw [e]; exact hbl
      show _ + l.length * 0 ≤ _
      omega
    generalize Txt.join "" l = bs at hbl hbm
    refine sa_nil ?_
    refine ⟨by show 2 ≤ sizeLine; decide, ?_⟩
    refine sg_tup rfl ?_
    refine sgs_cons  ?_
    refine sg_name 5 scNames.nd ?_
    refine sgs_cons  ?_
    refine sg_name 6 scNames.nd ?_
    refine sgs_nil  ?_
    refine ss_cons ?_
    refine s_setT 7 (ps_lc 7 8 rfl scNames.nd (blkOk_by (own := [("_law_k", 8)]) (N := nNames) (sc := defScope sNames) (by decide +kernel))) (lct_lc 8 rfl rfl ?_)
    refine sw_range T.range ?_
    refine se_var 1 rfl ?_
    refine ⟨n, rfl, by omega, by omega, ?_, fun i c2 acc => c2 = c' ∧ ∃ l : List Str, acc = l.map .str ∧ l.length = i ∧ ∀ x ∈ l, lett x, ⟨rfl, [], rfl, rfl, fun x hx => nomatch hx⟩, ?_, ?_⟩
    · unfold idxs; rw [List.length_map, List.length_range]; exact Nat.le_trans (show n.toNat ≤ 10 by omega) (by decide)
    · rintro i d c2 acc hd ⟨rfl, l2, rfl, hl2, hx2⟩ F' s0 H0 C cl fp hF'
      obtain ⟨kk, rfl⟩ : ∃ kk : Nat, d = .int (kk : Int) := by
        have := List.mem_of_getElem? hd
        unfold idxs at this
        obtain ⟨kk, _, rfl⟩ := List.mem_map.mp this
        exact ⟨kk, rfl⟩
      have hmod := mod_lt (a := fi + 7 * (kk : Int)) (b := 26) (by decide)
      obtain ⟨a, ha, ham⟩ := pick_abc hmod.1 hmod.2
      refine se_ix ?_
      refine se_var 2 rfl ?_
      refine se_bin ?_
      refine se_bin ?_
      refine se_var 5 rfl ?_
      refine se_bin ?_
      refine se_int ?_
      refine se_var 8 rfl ?_
      refine ov_mul (.inl ⟨by decide, by decide⟩) ?_
      refine ov_add ?_
      refine se_int ?_
      refine ov_mod (by decide) ?_
      refine iv_str (by decide +kernel) ha ⟨rfl, l2 ++ [⟨#[a]⟩], by rw [List.map_append]; rfl, by rw [List.length_append, hl2]; rfl, fun x hx' => ?_⟩
      rcases List.mem_append.mp hx' with h | h
      · exact hx2 x h
      · rw [List.mem_singleton.mp h]; exact lett_sign ham
    · rintro c2 acc ⟨rfl, l2, rfl, hl2, hx2⟩
      have hi2 : (idxs n.toNat).length = n.toNat := by unfold idxs; rw [List.length_map, List.length_range]
      rw [hi2] at hl2
      refine ss_one ?_
      refine s_ret ?_
      refine SEL.se ?_
      refine sel_lc 9 rfl scNames.nd (blkOk_by (own := [("_law_one", 9)]) (N := nNames) (sc := defScope sNames) (by decide +kernel)) rfl rfl (map_sw (fun d => match d with | .str x => .str (if sp = 0 then bs ++ x else x ++ bs) | _ => .non) ?_)
      refine sw_lst ?_
      refine se_var 7 rfl ?_
      refine ⟨_, rfl, ?_, ?_, ?_⟩
      · rw [List.length_map, hl2]; exact Nat.le_trans (show n.toNat ≤ 10 by omega) (by decide)
      · rintro d hd F' s0 H0 C cl fp hF'
        obtain ⟨x, hx', rfl⟩ := List.mem_map.mp hd
        have hxl := (hx2 x hx').1
        have hz : bs.length + x.length ≤ sizeLine := Nat.le_trans (show _ ≤ 8 by omega) (by decide)
        refine se_if ?_
        refine st_cmp ?_
        refine se_var 4 rfl ?_
        refine se_int ?_
        refine ov_eqI ?_
        refine ⟨_, rfl, ?_⟩
        refine ite2 (fun h => ?_) (fun h => ?_)
        · refine se_bin ?_
          refine se_var 6 rfl ?_
          refine se_var 9 rfl ?_
          refine ov_addS hz ?_
          exact ⟨rfl, by show _ = Dt.str _; rw [if_pos (of_decide_eq_true h)]⟩
        · refine se_bin ?_
          refine se_var 9 rfl ?_
          refine se_var 6 rfl ?_
          refine ov_addS (by omega) ?_
          exact ⟨rfl, by show _ = Dt.str _; rw [if_neg fun z => h (decide_eq_true z)]⟩
      · refine ⟨by show c2 ≤ c + 10; omega, l2.map fun x => if sp = 0 then bs ++ x else x ++ bs, ?_, by rw [List.length_map]; omega, fun y hy => ?_⟩
        · rw [List.map_map, List.map_map]; rfl
        · obtain ⟨x, hx', rfl⟩ := List.mem_map.mp hy
          have h1 := hx2 x hx'
          rw [nameC_iff]
          split
          · rw [len_app]
            refine ⟨by have := h1.1; omega, by have := h1.1; omega, fun a ha => ?_⟩
            have ha : a ∈ tl (bs ++ x) := ha
            rw [tl_app] at ha
            rcases List.mem_append.mp ha with z | z
            · exact hbm a z
            · exact h1.2 a z
          · rw [len_app]
            refine ⟨by have := h1.1; omega, by have := h1.1; omega, fun a ha => ?_⟩
            have ha : a ∈ tl (x ++ bs) := ha
            rw [tl_app] at ha
            rcases List.mem_append.mp ha with z | z
            · exact h1.2 a z
            · exact hbm a z
end
end K46

set_option Elab.async false
set_option linter.all false
set_option maxRecDepth 100000
set_option maxHeartbeats 4000000
namespace K46
open PySem L2 G PyProof.Rows
def oddW : List Str := ["kind", "body", "say", "next", "call", "none", "add", "drop", "undo", "make", "ok"]
theorem oddW_ok : ∀ x ∈ oddW, nameC x = true := by decide +kernel
theorem name_asc {s : Str} (h : nameC s = true) : Asc 8 s := by
  rw [nameC_iff] at h
  refine ⟨h.2.1, fun a ha => ?_⟩
  have h1 := h.2.2 a ha
  have h2 : ∀ a ∈ abc.cps.toList, a < 128 := by decide +kernel
  exact h2 a h1
inductive R | nx | say (s : Str) | cl (s : Str)
def encR : R → Dt
  | .nx => .tup [.str "next"]
  | .say s => .tup [.str "say", .str s]
  | .cl s => .tup [.str "call", .str s]
def okR (call : Str) : R → Prop
  | .nx => True
  | .say s => nameC s = true
  | .cl s => nameC s = true ∧ tl call < tl s
section
variable {P : Program} {w : World} {K : PySem.W.Frag} {mg : Str → Option Value} {base : Heap}
abbrev sOdd : Stmt := top 21
abbrev nOdd : List Str := ["_law_bag_here", "_law_names_here", "_law_words", "_law_at"]
theorem scOdd : FnScope nOdd ["_law_bag_here", "_law_names_here"] (defScope sOdd) := ⟨rfl, rfl, rfl, by decide +kernel, rfl, by decide +kernel, by decide +kernel⟩
theorem ok_odd {f : Addr} {fd : FuncData} (Fu : Fun K "_law_odd_names" "_law_odd_names" sOdd f fd) (T : Txt mg) (DT : DTake P w K mg base) :
    FnOk P w K mg base CX0 2 f fd ["_law_bag_here", "_law_names_here"] (spB K (fun l : List Str => [.lst (l.map .str)]) (fun l => l.length ≤ 11 ∧ ∀ x ∈ l, nameC x = true) (fun _ => 2) (fun l z => ∃ l' : List Str, z = .lst (l'.map .str) ∧ l'.length = l.length ∧ ∀ x ∈ l', nameC x = true)) := by
  refine fn_B Fu scOdd (fun a => rfl) (fun cdv A outer s H E F l c b hp hr hF hc => ?_)
  obtain ⟨hl, hx⟩ := hp
  have hc : c + 2 ≤ LIM := hc
  refine ss_cons ?_
  refine s_set 2 scOdd.nd ?_
  refine se_lst ?_
  refine sa_cons ?_
  refine se_str ?_
  refine sa_cons ?_
  refine se_str ?_
  refine sa_cons ?_
  refine se_str ?_
  refine sa_cons ?_
  refine se_str ?_
  refine sa_cons ?_
  refine se_str ?_
  refine sa_cons ?_
  refine se_str ?_
  refine sa_cons ?_
  refine se_str ?_
  refine sa_cons ?_
  refine se_str ?_
  refine sa_cons ?_
  refine se_str ?_
  refine sa_cons ?_
  refine se_str ?_
  refine sa_cons ?_
  refine se_str ?_
  refine sa_nil ?_
  refine ⟨by show 11 ≤ sizeLine; decide, ?_⟩
  refine ss_cons ?_
  refine s_if ?_
  refine st_cmp ?_
  refine se_fB 0 DT (hr.mono (by decide)) rfl ?_
  refine sa_cons ?_
  refine se_int ?_
  refine sa_nil ?_
  refine ⟨3, rfl, ⟨by decide, by decide⟩, by show c + 1 ≤ LIM; omega, ?_⟩
  rintro _ ⟨k, rfl, hk0, hk1⟩
  refine se_int ?_
  refine ov_gt ?_
  refine ⟨_, rfl, ?_⟩
  refine ite2 (fun h => ?_) (fun h => ?_)
  · refine ss_one ?_
    refine s_ret ?_
    refine se_var 1 rfl ?_
    exact ⟨by show c + 1 ≤ c + 2; omega, l, rfl, rfl, hx⟩
  · refine ss_nil ?_
    refine ss_cons ?_
    refine s_set 3 scOdd.nd ?_
    refine se_fB 0 DT (hr.mono (by decide)) rfl ?_
    refine sa_cons ?_
    refine se_int ?_
    refine sa_nil ?_
    refine ⟨11, rfl, ⟨by decide, by decide⟩, by show c + 1 + 1 ≤ LIM; omega, ?_⟩
    rintro _ ⟨at_, rfl, ha0, ha1⟩
    refine ss_one ?_
    refine s_ret ?_
    refine se_slice ?_
    refine se_bin ?_
    refine se_slice ?_
    refine se_var 2 rfl ?_
    refine so_some ?_
    refine se_var 3 rfl ?_
    refine ⟨_, rfl, ?_⟩
    refine so_none ?_
    refine sv_lst (l := oddW.map .str) ?_
    rw [cutD_map, cutD_from _ ha0]
    refine se_slice ?_
    refine se_var 2 rfl ?_
    refine so_none ?_
    refine so_some ?_
    refine se_var 3 rfl ?_
    refine ⟨_, rfl, ?_⟩
    refine sv_lst (l := oddW.map .str) ?_
    rw [cutD_map, cutD_to _ ha0]
    have hdl : (oddW.drop at_.toNat ++ oddW.take at_.toNat).length = 11 := by
      rw [List.length_append, List.length_drop, List.length_take]
      have : oddW.length = 11 := rfl
      omega
    refine ov_cat (by rw [List.length_map, List.length_map, ← List.length_append, hdl]; decide) ?_
    rw [← List.map_append]
    refine so_none ?_
    refine so_some ?_
    refine se_callB (id := "len") T.len ?_
    refine sa_cons ?_
    refine se_var 1 rfl ?_
    refine sa_nil ?_
    refine cv_len (l := l.map .str) rfl ⟨_, rfl, ?_⟩
    refine sv_lst ?_
    rw [cutD_map, cutD_to _ (by omega), List.length_map]
    refine ⟨by show c + 1 + 1 ≤ c + 2; omega, _, rfl, by rw [List.length_take, hdl]; omega, fun x hx' => ?_⟩
    rcases List.mem_append.mp (List.mem_of_mem_take hx') with h | h
    · exact oddW_ok x (List.mem_of_mem_drop h)
    · exact oddW_ok x (List.mem_of_mem_take h)
end
end K46

set_option Elab.async false
set_option linter.all false
set_option maxRecDepth 100000
set_option maxHeartbeats 4000000
namespace K46
open PySem L2 G PyProof.Rows
theorem names_fit {l : List Str} (h : ∀ x ∈ l, nameC x = true) : Fit 64 (.lst (l.map .str)) := (fit_lst (n := 0) fun d hd => by
  obtain ⟨x, hx, rfl⟩ := List.mem_map.mp hd
  exact fit_str (name_asc (h x hx)).ok).mono (by decide)
theorem nil_fit : Fit 64 (.lst []) := (fit_lst (n := 0) fun d hd => absurd hd (by simp)).mono (by decide)
theorem tnil_fit : Fit 64 (.tup []) := (fit_tup (n := 0) fun d hd => absurd hd (by simp)).mono (by decide)
def gtQ (call : Str) : Dt → Bool
  | .str x => decide (tl call < tl x)
  | _ => false
theorem gtQ_filter (call : Str) (l : List Str) : ((l.map Dt.str).filter (gtQ call)).map id = (l.filter fun x => decide (tl call < tl x)).map Dt.str := by
  rw [List.map_id, List.filter_map]
  rfl
section
variable {P : Program} {w : World} {K : PySem.W.Frag} {mg : Str → Option Value} {base : Heap}
abbrev sBody : Stmt := top 20
abbrev nBody : List Str := ["_law_bag_here", "_law_call", "_law_calls", "_law_words", "_law_later", "_law_rows", "_law_turn", "_law_way", "_law_one"]
theorem scBody : FnScope nBody ["_law_bag_here", "_law_call", "_law_calls", "_law_words"] (defScope sBody) := ⟨rfl, rfl, rfl, by decide +kernel, rfl, by decide +kernel, by decide +kernel⟩
theorem ok_body {f : Addr} {fd : FuncData} (Fu : Fun K "_law_body" "_law_body" sBody f fd) (T : Txt mg) (DT : DTake P w K mg base) :
    FnOk P w K mg base CX0 2 f fd ["_law_bag_here", "_law_call", "_law_calls", "_law_words"] (spB K (fun x : Str × List Str × List Str => [.str x.1, .lst (x.2.1.map .str), .lst (x.2.2.map .str)])
      (fun x => x.2.1.length ≤ 20 ∧ (∀ y ∈ x.2.1, nameC y = true) ∧ 1 ≤ x.2.2.length ∧ x.2.2.length ≤ 20 ∧ ∀ y ∈ x.2.2, nameC y = true) (fun _ => 9)
      (fun x z => ∃ rs : List R, z = .tup (rs.map encR) ∧ rs.length ≤ 4 ∧ ∀ r ∈ rs, okR x.1 r)) := by
  refine fn_B Fu scBody (fun a => rfl) (fun cdv A outer s H E F x c b hp hr hF hc => ?_)
  obtain ⟨call, calls, words⟩ := x
  obtain ⟨hcl, hcn, hw1, hw2, hwn⟩ := hp
  simp only at hcl hcn hw1 hw2 hwn
  have hc : c + 9 ≤ LIM := hc
  refine ss_cons ?_
  refine s_parO 4 5 rfl scBody.nd (by decide) ?_
  refine SEL.se ?_
  refine sel_lcIf 8 rfl scBody.nd (blkOk_by (own := [("_law_one", 8)]) (N := nBody) (sc := defScope sBody) (by decide +kernel)) rfl rfl (filter_sw (gtQ call) id ?_)
  refine sw_lst ?_
  refine se_var 2 rfl ?_
  refine ⟨_, rfl, ?_, ?_, ?_, ?_⟩
  · rw [List.length_map]; exact Nat.le_trans hcl (by decide)
  · rintro d hd F' s0 H0 C cl fp hF'
    obtain ⟨x, hx, rfl⟩ := List.mem_map.mp hd
    refine st_cmp ?_
    refine se_var 8 rfl ?_
    refine se_var 1 rfl ?_
    refine ov_gtS ?_
    exact ⟨_, rfl, rfl, rfl⟩
  · rintro d hd hq F' s0 H0 C cl fp hF'
    refine se_var 8 rfl ?_
    exact ⟨rfl, rfl⟩
  rw [gtQ_filter]
  obtain ⟨later, hlater⟩ : ∃ l : List Str, l = calls.filter fun x => decide (tl call < tl x) := ⟨_, rfl⟩
  rw [← hlater]
  have hl1 : later.length ≤ 20 := by rw [hlater]; exact Nat.le_trans (List.length_filter_le _ _) hcl
  have hl2 : ∀ y ∈ later, nameC y = true ∧ tl call < tl y := fun y hy => by
    rw [hlater] at hy
    have := List.mem_filter.mp hy
    exact ⟨hcn y this.1, of_decide_eq_true this.2⟩
  refine sel_lst ?_
  refine sa_nil ?_
  refine ⟨by show 0 ≤ sizeLine; decide, fun p => ?_⟩
  refine ss_cons ?_
  refine s_for PassesOwn.never rfl ?_
  refine sw_range T.range ?_
  refine se_fB 0 DT (hr.mono (by decide)) rfl ?_
  refine sa_cons ?_
  refine se_int ?_
  refine sa_nil ?_
  refine ⟨5, rfl, ⟨by decide, by decide⟩, by show c + 1 ≤ LIM; omega, ?_⟩
  rintro _ ⟨k, rfl, hk0, hk1⟩
  refine ⟨k, rfl, by omega, by omega, fun i Γ' c' => c' ≤ c + 1 + 2 * i ∧ ∃ (rs : List R) (sT sW : Sl), sT.addr = [] ∧ sW.addr = [] ∧ Γ' = [.bag, .dat (.str call), .dat (.lst (calls.map .str)), .dat (.lst (words.map .str)), .dat (.lst (later.map .str)), .own p (rs.map encR), sT, sW, .un] ∧ rs.length = i ∧ ∀ r ∈ rs, okR call r, ⟨by show c + 1 ≤ _; omega, [], .un, .un, rfl, rfl, rfl, rfl, fun r hr => nomatch hr⟩, ?_, ?_⟩
  · rintro i d Γ' c' hd ⟨hc', rs, sT, sW, hT, hW, rfl, hrl, hok⟩
    have hi : i < 4 := by
      have := (List.getElem?_eq_some_iff.mp hd).1
      unfold idxs at this; rw [List.length_map, List.length_range] at this; omega
    have hz : (rs.map encR).length < sizeLine := by rw [List.length_map, hrl]; exact Nat.lt_of_lt_of_le hi (by decide)
    refine sg_name 6 scBody.nd ?_
    refine ss_cons ?_
    refine s_set 7 scBody.nd ?_
    refine se_fB 0 DT (hr.mono (by decide)) rfl ?_
    refine sa_cons ?_
    refine se_int ?_
    refine sa_nil ?_
    refine ⟨5, rfl, ⟨by decide, by decide⟩, by show c' + 1 ≤ LIM; omega, ?_⟩
    rintro _ ⟨wy, rfl, hw0, hw1'⟩
    refine ss_one ?_
    refine s_if ?_
    refine st_cmp ?_
    refine se_var 7 rfl ?_
    refine se_int ?_
    refine ov_lt ?_
    refine ⟨_, rfl, ?_⟩
    refine ite2 (fun h => ?_) (fun h => ?_)
    · refine ss_one ?_
      refine s_append 5 rfl ?_
      refine se_tup ?_
      refine sa_cons ?_
      refine se_str ?_
      refine sa_nil ?_
      refine ⟨by show 1 ≤ sizeLine; decide, hz, by show c' + 1 ≤ _; omega, rs ++ [.nx], .dat d, .dat (.int wy), rfl, rfl, by rw [List.map_append]; rfl, by rw [List.length_append, hrl]; rfl, fun r hr => ?_⟩
      rcases List.mem_append.mp hr with z | z
      · exact hok r z
      · rw [List.mem_singleton.mp z]; exact True.intro
    · have say : ∀ kk : Int, 0 ≤ kk → kk < words.length → ∃ x, atI (words.map Dt.str) kk = some (.str x) ∧ nameC x = true := fun kk h0 h1 => by
        obtain ⟨dd, hd1, hd2⟩ := atI_nat' (l := words.map Dt.str) h0 (by simpa using h1)
        obtain ⟨x, hx, rfl⟩ := List.mem_map.mp hd2
        exact ⟨x, hd1, hwn x hx⟩
      refine ss_one ?_
      refine s_if ?_
      refine st_w ?_
      refine sw_and ?_
      refine st_cmp ?_
      refine se_var 7 rfl ?_
      refine se_int ?_
      refine ov_eqI ?_
      refine ⟨_, rfl, ?_⟩
      refine ite2 (fun h2 => ?_) (fun h2 => ?_)
      · refine sw_and1 ?_
        refine st_cmp ?_
        refine se_var 4 rfl ?_
        refine se_lst ?_
        refine sa_nil ?_
        refine ⟨by show 0 ≤ sizeLine; decide, ?_⟩
        refine ov_neD hr.units (names_fit fun y hy => (hl2 y hy).1) nil_fit ?_
        refine ⟨_, rfl, ?_⟩
        rw [eqd_lst_nil]
        refine ite2 (fun h3 => ?_) (fun h3 => ?_)
        · have hne : 0 < later.length := by
            cases later with
            | nil => cases h3
            | cons a l => exact Nat.succ_pos _
          refine ss_one ?_
          refine s_append 5 rfl ?_
          refine se_tup ?_
          refine sa_cons ?_
          refine se_str ?_
          refine sa_cons ?_
          refine se_ix ?_
          refine se_var 4 rfl ?_
          refine se_fB 0 DT (hr.mono (by decide)) rfl ?_
          refine sa_cons ?_
          refine se_callB (id := "len") T.len ?_
          refine sa_cons ?_
          refine se_var 4 rfl ?_
          refine sa_nil ?_
          refine cv_len (l := later.map .str) rfl ?_
          refine sa_nil ?_
          refine ⟨_, rfl, ⟨by rw [List.length_map]; omega, by rw [List.length_map]; omega⟩, by show c' + 1 + 1 ≤ LIM; omega, ?_⟩
          rintro _ ⟨kk, rfl, hkk0, hkk1⟩
          obtain ⟨dd, hd1, hd2⟩ := atI_nat' (l := later.map Dt.str) hkk0 hkk1
          obtain ⟨x, hx, rfl⟩ := List.mem_map.mp hd2
          refine iv_lst hd1 ?_
          refine sa_nil ?_
          refine ⟨by show 2 ≤ sizeLine; decide, hz, by show c' + 1 + 1 ≤ _; omega, rs ++ [.cl x], .dat d, .dat (.int wy), rfl, rfl, by rw [List.map_append]; rfl, by rw [List.length_append, hrl]; rfl, fun r hr => ?_⟩
          rcases List.mem_append.mp hr with z | z
          · exact hok r z
          · rw [List.mem_singleton.mp z]; exact hl2 x hx
        · refine ss_one ?_
          refine s_append 5 rfl ?_
          refine se_tup ?_
          refine sa_cons ?_
          refine se_str ?_
          refine sa_cons ?_
          refine se_ix ?_
          refine se_var 3 rfl ?_
          refine se_fB 0 DT (hr.mono (by decide)) rfl ?_
          refine sa_cons ?_
          refine se_callB (id := "len") T.len ?_
          refine sa_cons ?_
          refine se_var 3 rfl ?_
          refine sa_nil ?_
          refine cv_len (l := words.map .str) rfl ?_
          refine sa_nil ?_
          refine ⟨_, rfl, ⟨by rw [List.length_map]; omega, by rw [List.length_map]; omega⟩, by show c' + 1 + 1 ≤ LIM; omega, ?_⟩
          rintro _ ⟨kk, rfl, hkk0, hkk1⟩
          obtain ⟨x, hd1, hx⟩ := say kk hkk0 (by rwa [List.length_map] at hkk1)
          refine iv_lst hd1 ?_
          refine sa_nil ?_
          refine ⟨by show 2 ≤ sizeLine; decide, hz, by show c' + 1 + 1 ≤ _; omega, rs ++ [.say x], .dat d, .dat (.int wy), rfl, rfl, by rw [List.map_append]; rfl, by rw [List.length_append, hrl]; rfl, fun r hr => ?_⟩
          rcases List.mem_append.mp hr with z | z
          · exact hok r z
          · rw [List.mem_singleton.mp z]; exact hx
      · refine iteF ?_
        refine ss_one ?_
        refine s_append 5 rfl ?_
        refine se_tup ?_
        refine sa_cons ?_
        refine se_str ?_
        refine sa_cons ?_
        refine se_ix ?_
        refine se_var 3 rfl ?_
        refine se_fB 0 DT (hr.mono (by decide)) rfl ?_
        refine sa_cons ?_
        refine se_callB (id := "len") T.len ?_
        refine sa_cons ?_
        refine se_var 3 rfl ?_
        refine sa_nil ?_
        refine cv_len (l := words.map .str) rfl ?_
        refine sa_nil ?_
        refine ⟨_, rfl, ⟨by rw [List.length_map]; omega, by rw [List.length_map]; omega⟩, by show c' + 1 + 1 ≤ LIM; omega, ?_⟩
        rintro _ ⟨kk, rfl, hkk0, hkk1⟩
        obtain ⟨x, hd1, hx⟩ := say kk hkk0 (by rwa [List.length_map] at hkk1)
        refine iv_lst hd1 ?_
        refine sa_nil ?_
        refine ⟨by show 2 ≤ sizeLine; decide, hz, by show c' + 1 + 1 ≤ _; omega, rs ++ [.say x], .dat d, .dat (.int wy), rfl, rfl, by rw [List.map_append]; rfl, by rw [List.length_append, hrl]; rfl, fun r hr => ?_⟩
        rcases List.mem_append.mp hr with z | z
        · exact hok r z
        · rw [List.mem_singleton.mp z]; exact hx
  · rintro Γ' c' ⟨hc', rs, sT, sW, hT, hW, rfl, hrl, hok⟩
    have hi : (idxs k.toNat).length = k.toNat := by unfold idxs; rw [List.length_map, List.length_range]
    rw [hi] at hc' hrl
    refine ss_freeze 5 rfl ?_
    refine ss_one ?_
    refine s_ret ?_
    refine se_callT (id := "tuple") T.tuple ?_
    refine sa_cons ?_
    refine se_var 5 rfl ?_
    refine sa_nil ?_
    refine cv_tuple (l := rs.map encR) rfl ⟨by show c' ≤ c + 9; omega, rs, rfl, by omega, hok⟩
end
end K46

set_option Elab.async false
set_option linter.all false
set_option maxRecDepth 100000
set_option maxHeartbeats 4000000
namespace K46
open PySem L2 G PyProof.Rows
theorem eqv_strs : ∀ (l m : List Str), PyData.eqvAll (pys (l.map Dt.str)) (pys (m.map Dt.str)) = decide (l = m)
  | [], [] => rfl
  | [], b :: m => rfl
  | a :: l, [] => rfl
  | a :: l, b :: m => by
    show (a == b && PyData.eqvAll (pys (l.map Dt.str)) (pys (m.map Dt.str))) = _
    rw [eqv_strs l m, Bool.eq_iff_iff]
    simp
theorem eqd_tup_strs (l m : List Str) : eqd (.tup (l.map .str)) (.tup (m.map .str)) = decide (l = m) := eqv_strs l m
def signQ : Dt → Bool
  | .str s => match tl s with
    | [a] => decide (a ∈ tl abc)
    | _ => false
  | _ => false
theorem signs_map (z : Str) : (G.signs z).map (fun d => Dt.bl (signQ d)) = ((tl z).map fun a => decide (a ∈ tl abc)).map Dt.bl := by
  unfold G.signs
  rw [List.map_map, List.map_map]
  rfl
theorem signs_all (z : Str) : ((tl z).map fun a => decide (a ∈ tl abc)).all id = (tl z).all fun a => decide (a ∈ tl abc) := by
  rw [List.all_map]; rfl
theorem signs_len (z : Str) : (G.signs z).length = z.length := by
  unfold G.signs
  rw [List.length_map, len_tl]
def isName : Dt → Bool
  | .str s => nameC s
  | _ => false
abbrev nextS : Str := "next"
abbrev sayS : Str := "say"
abbrev callS : Str := "call"
def row2 (call : Str) : List Str → Bool
  | [a, b] => nameC b && (decide (a = sayS) || (decide (a = callS) && decide (tl call < tl b)))
  | _ => false
def rowOk (call : Str) (ps : List Str) : Bool := decide (ps = [nextS]) || row2 call ps
section
variable {P : Program} {w : World} {K : PySem.W.Frag} {mg : Str → Option Value} {base : Heap}
abbrev sIsName : Stmt := top 9
theorem scIsName : FnScope ["thing", "sign"] ["thing"] (defScope sIsName) := ⟨rfl, rfl, rfl, by decide +kernel, rfl, by decide +kernel, by decide +kernel⟩
abbrev spIsName (K : PySem.W.Frag) : Sp := spP K (fun x : Dt => [x]) (fun x => noRaw x = true ∧ ∀ s, x = .str s → s.length ≤ sizeLine) (fun x d => d = .bl (isName x))
theorem ok_isName {f : Addr} {fd : FuncData} (Fu : Fun K "is_name" "is_name" sIsName f fd) (T : Txt mg) : FnOk P w K mg base CX0 1 f fd ["thing"] (spIsName K) := by
  refine fn_P Fu scIsName (fun a => rfl) (fun cdv A outer s H E F x hp hr hF => ?_)
  obtain ⟨nr, hz⟩ := hp
  obtain ⟨t1, hL⟩ := T.LETTERS
  obtain ⟨t2, hM⟩ := T.MOST_LETTERS
  refine ss_one ?_
  refine s_ret ?_
  refine se_and ?_
  refine se_callB (id := "isinstance") T.isi ?_
  refine sa_cons ?_
  refine se_var 0 rfl ?_
  refine sa_cons ?_
  refine se_ty (T := "str") T.str ?_
  refine sa_nil ?_
  refine cv_isStr nr ?_
  refine ⟨_, rfl, ?_⟩
  cases x with
  | str z =>
    have hz := hz z rfl
    refine iteT ?_
    refine se_and ?_
    refine se_chain ?_
    refine se_int ?_
    refine se_callB (id := "len") T.len ?_
    refine sa_cons ?_
    refine se_var 0 rfl ?_
    refine sa_nil ?_
    refine cv_lenS hz ?_
    refine ov_le ?_
    refine ⟨_, rfl, ?_⟩
    refine ite2 (fun h1 => ?_) (fun h1 => ?_)
    · refine se_gint hM ?_
      refine ov_le ?_
      refine ⟨_, rfl, ?_⟩
      refine ite2 (fun h2 => ?_) (fun h2 => ?_)
      · refine se_one ?_
        refine se_callB (id := "all") T.all ?_
        refine sa_cons ?_
        refine SEL.se ?_
        refine sel_lc 1 rfl scIsName.nd (blkOk_by (own := [("sign", 1)]) (N := ["thing", "sign"]) (sc := defScope sIsName) (by decide +kernel)) rfl rfl (map_sw (fun d => .bl (signQ d)) ?_)
        refine sw_str ?_
        refine se_var 0 rfl ?_
        refine ⟨_, rfl, by rw [signs_len]; exact hz, ?_, ?_⟩
        · intro d hd F' s0 H0 C cl fp hF
          obtain ⟨a, _, rfl⟩ := List.mem_map.mp hd
          refine se_cmp ?_
          refine se_var 1 rfl ?_
          refine se_gstr hL ?_
          refine ov_inSign ?_
          exact ⟨rfl, rfl⟩
        · rw [signs_map]
          refine sa_nil ?_
          refine cv_all rfl ?_
          show Dt.bl _ = Dt.bl (nameC z)
          rw [signs_all]
          unfold nameC
          rw [h1, h2]
          rfl
      · show Dt.bl false = Dt.bl (nameC z)
        unfold nameC
        rw [eq_false_of_ne_true h2, Bool.false_and, Bool.and_false]
    · refine ⟨_, rfl, iteF ?_⟩
      show Dt.bl false = Dt.bl (nameC z)
      unfold nameC
      rw [eq_false_of_ne_true h1]
      rfl
  | _ => exact iteF rfl
/-! the law's own look at a name -/
abbrev sLName : Stmt := top 23
theorem scLName : FnScope ["_law_word", "_law_sign"] ["_law_word"] (defScope sLName) := ⟨rfl, rfl, rfl, by decide +kernel, rfl, by decide +kernel, by decide +kernel⟩
abbrev spLName (K : PySem.W.Frag) : Sp := spP K (fun x : Str => [.str x]) (fun x => x.length ≤ sizeLine) (fun x d => d = .bl (nameC x))
theorem ok_lname {f : Addr} {fd : FuncData} (Fu : Fun K "_law_is_name" "_law_is_name" sLName f fd) (T : Txt mg) : FnOk P w K mg base CX0 1 f fd ["_law_word"] (spLName K) := by
  refine fn_P Fu scLName (fun a => rfl) (fun cdv A outer s H E F z hz hr hF => ?_)
  refine ss_one ?_
  refine s_ret ?_
  refine se_and ?_
  refine se_chain ?_
  refine se_int ?_
  refine se_callB (id := "len") T.len ?_
  refine sa_cons ?_
  refine se_var 0 rfl ?_
  refine sa_nil ?_
  refine cv_lenS hz ?_
  refine ov_le ?_
  refine ⟨_, rfl, ?_⟩
  refine ite2 (fun h1 => ?_) (fun h1 => ?_)
  · refine se_int ?_
    refine ov_le ?_
    refine ⟨_, rfl, ?_⟩
    refine ite2 (fun h2 => ?_) (fun h2 => ?_)
    · refine se_one ?_
      refine se_callB (id := "all") T.all ?_
      refine sa_cons ?_
      refine SEL.se ?_
      refine sel_lc 1 rfl scLName.nd (blkOk_by (own := [("_law_sign", 1)]) (N := ["_law_word", "_law_sign"]) (sc := defScope sLName) (by decide +kernel)) rfl rfl (map_sw (fun d => .bl (signQ d)) ?_)
      refine sw_str ?_
      refine se_var 0 rfl ?_
      refine ⟨_, rfl, by rw [signs_len]; exact hz, ?_, ?_⟩
      · intro d hd F' s0 H0 C cl fp hF
        obtain ⟨a, _, rfl⟩ := List.mem_map.mp hd
        refine se_cmp ?_
        refine se_var 1 rfl ?_
        refine se_str ?_
        refine ov_inSign ?_
        exact ⟨rfl, rfl⟩
      · rw [signs_map]
        refine sa_nil ?_
        refine cv_all rfl ?_
        show Dt.bl _ = Dt.bl (nameC z)
        rw [signs_all]
        unfold nameC
        rw [h1, h2]
        rfl
    · show Dt.bl false = Dt.bl (nameC z)
      unfold nameC
      rw [eq_false_of_ne_true h2, Bool.false_and, Bool.and_false]
  · refine ⟨_, rfl, iteF ?_⟩
    show Dt.bl false = Dt.bl (nameC z)
    unfold nameC
    rw [eq_false_of_ne_true h1]
    rfl
/-! a row -/
abbrev sIsRow : Stmt := top 10
theorem scIsRow : FnScope ["call", "thing", "word", "name"] ["call", "thing"] (defScope sIsRow) := ⟨rfl, rfl, rfl, by decide +kernel, rfl, by decide +kernel, by decide +kernel⟩
abbrev spIsRow (K : PySem.W.Frag) : Sp := spP K (fun x : Str × List Str => [.str x.1, .tup (x.2.map .str)]) (fun x => ∀ y ∈ x.2, Asc 200000 y) (fun x d => d = .bl (rowOk x.1 x.2))
theorem strs_fit {l : List Str} {n : Nat} (h : ∀ y ∈ l, Asc n y) : Fit 64 (.tup (l.map .str)) := (fit_tup (n := 0) fun d hd => by
  obtain ⟨x, hx, rfl⟩ := List.mem_map.mp hd
  exact fit_str (h x hx).ok).mono (by decide)
theorem next_fit : Fit 64 (.tup [.str "next"]) := strs_fit (l := [nextS]) (n := 4) fun y hy => by
  rw [List.mem_singleton.mp hy]
  exact ⟨by decide, by decide⟩
theorem ok_isRow {f : Addr} {fd : FuncData} (Fu : Fun K "is_row" "is_row" sIsRow f fd) (T : Txt mg) (DN : DefOk P w K mg base CX0 1 "is_name" ["thing"] (spIsName K)) : FnOk P w K mg base CX0 2 f fd ["call", "thing"] (spIsRow K) := by
  refine fn_P Fu scIsRow (fun a => rfl) (fun cdv A outer s H E F x hp hr hF => ?_)
  obtain ⟨call, ps⟩ := x
  simp only at hp
  obtain ⟨t1, hNEXT⟩ := T.NEXT
  obtain ⟨t2, hSAY⟩ := T.SAY
  obtain ⟨t3, hCALL⟩ := T.CALL
  refine ss_cons ?_
  refine s_if ?_
  refine st_w ?_
  refine sw_and ?_
  refine st_cmp ?_
  refine se_var 1 rfl ?_
  refine se_tup ?_
  refine sa_cons ?_
  refine se_gstr hNEXT ?_
  refine sa_nil ?_
  refine ⟨by show 1 ≤ sizeLine; decide, ?_⟩
  refine ov_eqD hr.units (strs_fit hp) next_fit ?_
  refine ⟨_, rfl, ?_⟩
  rw [show eqd (.tup (ps.map .str)) (.tup [.str "next"]) = decide (ps = [nextS]) from eqd_tup_strs ps [nextS]]
  refine ite2 (fun h => ?_) (fun h => ?_)
  · refine sw_and1 ?_
    refine st_val ?_
    refine se_callB (id := "isinstance") T.isi ?_
    refine sa_cons ?_
    refine se_var 1 rfl ?_
    refine sa_cons ?_
    refine se_ty (T := "tuple") T.tuple ?_
    refine sa_nil ?_
    refine cv_isTup rfl ?_
    refine ⟨_, rfl, ?_⟩
    refine iteT ?_
    refine ss_one ?_
    refine s_ret ?_
    refine se_bl ?_
    show Dt.bl true = Dt.bl (rowOk call ps)
    unfold rowOk
    rw [h]
    rfl
  · have hr0 : rowOk call ps = row2 call ps := by
      unfold rowOk
      rw [eq_false_of_ne_true h, Bool.false_or]
    refine iteF ?_
    refine ss_nil ?_
    refine ss_cons ?_
    refine s_if ?_
    refine st_w ?_
    refine sw_or ?_
    refine st_not ?_
    refine st_val ?_
    refine se_callB (id := "isinstance") T.isi ?_
    refine sa_cons ?_
    refine se_var 1 rfl ?_
    refine sa_cons ?_
    refine se_ty (T := "tuple") T.tuple ?_
    refine sa_nil ?_
    refine cv_isTup rfl ?_
    refine ⟨_, rfl, ?_⟩
    refine iteF ?_
    refine sw_or ?_
    refine st_cmp ?_
    refine se_callB (id := "len") T.len ?_
    refine sa_cons ?_
    refine se_var 1 rfl ?_
    refine sa_nil ?_
    refine cv_len (l := ps.map .str) rfl ?_
    refine se_int ?_
    refine ov_neI ?_
    refine ⟨_, rfl, ?_⟩
    match ps, hr0, hp with
    | [], hr0, _ =>
      refine iteT ?_
      refine iteT ?_
      refine ss_one ?_
      refine s_ret ?_
      refine se_bl ?_
      show Dt.bl false = _
      rw [hr0]
      rfl
    | [a], hr0, _ =>
      refine iteT ?_
      refine iteT ?_
      refine ss_one ?_
      refine s_ret ?_
      refine se_bl ?_
      show Dt.bl false = _
      rw [hr0]
      rfl
    | a :: b :: d :: r, hr0, _ =>
      refine ite2 (fun hq => ?_) (fun hq => ?_)
      · refine iteT ?_
        refine ss_one ?_
        refine s_ret ?_
        refine se_bl ?_
        show Dt.bl false = _
        rw [hr0]
        rfl
      · exfalso
        simp at hq
        omega
    | [a, b], hr0, hp =>
      have hr1 : rowOk call [a, b] = (nameC b && (decide (a = sayS) || (decide (a = callS) && decide (tl call < tl b)))) := hr0
      refine iteF ?_
      refine sw_or1 ?_
      refine st_not ?_
      refine st_val ?_
      refine se_fP DN (hr.mono (by decide)) ?_
      refine sa_cons ?_
      refine se_ix ?_
      refine se_var 1 rfl ?_
      refine se_int ?_
      refine iv_tup (d := .str b) rfl ?_
      refine sa_nil ?_
      refine ⟨.str b, rfl, ⟨rfl, fun s e => by cases e; exact Nat.le_trans (hp b (by simp)).len (by decide)⟩, ?_⟩
      rintro _ rfl
      refine ⟨_, rfl, ?_⟩
      show if (!nameC b) = true then _ else _
      cases hb : nameC b with
      | false =>
        refine iteT ?_
        refine ss_one ?_
        refine s_ret ?_
        refine se_bl ?_
        show Dt.bl false = _
        rw [hr1, hb]
        rfl
      | true =>
        refine iteF ?_
        refine ss_nil ?_
        refine ss_cons ?_
        refine s_asg ?_
        refine se_var 1 rfl ?_
        refine sg_tup rfl ?_
        refine sgs_cons  ?_
        refine sg_name 2 scIsRow.nd ?_
        refine sgs_cons  ?_
        refine sg_name 3 scIsRow.nd ?_
        refine sgs_nil  ?_
        refine ss_one ?_
        refine s_ret ?_
        refine se_and ?_
        refine se_callB (id := "isinstance") T.isi ?_
        refine sa_cons ?_
        refine se_var 2 rfl ?_
        refine sa_cons ?_
        refine se_ty (T := "str") T.str ?_
        refine sa_nil ?_
        refine cv_isStr rfl ?_
        refine ⟨_, rfl, ?_⟩
        refine iteT ?_
        refine se_one ?_
        refine se_or ?_
        refine se_cmp ?_
        refine se_var 2 rfl ?_
        refine se_gstr hSAY ?_
        refine ov_eqS ?_
        refine ⟨_, rfl, ?_⟩
        refine ite2 (fun h2 => ?_) (fun h2 => ?_)
        · show Dt.bl true = _
          rw [hr1, hb, h2]
          rfl
        · refine se_one ?_
          refine se_and ?_
          refine se_cmp ?_
          refine se_var 2 rfl ?_
          refine se_gstr hCALL ?_
          refine ov_eqS ?_
          refine ⟨_, rfl, ?_⟩
          refine ite2 (fun h3 => ?_) (fun h3 => ?_)
          · refine se_one ?_
            refine se_cmp ?_
            refine se_var 3 rfl ?_
            refine se_var 0 rfl ?_
            refine ov_gtS ?_
            show Dt.bl _ = _
            rw [hr1, hb, eq_false_of_ne_true h2, h3]
            rfl
          · show Dt.bl false = _
            rw [hr1, hb, eq_false_of_ne_true h2, eq_false_of_ne_true h3]
            rfl
end
end K46

set_option Elab.async false
set_option linter.all false
set_option maxRecDepth 100000
set_option maxHeartbeats 4000000
namespace K46
open PySem L2 G PyProof.Rows
def partsR : R → List Str
  | .nx => [nextS]
  | .say s => [sayS, s]
  | .cl s => [callS, s]
theorem encR_eq (r : R) : encR r = .tup ((partsR r).map .str) := by cases r <;> rfl
def wordR (r : R) : Str := Txt.join " " (partsR r)
def showR (rs : List R) : Str := if rs.isEmpty = true then "-" else Txt.join ", " (rs.map wordR)
def smallR : R → Prop
  | .nx => True
  | .say s => Asc 8 s
  | .cl s => Asc 8 s
theorem small_parts {r : R} (h : smallR r) : ∀ y ∈ partsR r, Asc 8 y := by
  intro y hy
  cases r with
  | nx => rw [List.mem_singleton.mp hy]; exact ⟨by decide, by decide⟩
  | say s =>
    rcases List.mem_cons.mp hy with e | hy
    · rw [e]; exact ⟨by decide, by decide⟩
    · rw [List.mem_singleton.mp hy]; exact h
  | cl s =>
    rcases List.mem_cons.mp hy with e | hy
    · rw [e]; exact ⟨by decide, by decide⟩
    · rw [List.mem_singleton.mp hy]; exact h
theorem parts_len (r : R) : (partsR r).length ≤ 2 := by cases r <;> simp [partsR]
theorem tl_word (r : R) : tl (wordR r) = TL.joinL [32] ((partsR r).map tl) := tl_join " " _
theorem word_asc {r : R} (h : smallR r) : Asc 20 (wordR r) := by
  refine ⟨?_, fun a ha => ?_⟩
  · rw [len_tl, tl_word]
    cases r with
    | nx => decide
    | say s =>
      show (tl sayS ++ ([32] ++ tl s)).length ≤ 20
      have := (show Asc 8 s from h).len
      rw [len_tl] at this
      rw [List.length_append, List.length_append, show (tl sayS).length = 3 from rfl, List.length_singleton]
      omega
    | cl s =>
      show (tl callS ++ ([32] ++ tl s)).length ≤ 20
      have := (show Asc 8 s from h).len
      rw [len_tl] at this
      rw [List.length_append, List.length_append, show (tl callS).length = 4 from rfl, List.length_singleton]
      omega
  · rw [tl_word] at ha
    rcases of_joinL ha with h1 | ⟨p, hp, h1⟩
    · rw [List.mem_singleton.mp h1]; decide
    · obtain ⟨y, hy, rfl⟩ := List.mem_map.mp hp
      exact (small_parts h y hy).cp a h1
theorem sum_le {l : List Nat} {m : Nat} (h : ∀ x ∈ l, x ≤ m) : l.sum ≤ l.length * m := by
  induction l with
  | nil => simp
  | cons a l ih =>
    rw [List.sum_cons, List.length_cons, Nat.add_mul, Nat.one_mul]
    have h1 := h a (List.mem_cons_self ..)
    have h2 := ih fun x hx => h x (List.mem_cons_of_mem _ hx)
    omega
theorem join_size {l : List Str} {n m : Nat} (h : ∀ y ∈ l, Asc n y) (hl : l.length ≤ m) : (l.map (·.length)).sum ≤ m * n := by
  refine Nat.le_trans (sum_le (m := n) fun x hx => ?_) (by rw [List.length_map]; exact Nat.mul_le_mul_right _ hl)
  obtain ⟨y, hy, rfl⟩ := List.mem_map.mp hx
  exact (h y hy).len
def strsOf : Dt → List Str
  | .tup l => l.map fun d => match d with
    | .str s => s
    | _ => ""
  | _ => []
theorem strsOf_enc (r : R) : strsOf (encR r) = partsR r := by cases r <;> rfl
theorem rows_fit {rs : List R} (h : ∀ r ∈ rs, smallR r) : Fit 64 (.tup (rs.map encR)) := (fit_tup (n := 1) fun d hd => by
  obtain ⟨r, hr, rfl⟩ := List.mem_map.mp hd
  rw [encR_eq]
  exact fit_tup (n := 0) fun d hd => by
    obtain ⟨y, hy, rfl⟩ := List.mem_map.mp hd
    exact fit_str (small_parts (h r hr) y hy).ok).mono (by decide)
section
variable {P : Program} {w : World} {K : PySem.W.Frag} {mg : Str → Option Value} {base : Heap}
/-! the exception -/
abbrev sInit : Stmt := inClass (top 1) 0
theorem scInit : FnScope ["self", "at"] ["self", "at"] (defScope sInit) := ⟨rfl, rfl, rfl, by decide +kernel, rfl, by decide +kernel, by decide +kernel⟩
def smallI (d : Dt) : Prop := ∃ i : Int, d = .int i ∧ -10 ≤ i ∧ i ≤ 10
theorem ok_init {f C : Addr} {fd : FuncData} (Fu : Fun K "__init__" "NoText.__init__" sInit f fd) (T : Txt mg) (TO : OexC K C) (nof : PySem.W.findIn K (.ref C) "at" = some none) (hve : mg "ValueError" = none)
    (vV : PySem.W.findCls K (.type "ValueError") (.type "type") "__init__" = some (.val (.builtin "ValueError.__init__"))) : FnOk P w K mg base CX0 1 f fd ["self", "at"] (spI K C "at" smallI) := by
  refine Fu.ok scInit (fun vs H Q E h => ?_) (fun cdv A outer s H vs Q E hr h => ?_)
  · obtain ⟨a, v, M, d, rfl, _⟩ := h; rfl
  · obtain ⟨a, v, M, d, rfl, ha, dv, ⟨i, rfl, hi0, hi1⟩, k⟩ := h
    cases dv
    refine ⟨_, pss_cons (ps_expr (pe_veinit rfl hve vV (pa_cons (pv 0) (pa_cons (pe_op op_add_str pe_str (pe_callTy call_str_int (by rfl) T.str (by decide +kernel) (pa_cons (pv 1) pa_nil))) pa_nil)))) (pss_one (ps_ost (pv 0) (pv 1))), ?_⟩
    have hi : i = -10 ∨ i = -9 ∨ i = -8 ∨ i = -7 ∨ i = -6 ∨ i = -5 ∨ i = -4 ∨ i = -3 ∨ i = -2 ∨ i = -1 ∨ i = 0 ∨ i = 1 ∨ i = 2 ∨ i = 3 ∨ i = 4 ∨ i = 5 ∨ i = 6 ∨ i = 7 ∨ i = 8 ∨ i = 9 ∨ i = 10 := by omega
    have hlog : i.natAbs.log2 < 1920 := by rcases hi with h | h | h | h | h | h | h | h | h | h | h | h | h | h | h | h | h | h | h | h | h <;> rw [h] <;> decide
    have hlen : (Str.ofString "not so written: ").length + (Str.ofString (toString i)).length ≤ sizeLine := by rcases hi with h | h | h | h | h | h | h | h | h | h | h | h | h | h | h | h | h | h | h | h | h <;> rw [h] <;> decide +kernel
    refine ⟨_, rfl, _, rfl, i, rfl, hlog, _, _, rfl, rfl, hlen, a, C, _, rfl, by show 1 ≤ 1000; decide, TO, ha, ?_⟩
    exact ⟨_, rfl, _, rfl, a, C, rfl, TO, nof, Or.inl ⟨ha, fun dx hdx ne => k dx hdx ne⟩⟩
/-! a body written -/
abbrev sShow : Stmt := top 14
theorem scShow : FnScope ["body", "row"] ["body"] (defScope sShow) := ⟨rfl, rfl, rfl, by decide +kernel, rfl, by decide +kernel, by decide +kernel⟩
abbrev spShow (K : PySem.W.Frag) : Sp := spP K (fun rs : List R => [.tup (rs.map encR)]) (fun rs => rs.length ≤ 10 ∧ ∀ r ∈ rs, smallR r) (fun rs d => d = .str (showR rs))
theorem ok_show {f : Addr} {fd : FuncData} (Fu : Fun K "show_body" "show_body" sShow f fd) (T : Txt mg) : FnOk P w K mg base CX0 1 f fd ["body"] (spShow K) := by
  refine fn_P Fu scShow (fun a => rfl) (fun cdv A outer s H E F rs hp hr hF => ?_)
  obtain ⟨hl, hs⟩ := hp
  obtain ⟨t1, hGAP⟩ := T.ROW_GAP
  obtain ⟨t2, hNO⟩ := T.NO_ROWS
  refine ss_one ?_
  refine s_ret ?_
  refine se_if ?_
  refine st_cmp ?_
  refine se_var 0 rfl ?_
  refine se_tup ?_
  refine sa_nil ?_
  refine ⟨by show 0 ≤ sizeLine; decide, ?_⟩
  refine ov_neD hr.units (rows_fit hs) tnil_fit ?_
  refine ⟨_, rfl, ?_⟩
  rw [eqd_tup_nil]
  refine ite2 (fun h => ?_) (fun h => ?_)
  · refine se_join ?_
    refine se_gstr hGAP ?_
    refine ⟨_, rfl, ?_⟩
    refine SEL.se ?_
    refine sel_lc 1 rfl scShow.nd (blkOk_by (own := [("row", 1)]) (N := ["body", "row"]) (sc := defScope sShow) (by decide +kernel)) rfl rfl (map_sw (fun d => .str (Txt.join " " (strsOf d))) ?_)
    refine sw_tup ?_
    refine se_var 0 rfl ?_
    refine ⟨_, rfl, by rw [List.length_map]; exact Nat.le_trans hl (by decide), ?_, ?_⟩
    · rintro d hd F' s0 H0 C cl fp hF'
      obtain ⟨r, hr', rfl⟩ := List.mem_map.mp hd
      refine se_join ?_
      refine se_str ?_
      refine ⟨_, rfl, ?_⟩
      refine se_var 1 rfl ?_
      refine ⟨partsR r, by rw [encR_eq]; rfl, ?_, rfl, by rw [strsOf_enc]⟩
      have := join_size (small_parts (hs r hr')) (parts_len r)
      have h2 := parts_len r
      show _ + (partsR r).length * 1 ≤ _
      omega
    · refine ⟨rs.map wordR, ?_, ?_, ?_⟩
      · show some _ = some _
        rw [List.map_map, List.map_map]
        exact congrArg some (List.map_congr_left fun r _ => by show Dt.str (Txt.join " " (strsOf (encR r))) = _; rw [strsOf_enc]; rfl)
      · have := join_size (l := rs.map wordR) (n := 20) (m := 10) (fun y hy => by obtain ⟨r, hr', rfl⟩ := List.mem_map.mp hy; exact word_asc (hs r hr')) (by rw [List.length_map]; exact hl)
        show _ + (rs.map wordR).length * 2 ≤ _
        rw [List.length_map]
        omega
      · show Dt.str _ = Dt.str (showR rs)
        unfold showR
        rw [if_neg]
        intro e
        cases rs with
        | nil => simp at h
        | cons a l => cases e
  · refine se_gstr hNO ?_
    show Dt.str _ = Dt.str (showR rs)
    unfold showR
    rw [if_pos]
    cases rs with
    | nil => rfl
    | cons a l => exact absurd rfl h
/-! the law's own writing -/
abbrev sWr : Stmt := top 22
abbrev nWr : List Str := ["_law_rows", "_law_words", "_law_row_here"]
theorem scWr : FnScope nWr ["_law_rows"] (defScope sWr) := ⟨rfl, rfl, rfl, by decide +kernel, rfl, by decide +kernel, by decide +kernel⟩
theorem word_say (s : Str) : sayS ++ (" " : Str) ++ s = wordR (.say s) := str_ext (by rw [tl_word, tl_app, tl_app, List.append_assoc]; rfl)
theorem word_cl (s : Str) : callS ++ (" " : Str) ++ s = wordR (.cl s) := str_ext (by rw [tl_word, tl_app, tl_app, List.append_assoc]; rfl)
theorem words_fit {l : List Str} {n : Nat} (h : ∀ y ∈ l, Asc n y) : Fit 64 (.lst (l.map .str)) := (fit_lst (n := 0) fun d hd => by
  obtain ⟨x, hx, rfl⟩ := List.mem_map.mp hd
  exact fit_str (h x hx).ok).mono (by decide)
theorem ok_wr {f : Addr} {fd : FuncData} (Fu : Fun K "_law_written" "_law_written" sWr f fd) (T : Txt mg) : FnOk P w K mg base CX0 1 f fd ["_law_rows"] (spShow K) := by
  refine fn_P Fu scWr (fun a => rfl) (fun cdv A outer s H E F rs hp hr hF => ?_)
  obtain ⟨hl, hs⟩ := hp
  refine ss_cons ?_
  refine s_own 1 scWr.nd ?_
  refine sel_lst ?_
  refine sa_nil ?_
  refine ⟨by show 0 ≤ sizeLine; decide, fun p => ?_⟩
  refine ss_cons ?_
  refine s_for PassesOwn.never rfl ?_
  refine sw_tup ?_
  refine se_var 0 rfl ?_
  refine ⟨_, rfl, fun i Γ' c' => ∃ sT : Sl, sT.addr = [] ∧ Γ' = [.dat (.tup (rs.map encR)), .own p (((rs.take i).map wordR).map .str), sT], ⟨.un, rfl, rfl⟩, ?_, ?_⟩
  · rintro i d Γ' c' hd ⟨sT, hT, rfl⟩
    rw [List.getElem?_map] at hd
    cases e : rs[i]? with
    | none => rw [e] at hd; cases hd
    | some r =>
      rw [e] at hd
      cases hd
      have hi : i < 10 := Nat.lt_of_lt_of_le (List.getElem?_eq_some_iff.mp e).1 hl
      have hz : (((rs.take i).map wordR).map Dt.str).length < sizeLine := by rw [List.length_map, List.length_map, List.length_take]; exact Nat.lt_of_le_of_lt (Nat.min_le_left _ _) (Nat.lt_of_lt_of_le hi (by decide))
      have nxt : ∀ x : Str, x = wordR r → ((rs.take i).map wordR).map Dt.str ++ [Dt.str x] = ((rs.take (i + 1)).map wordR).map Dt.str := fun x hx => by
        rw [take_succ_map wordR e, List.map_append, hx]; rfl
      have hsr := hs r (List.mem_of_getElem? e)
      refine sg_name 2 scWr.nd ?_
      refine ss_one ?_
      refine s_append 1 rfl ?_
      refine se_if ?_
      refine st_cmp ?_
      refine se_callB (id := "len") T.len ?_
      refine sa_cons ?_
      refine se_var 2 rfl ?_
      refine sa_nil ?_
      cases r with
      | nx =>
        refine cv_len (l := [.str "next"]) rfl ?_
        refine se_int ?_
        refine ov_eqI ?_
        refine ⟨_, rfl, ?_⟩
        refine iteT ?_
        refine se_ix ?_
        refine se_var 2 rfl ?_
        refine se_int ?_
        refine iv_tup (d := .str "next") rfl ⟨hz, .dat (encR .nx), rfl, ?_⟩
        rw [nxt "next" (by decide +kernel)]
        rfl
      | say x =>
        have hx : x.length ≤ 8 := (show Asc 8 x from hsr).len
        refine cv_len (l := [.str "say", .str x]) rfl ?_
        refine se_int ?_
        refine ov_eqI ?_
        refine ⟨_, rfl, ?_⟩
        refine iteF ?_
        refine se_bin ?_
        refine se_bin ?_
        refine se_ix ?_
        refine se_var 2 rfl ?_
        refine se_int ?_
        refine iv_tup (d := .str "say") rfl ?_
        refine se_str ?_
        refine ov_addS (by decide) ?_
        refine se_ix ?_
        refine se_var 2 rfl ?_
        refine se_int ?_
        refine iv_tup (d := .str x) rfl ?_
        refine ov_addS (Nat.le_trans (show _ ≤ 4 + 8 from Nat.add_le_add (by decide) hx) (by decide)) ⟨hz, .dat (encR (.say x)), rfl, ?_⟩
        rw [nxt _ (word_say x)]
        rfl
      | cl x =>
        have hx : x.length ≤ 8 := (show Asc 8 x from hsr).len
        refine cv_len (l := [.str "call", .str x]) rfl ?_
        refine se_int ?_
        refine ov_eqI ?_
        refine ⟨_, rfl, ?_⟩
        refine iteF ?_
        refine se_bin ?_
        refine se_bin ?_
        refine se_ix ?_
        refine se_var 2 rfl ?_
        refine se_int ?_
        refine iv_tup (d := .str "call") rfl ?_
        refine se_str ?_
        refine ov_addS (by decide) ?_
        refine se_ix ?_
        refine se_var 2 rfl ?_
        refine se_int ?_
        refine iv_tup (d := .str x) rfl ?_
        refine ov_addS (Nat.le_trans (show _ ≤ 5 + 8 from Nat.add_le_add (by decide) hx) (by decide)) ⟨hz, .dat (encR (.cl x)), rfl, ?_⟩
        rw [nxt _ (word_cl x)]
        rfl
  · rintro Γ' c' ⟨sT, hT, rfl⟩
    rw [List.length_map, List.take_length]
    have hw : ∀ y ∈ rs.map wordR, Asc 20 y := fun y hy => by obtain ⟨r, hr', rfl⟩ := List.mem_map.mp hy; exact word_asc (hs r hr')
    refine ss_freeze 1 rfl ?_
    refine ss_one ?_
    refine s_ret ?_
    refine se_if ?_
    refine st_cmp ?_
    refine se_var 1 rfl ?_
    refine se_lst ?_
    refine sa_nil ?_
    refine ⟨by show 0 ≤ sizeLine; decide, ?_⟩
    refine ov_neD hr.units (words_fit hw) nil_fit ?_
    refine ⟨_, rfl, ?_⟩
    rw [eqd_lst_nil]
    refine ite2 (fun h => ?_) (fun h => ?_)
    · refine se_join ?_
      refine se_str ?_
      refine ⟨_, rfl, ?_⟩
      refine se_var 1 rfl ?_
      refine ⟨rs.map wordR, rfl, ?_, ?_⟩
      · have := join_size hw (m := 10) (by rw [List.length_map]; exact hl)
        show _ + (rs.map wordR).length * 2 ≤ _
        rw [List.length_map]
        omega
      · show Dt.str _ = Dt.str (showR rs)
        unfold showR
        rw [if_neg]
        intro e
        cases rs with
        | nil => simp at h
        | cons a l => cases e
    · refine se_str ?_
      show Dt.str _ = Dt.str (showR rs)
      unfold showR
      rw [if_pos]
      cases rs with
      | nil => rfl
      | cons a l => exact absurd rfl h
/-! the law's own look at a row -/
abbrev nLRow : List Str := ["_law_call", "_law_word"]
abbrev sLRow : Stmt := top 24
theorem scLRow : FnScope nLRow ["_law_call", "_law_word"] (defScope sLRow) := ⟨rfl, rfl, rfl, by decide +kernel, rfl, by decide +kernel, by decide +kernel⟩
abbrev from4 (z : Str) : Str := cutS z (some 4) none
abbrev from5 (z : Str) : Str := cutS z (some 5) none
def lawRow (call z : Str) : Option (List Str) :=
  if z = nextS then some [nextS] else if cutS z none (some 4) = "say " ∧ nameC (from4 z) = true then some [sayS, from4 z]
  else if cutS z none (some 5) = "call " ∧ nameC (from5 z) = true ∧ tl call < tl (from5 z) then some [callS, from5 z] else none
def optD : Option (List Str) → Dt
  | some l => .tup (l.map .str)
  | none => .non
abbrev spLRow (K : PySem.W.Frag) : Sp := spP K (fun x : Str × Str => [.str x.1, .str x.2]) (fun x => x.2.length ≤ sizeLine) (fun x d => d = optD (lawRow x.1 x.2))
theorem cut_le {z : Str} (h : z.length ≤ sizeLine) (lo hi : Option Int) : (cutS z lo hi).length ≤ sizeLine := by
  rw [len_tl, tl_cut, List.length_take, List.length_drop]
  rw [len_tl] at h
  omega
theorem ok_lrow {f : Addr} {fd : FuncData} (Fu : Fun K "_law_row" "_law_row" sLRow f fd) (T : Txt mg) (DN : DefOk P w K mg base CX0 1 "_law_is_name" ["_law_word"] (spLName K)) : FnOk P w K mg base CX0 2 f fd ["_law_call", "_law_word"] (spLRow K) := by
  refine fn_P Fu scLRow (fun a => rfl) (fun cdv A outer s H E F x hz hr hF => ?_)
  obtain ⟨call, z⟩ := x
  have hz : z.length ≤ sizeLine := hz
  refine ss_cons ?_
  refine s_if ?_
  refine st_cmp ?_
  refine se_var 1 rfl ?_
  refine se_str ?_
  refine ov_eqS ?_
  refine ⟨_, rfl, ?_⟩
  refine ite2 (fun h1 => ?_) (fun h1 => ?_)
  · refine ss_one ?_
    refine s_ret ?_
    refine se_tup ?_
    refine sa_cons ?_
    refine se_str ?_
    refine sa_nil ?_
    refine ⟨by show 1 ≤ sizeLine; decide, ?_⟩
    show _ = optD (lawRow call z)
    unfold lawRow
    rw [if_pos (of_decide_eq_true h1)]
    rfl
  have h1 : ¬ z = nextS := fun e => h1 (decide_eq_true e)
  have e1 : lawRow call z = if cutS z none (some 4) = "say " ∧ nameC (from4 z) = true then some [sayS, from4 z] else if cutS z none (some 5) = "call " ∧ nameC (from5 z) = true ∧ tl call < tl (from5 z) then some [callS, from5 z] else none := by
    unfold lawRow; rw [if_neg h1]
  have tail : ¬ (cutS z none (some 4) = "say " ∧ nameC (from4 z) = true) → SS F (cxOf CX0 P w K mg base nLRow "_law_row" (defScope sLRow) f cdv A outer s H E).nox (startP nLRow [.str call, .str z]) 0 ((defBody sLRow).drop 2) { nx := fun _ _ => Dt.non = optD (lawRow call z), rt := fun _ _ d => d = optD (lawRow call z) } := by
    intro h2
    rw [if_neg h2] at e1
    have none_ : ¬ (cutS z none (some 5) = "call " ∧ nameC (from5 z) = true ∧ tl call < tl (from5 z)) → Dt.non = optD (lawRow call z) := fun h3 => by rw [e1, if_neg h3]; rfl
    refine ss_cons ?_
    refine s_if ?_
    refine st_w ?_
    refine sw_and ?_
    refine st_cmp ?_
    refine se_slice ?_
    refine se_var 1 rfl ?_
    refine so_none ?_
    refine so_some ?_
    refine se_int ?_
    refine ⟨_, rfl, ?_⟩
    refine sv_str hz ?_
    refine se_str ?_
    refine ov_eqS ?_
    refine ⟨_, rfl, ?_⟩
    refine ite2 (fun h3 => ?_) (fun h3 => ?_)
    · refine sw_and ?_
      refine st_val ?_
      refine se_fP DN (hr.mono (by decide)) ?_
      refine sa_cons ?_
      refine se_slice ?_
      refine se_var 1 rfl ?_
      refine so_some ?_
      refine se_int ?_
      refine ⟨_, rfl, ?_⟩
      refine so_none ?_
      refine sv_str hz ?_
      refine sa_nil ?_
      refine ⟨_, rfl, cut_le hz _ _, ?_⟩
      rintro _ rfl
      refine ⟨_, rfl, ?_⟩
      refine ite2 (fun h4 => ?_) (fun h4 => ?_)
      · refine sw_and1 ?_
        refine st_cmp ?_
        refine se_slice ?_
        refine se_var 1 rfl ?_
        refine so_some ?_
        refine se_int ?_
        refine ⟨_, rfl, ?_⟩
        refine so_none ?_
        refine sv_str hz ?_
        refine se_var 0 rfl ?_
        refine ov_gtS ?_
        refine ⟨_, rfl, ?_⟩
        refine ite2 (fun h5 => ?_) (fun h5 => ?_)
        · refine ss_one ?_
          refine s_ret ?_
          refine se_tup ?_
          refine sa_cons ?_
          refine se_str ?_
          refine sa_cons ?_
          refine se_slice ?_
          refine se_var 1 rfl ?_
          refine so_some ?_
          refine se_int ?_
          refine ⟨_, rfl, ?_⟩
          refine so_none ?_
          refine sv_str hz ?_
          refine sa_nil ?_
          refine ⟨by show 2 ≤ sizeLine; decide, ?_⟩
          show _ = optD (lawRow call z)
          rw [e1, if_pos ⟨of_decide_eq_true h3, h4, of_decide_eq_true h5⟩]
          rfl
        · refine ss_nil ?_
          refine ss_one ?_
          refine s_ret ?_
          refine se_non ?_
          exact none_ fun q => h5 (decide_eq_true q.2.2)
      · refine iteF ?_
        refine ss_nil ?_
        refine ss_one ?_
        refine s_ret ?_
        refine se_non ?_
        exact none_ fun q => h4 q.2.1
    · refine iteF ?_
      refine ss_nil ?_
      refine ss_one ?_
      refine s_ret ?_
      refine se_non ?_
      exact none_ fun q => h3 (decide_eq_true q.1)
  refine ss_nil ?_
  refine ss_cons ?_
  refine s_if ?_
  refine st_w ?_
  refine sw_and ?_
  refine st_cmp ?_
  refine se_slice ?_
  refine se_var 1 rfl ?_
  refine so_none ?_
  refine so_some ?_
  refine se_int ?_
  refine ⟨_, rfl, ?_⟩
  refine sv_str hz ?_
  refine se_str ?_
  refine ov_eqS ?_
  refine ⟨_, rfl, ?_⟩
  refine ite2 (fun h3 => ?_) (fun h3 => ?_)
  · refine sw_and1 ?_
    refine st_val ?_
    refine se_fP DN (hr.mono (by decide)) ?_
    refine sa_cons ?_
    refine se_slice ?_
    refine se_var 1 rfl ?_
    refine so_some ?_
    refine se_int ?_
    refine ⟨_, rfl, ?_⟩
    refine so_none ?_
    refine sv_str hz ?_
    refine sa_nil ?_
    refine ⟨_, rfl, cut_le hz _ _, ?_⟩
    rintro _ rfl
    refine ⟨_, rfl, ?_⟩
    refine ite2 (fun h4 => ?_) (fun h4 => ?_)
    · refine ss_one ?_
      refine s_ret ?_
      refine se_tup ?_
      refine sa_cons ?_
      refine se_str ?_
      refine sa_cons ?_
      refine se_slice ?_
      refine se_var 1 rfl ?_
      refine so_some ?_
      refine se_int ?_
      refine ⟨_, rfl, ?_⟩
      refine so_none ?_
      refine sv_str hz ?_
      refine sa_nil ?_
      refine ⟨by show 2 ≤ sizeLine; decide, ?_⟩
      show _ = optD (lawRow call z)
      rw [e1, if_pos ⟨of_decide_eq_true h3, h4⟩]
      rfl
    · refine ss_nil ?_
      exact tail fun q => h4 q.2
  · refine iteF ?_
    refine ss_nil ?_
    exact tail fun q => h3 (decide_eq_true q.1)
end
end K46

set_option Elab.async false
set_option linter.all false
set_option maxRecDepth 100000
set_option maxHeartbeats 4000000
namespace K46
open PySem L2 G PyProof.Rows
/-! ### the two readings of a row agree -/
abbrev spS : Str := " "
abbrev gapS : Str := ", "
abbrev dashS : Str := "-"
def partsOf (z : Str) : List Str := Txt.split z spS
def wordsOf (z : Str) : List Str := if z = dashS then [] else Txt.split z gapS
theorem tl_cutD (z : Str) (lo hi : Option Int) : tl (cutS z lo hi) = G.cutD (tl z) lo hi := by
  rw [tl_cut]
  unfold G.cutD
  rw [len_tl]
theorem parts_of {z : Str} {ps : List Str} (h : tl z = TL.joinL [32] (ps.map tl)) (hne : ps ≠ []) (hf : ∀ p ∈ ps, 32 ∉ tl p) : partsOf z = ps := by
  refine TL.map_tl_inj ?_
  show (Txt.split z spS).map tl = ps.map tl
  rw [split_tl z spS (by decide +kernel) (by decide +kernel), h]
  exact TL.spl_join (fun e => hne (List.map_eq_nil_iff.mp e)) fun p hp => by
    obtain ⟨y, hy, rfl⟩ := List.mem_map.mp hp
    exact hf y hy
theorem of_parts (z : Str) : tl z = TL.joinL [32] ((partsOf z).map tl) := (join_split z spS (by decide +kernel) (by decide +kernel)).symm
theorem parts_free (z : Str) : ∀ p ∈ partsOf z, 32 ∉ tl p := fun p hp => by
  have h := split_tl z spS (by decide +kernel) (by decide +kernel)
  exact spl_free (tl z) [] (by simp) (tl p) (by rw [show TL.spl [32] 0 [] (tl z) = (Txt.split z spS).map tl from h.symm]; exact List.mem_map_of_mem hp)
theorem name_free {s : Str} (h : nameC s = true) : 32 ∉ tl s := fun z => by
  have h1 := (nameC_iff.mp h).2.2 32 z
  have h2 : ¬ (32 ∈ abc.cps.toList) := by decide +kernel
  exact h2 h1
theorem take_drop_cut {z p : Str} {k : Nat} (h : cutS z none (some (k : Int)) = p) (hp : (tl p).length = k) : tl z = tl p ++ tl (cutS z (some (k : Int)) none) := by
  rw [← h, tl_cutD, tl_cutD, cutD_to _ (by omega), cutD_from _ (by omega)]
  exact (List.take_append_drop _ _).symm
theorem cut_take {z p q : Str} {k : Nat} (h : tl z = tl p ++ tl q) (hp : (tl p).length = k) : cutS z none (some (k : Int)) = p ∧ cutS z (some (k : Int)) none = q := by
  constructor
  · refine str_ext ?_
    rw [tl_cutD, cutD_to _ (by omega), h, show ((k : Int)).toNat = (tl p).length by omega, List.take_left]
  · refine str_ext ?_
    rw [tl_cutD, cutD_from _ (by omega), h, show ((k : Int)).toNat = (tl p).length by omega, List.drop_left]
theorem row_agree (call z : Str) : lawRow call z = if rowOk call (partsOf z) = true then some (partsOf z) else none := by
  unfold lawRow
  by_cases h1 : z = nextS
  · have e : partsOf z = [nextS] := by
      rw [h1]
      exact parts_of (ps := [nextS]) rfl (by simp) fun p hp => by rw [List.mem_singleton.mp hp]; decide +kernel
    rw [if_pos h1, e, if_pos]
    unfold rowOk
    rw [decide_eq_true rfl]
    rfl
  rw [if_neg h1]
  by_cases h2 : cutS z none (some 4) = "say " ∧ nameC (from4 z) = true
  · have e0 : tl z = tl ("say " : Str) ++ tl (from4 z) := take_drop_cut (k := 4) h2.1 rfl
    have e : partsOf z = [sayS, from4 z] := parts_of (ps := [sayS, from4 z]) (by rw [e0]; show (tl sayS ++ [32]) ++ _ = tl sayS ++ ([32] ++ _); rw [List.append_assoc]; rfl) (by simp) fun p hp => by
      rcases List.mem_cons.mp hp with q | q
      · rw [q]; decide +kernel
      · rw [List.mem_singleton.mp q]; exact name_free h2.2
    rw [if_pos h2, e, if_pos]
    show (_ || (nameC (from4 z) && (decide (sayS = sayS) || _))) = true
    rw [h2.2, decide_eq_true (rfl : sayS = sayS)]
    exact Bool.or_true _
  rw [if_neg h2]
  by_cases h3 : cutS z none (some 5) = "call " ∧ nameC (from5 z) = true ∧ tl call < tl (from5 z)
  · have e0 : tl z = tl ("call " : Str) ++ tl (from5 z) := take_drop_cut (k := 5) h3.1 rfl
    have e : partsOf z = [callS, from5 z] := parts_of (ps := [callS, from5 z]) (by rw [e0]; show (tl callS ++ [32]) ++ _ = tl callS ++ ([32] ++ _); rw [List.append_assoc]; rfl) (by simp) fun p hp => by
      rcases List.mem_cons.mp hp with q | q
      · rw [q]; decide +kernel
      · rw [List.mem_singleton.mp q]; exact name_free h3.2.1
    rw [if_pos h3, e, if_pos]
    show (_ || (nameC (from5 z) && (decide (callS = sayS) || (decide (callS = callS) && decide (tl call < tl (from5 z)))))) = true
    rw [h3.2.1, decide_eq_true (rfl : callS = callS), decide_eq_true h3.2.2]
    simp
  rw [if_neg h3, if_neg]
  intro hr
  have hj := of_parts z
  unfold rowOk at hr
  rcases Bool.or_eq_true_iff.mp hr with hr | hr
  · have e := of_decide_eq_true hr
    rw [e] at hj
    exact h1 (str_ext hj)
  · match hp : partsOf z with
    | [] => rw [hp] at hr; cases hr
    | [a] => rw [hp] at hr; cases hr
    | a :: b :: d :: r => rw [hp] at hr; cases hr
    | [a, b] =>
      rw [hp] at hr hj
      have hj : tl z = tl a ++ ([32] ++ tl b) := hj
      unfold row2 at hr
      obtain ⟨hb, hr⟩ := Bool.and_eq_true_iff.mp hr
      rcases Bool.or_eq_true_iff.mp hr with hr | hr
      · have e := of_decide_eq_true hr
        have := cut_take (z := z) (p := "say ") (q := b) (k := 4) (by rw [hj, e, ← List.append_assoc]; rfl) rfl
        refine h2 ⟨this.1, ?_⟩
        rw [show from4 z = b from this.2]
        exact hb
      · obtain ⟨hr, hlt⟩ := Bool.and_eq_true_iff.mp hr
        have e := of_decide_eq_true hr
        have := cut_take (z := z) (p := "call ") (q := b) (k := 5) (by rw [hj, e, ← List.append_assoc]; rfl) rfl
        refine h3 ⟨this.1, ?_, ?_⟩
        · rw [show from5 z = b from this.2]
          exact hb
        · rw [show from5 z = b from this.2]
          exact of_decide_eq_true hlt
/-! ### what is due -/
def bad (call : Str) (x : Str) : Bool := !rowOk call (partsOf x)
def rowD (x : Str) : Dt := .tup ((partsOf x).map .str)
def resD (call : Str) (ws : List Str) : Dt := match (ws.take 6).findIdx? (bad call) with
  | some i => .int (i : Nat)
  | none => if ws.length ≤ 6 then .tup (ws.map rowD) else .int 6
def dueD (call : Str) : Dt → Dt
  | .str z => resD call (wordsOf z)
  | _ => .int (-1)
theorem optD_bad {call x : Str} (h : bad call x = true) : optD (lawRow call x) = .non := by
  unfold bad at h
  rw [row_agree, if_neg (by intro e; rw [e] at h; cases h)]
  rfl
theorem optD_ok {call x : Str} (h : bad call x = false) : optD (lawRow call x) = rowD x := by
  unfold bad at h
  rw [row_agree, if_pos (by cases e : rowOk call (partsOf x) with | true => rfl | false => rw [e] at h; cases h)]
  rfl
theorem eqd_opt (call x : Str) : eqd (optD (lawRow call x)) .non = bad call x := by
  cases h : bad call x with
  | true => rw [optD_bad h]; rfl
  | false => rw [optD_ok h]; rfl
abbrev BIG : Nat := 200000
theorem words_asc {z : Str} (h : Asc BIG z) : ∀ y ∈ wordsOf z, Asc BIG y := fun y hy => by
  unfold wordsOf at hy
  split at hy
  · exact nomatch hy
  · exact h.part (by decide +kernel) (by decide +kernel) y hy
theorem parts_asc {z : Str} (h : Asc BIG z) : ∀ y ∈ partsOf z, Asc BIG y := fun y hy => h.part (y := spS) (by decide +kernel) (by decide +kernel) y hy
theorem words_len {z : Str} (h : Asc BIG z) : (wordsOf z).length ≤ 200010 := by
  unfold wordsOf
  split
  · decide
  · have := split_le z gapS
    have : z.length ≤ 200000 := h.len
    omega
theorem parts_le {z : Str} (h : Asc BIG z) : (partsOf z).length ≤ 200010 := by
  have := split_le z spS
  have : z.length ≤ 200000 := h.len
  unfold partsOf
  omega
theorem rowD_fit {x : Str} (h : Asc BIG x) : Fit 1 (rowD x) := fit_tup (n := 0) fun d hd => by
  obtain ⟨y, hy, rfl⟩ := List.mem_map.mp hd
  exact fit_str (parts_asc h y hy).ok
theorem optD_fit (call : Str) {x : Str} (h : Asc BIG x) : Fit 1 (optD (lawRow call x)) := by
  cases e : bad call x with
  | true => rw [optD_bad e]; exact fit_non
  | false => rw [optD_ok e]; exact rowD_fit h
theorem resD_fit (call : Str) {ws : List Str} (h : ∀ y ∈ ws, Asc BIG y) : Fit 64 (resD call ws) := by
  unfold resD
  split
  · exact fit_int
  · split
    · exact (fit_tup (n := 1) fun d hd => by obtain ⟨y, hy, rfl⟩ := List.mem_map.mp hd; exact rowD_fit (h y hy)).mono (by decide)
    · exact fit_int
theorem dueD_fit (call : Str) {d : Dt} (h : ∀ z, d = .str z → Asc BIG z) : Fit 64 (dueD call d) := by
  cases d with
  | str z => exact resD_fit call (words_asc (h z rfl))
  | _ => exact fit_int
theorem dueD_noBool (call : Str) (d : Dt) : isBoolD (dueD call d) = false ∧ noRaw (dueD call d) = true := by
  cases d with
  | str z =>
    show isBoolD (resD call (wordsOf z)) = false ∧ noRaw (resD call (wordsOf z)) = true
    unfold resD
    split
    · exact ⟨rfl, rfl⟩
    · split <;> exact ⟨rfl, rfl⟩
  | _ => exact ⟨rfl, rfl⟩
section
variable {P : Program} {w : World} {K : PySem.W.Frag} {mg : Str → Option Value} {base : Heap}
abbrev sDue : Stmt := top 25
abbrev nDue : List Str := ["_law_call", "_law_thing", "_law_words", "_law_rows", "_law_word"]
theorem scDue : FnScope nDue ["_law_call", "_law_thing"] (defScope sDue) := ⟨rfl, rfl, rfl, by decide +kernel, rfl, by decide +kernel, by decide +kernel⟩
abbrev spDue (K : PySem.W.Frag) : Sp := spP K (fun x : Str × Dt => [.str x.1, x.2]) (fun x => noRaw x.2 = true ∧ ∀ z, x.2 = .str z → Asc BIG z) (fun x d => d = dueD x.1 x.2)
theorem getE? {α : Type} {l : List α} {i : Nat} (h : i < l.length) : l[i]? = some l[i] := List.getElem?_eq_getElem h
theorem ok_due {f : Addr} {fd : FuncData} (Fu : Fun K "_law_due" "_law_due" sDue f fd) (T : Txt mg) (DR : DefOk P w K mg base CX0 2 "_law_row" ["_law_call", "_law_word"] (spLRow K)) : FnOk P w K mg base CX0 3 f fd ["_law_call", "_law_thing"] (spDue K) := by
  refine fn_P Fu scDue (fun a => rfl) (fun cdv A outer s H E F x hp hr hF => ?_)
  obtain ⟨call, thing⟩ := x
  obtain ⟨nr, hz⟩ := hp
  simp only at nr hz
  refine ss_cons ?_
  refine s_if ?_
  refine st_not ?_
  refine st_val ?_
  refine se_callB (id := "isinstance") T.isi ?_
  refine sa_cons ?_
  refine se_var 1 rfl ?_
  refine sa_cons ?_
  refine se_ty (T := "str") T.str ?_
  refine sa_nil ?_
  refine cv_isStr nr ?_
  refine ⟨_, rfl, ?_⟩
  cases thing with
  | str z =>
    have hz := hz z rfl
    have ha := words_asc hz
    have hl := words_len hz
    have key : SS F (cxOf CX0 P w K mg base nDue "_law_due" (defScope sDue) f cdv A outer s H E).nox ((startP nDue [.str call, .str z]).set 2 (.dat (.lst ((wordsOf z).map .str)))) 0 ((defBody sDue).drop 2) { nx := fun _ _ => Dt.non = dueD call (.str z), rt := fun _ _ d => d = dueD call (.str z) } := by
      obtain ⟨ws, hws⟩ : ∃ ws, ws = wordsOf z := ⟨_, rfl⟩
      have hdue : dueD call (.str z) = resD call ws := by rw [hws]; rfl
      rw [hdue, ← hws]
      rw [← hws] at ha hl
      refine ss_cons ?_
      refine s_setT 3 (ps_lc 3 4 rfl scDue.nd (blkOk_by (own := [("_law_word", 4)]) (N := nDue) (sc := defScope sDue) (by decide +kernel))) (lct_lc 4 rfl rfl (map_sw (fun d => match d with | .str x => optD (lawRow call x) | _ => .non) ?_))
      refine sw_lst ?_
      refine se_var 2 rfl ?_
      refine ⟨_, rfl, by rw [List.length_map]; exact Nat.le_trans hl (by decide), ?_, ?_⟩
      · rintro d hd F' s0 H0 C cl fp hF'
        obtain ⟨y, hy, rfl⟩ := List.mem_map.mp hd
        refine se_fP DR (hr.mono (by decide)) ?_
        refine sa_cons ?_
        refine se_var 0 rfl ?_
        refine sa_cons ?_
        refine se_var 4 rfl ?_
        refine sa_nil ?_
        refine ⟨(call, y), rfl, Nat.le_trans (ha y hy).len (by decide), ?_⟩
        rintro _ rfl
        exact ⟨rfl, rfl⟩
      rw [List.map_map]
      show SS _ _ (List.set _ 3 (.dat (.lst (ws.map fun x => optD (lawRow call x))))) _ _ _
      have hfl : ∀ ys : List Str, (∀ y ∈ ys, Asc BIG y) → Fit 64 (.lst (ys.map fun x => optD (lawRow call x))) := fun ys h => (fit_lst (n := 1) fun d hd => by obtain ⟨y, hy, rfl⟩ := List.mem_map.mp hd; exact optD_fit call (h y hy)).mono (by decide)
      refine ss_cons ?_
      refine s_if ?_
      refine st_cmp ?_
      refine se_non ?_
      refine se_slice ?_
      refine se_var 3 rfl ?_
      refine so_none ?_
      refine so_some ?_
      refine se_int ?_
      refine ⟨_, rfl, ?_⟩
      refine sv_lst  ?_
      rw [cutD_map, cutD_to _ (by decide)]
      show OpV _ _ _ _ _ _ (.lst ((ws.take 6).map fun x => optD (lawRow call x))) _
      refine ov_inD (room65 hr) fit_non (hfl _ fun y hy => ha y (List.mem_of_mem_take hy)) ⟨_, rfl, ?_⟩
      rw [List.any_map, show ((fun z => eqd z Dt.non) ∘ fun x => optD (lawRow call x)) = bad call from funext fun x => eqd_opt call x]
      cases hfi : (ws.take 6).findIdx? (bad call) with
      | some j =>
        obtain ⟨hj, hb, hlt⟩ := List.findIdx?_eq_some_iff_getElem.mp hfi
        have hj6 : j < 6 ∧ j < ws.length := by rw [List.length_take] at hj; omega
        have hres : resD call ws = .int (j : Nat) := by unfold resD; rw [hfi]
        rw [if_pos (List.any_eq_true.mpr ⟨_, List.getElem_mem hj, hb⟩)]
        refine ss_one ?_
        refine s_ret ?_
        refine se_indexD (room65 hr) ?_
        refine se_var 3 rfl ?_
        refine ⟨_, rfl, ?_⟩
        refine se_non ?_
        refine ⟨j, optD (lawRow call ws[j]), fit_non, hfl ws ha, by rw [List.getElem?_map, getE? hj6.2]; rfl, ?_, fun m z' hm hz' => ?_, ?_⟩
        · rw [eqd_opt]
          have : (ws.take 6)[j] = ws[j] := List.getElem_take
          rw [← this]
          exact hb
        · rw [List.getElem?_map] at hz'
          cases e : ws[m]? with
          | none => rw [e] at hz'; cases hz'
          | some y =>
            rw [e] at hz'
            cases hz'
            rw [eqd_opt]
            have h1 := hlt m hm
            have h2 : (ws.take 6)[m]'(by omega) = y := by
              rw [List.getElem_take]
              exact (List.getElem?_eq_some_iff.mp e).2
            rw [h2] at h1
            exact eq_false_of_ne_true h1
        · exact hres.symm
      | none =>
        have hno := List.findIdx?_eq_none_iff.mp hfi
        rw [if_neg (by intro h; obtain ⟨y, hy, hb⟩ := List.any_eq_true.mp h; rw [hno y hy] at hb; cases hb)]
        refine ss_nil ?_
        refine ss_one ?_
        refine s_ret ?_
        refine se_if ?_
        refine st_cmp ?_
        refine se_callB (id := "len") T.len ?_
        refine sa_cons ?_
        refine se_var 3 rfl ?_
        refine sa_nil ?_
        refine cv_len (l := ws.map fun x => optD (lawRow call x)) rfl ?_
        refine se_int ?_
        refine ov_lt ?_
        refine ⟨_, rfl, ?_⟩
        refine ite2 (fun h => ?_) (fun h => ?_)
        · have h := of_decide_eq_true h
          rw [List.length_map] at h
          have h6 : ws.length ≤ 6 := by omega
          refine se_callT (id := "tuple") T.tuple ?_
          refine sa_cons ?_
          refine se_var 3 rfl ?_
          refine sa_nil ?_
          refine cv_tuple (l := ws.map fun x => optD (lawRow call x)) rfl ?_
          show Dt.tup _ = resD call ws
          unfold resD
          rw [hfi]
          show _ = if ws.length ≤ 6 then _ else _
          rw [if_pos h6]
          exact congrArg Dt.tup (List.map_congr_left fun y hy => optD_ok (hno y (by rw [List.take_of_length_le h6]; exact hy)))
        · have h : ¬ ws.length ≤ 6 := fun z => h (decide_eq_true (by rw [List.length_map]; omega))
          refine se_int ?_
          show Dt.int 6 = resD call ws
          unfold resD
          rw [hfi]
          show _ = if ws.length ≤ 6 then _ else _
          rw [if_neg h]
    refine iteF ?_
    refine ss_nil ?_
    refine ss_cons ?_
    refine s_set 2 scDue.nd ?_
    refine se_if ?_
    refine st_cmp ?_
    refine se_var 1 rfl ?_
    refine se_str ?_
    refine ov_neS ?_
    refine ⟨_, rfl, ?_⟩
    refine ite2 (fun h => ?_) (fun h => ?_)
    · refine se_split ?_
      refine se_var 1 rfl ?_
      refine ⟨_, rfl, ?_⟩
      refine se_str ?_
      refine ⟨_, rfl, rfl, Nat.le_trans (Nat.add_le_add_right hz.len 2) (by decide), ?_⟩
      have e : wordsOf z = Txt.split z gapS := by
        unfold wordsOf
        rw [if_neg fun q => by rw [decide_eq_true q] at h; cases h]
      rw [← e]
      exact key
    · refine se_lst ?_
      refine sa_nil ?_
      refine ⟨by show 0 ≤ sizeLine; decide, ?_⟩
      have e : wordsOf z = [] := by
        unfold wordsOf
        rw [if_pos]
        cases q : decide (z = Str.ofString "-") with
        | true => exact of_decide_eq_true q
        | false => rw [q] at h; exact absurd rfl h
      rw [e] at key
      exact key
  | _ =>
    refine iteT ?_
    refine ss_one ?_
    refine s_ret ?_
    refine se_neg  ?_
    refine se_int ?_
    exact ⟨_, rfl, rfl⟩
end
end K46

set_option Elab.async false
set_option linter.all false
set_option maxRecDepth 100000
set_option maxHeartbeats 4000000
namespace K46
open PySem L2 G PyProof.Rows
theorem isRow_big {l : List Str} (h : ∀ y ∈ l, Asc BIG y) : ∀ y ∈ l, Asc BIG y := h
theorem enumD_get {l : List Dt} {i : Nat} {d : Dt} (h : (enumD l)[i]? = some d) : ∃ x, l[i]? = some x ∧ d = .tup [.int (i : Int), x] := by
  unfold enumD at h
  rw [List.getElem?_map] at h
  cases e : (List.range l.length)[i]? with
  | none => rw [e] at h; cases h
  | some j =>
    rw [e] at h
    cases h
    have hi := (List.getElem?_eq_some_iff.mp e).1
    rw [List.length_range] at hi
    rw [List.getElem?_range hi] at e
    cases e
    exact ⟨l[i], getE? hi, by show Dt.tup [_, l.getD i .non] = _; rw [List.getD_eq_getElem?_getD, getE? hi]; rfl⟩
section
variable {P : Program} {w : World} {K : PySem.W.Frag} {mg : Str → Option Value} {base : Heap}
abbrev sRead : Stmt := top 15
abbrev nRead : List Str := ["call", "string", "rows", "at", "row", "part"]
theorem scRead : FnScope nRead ["call", "string"] (defScope sRead) := ⟨rfl, rfl, rfl, by decide +kernel, rfl, by decide +kernel, by decide +kernel⟩
abbrev spRead (K : PySem.W.Frag) (C : Addr) : Sp := spX K C "at" (fun x : Str × Dt => [.str x.1, x.2]) (fun x => noRaw x.2 = true ∧ ∀ z, x.2 = .str z → Asc BIG z) (fun x d => d = dueD x.1 x.2) (fun x d => d = dueD x.1 x.2 ∧ isTupD (dueD x.1 x.2) = false)
theorem ok_read {f C : Addr} {fd : FuncData} (Fu : Fun K "read_body" "read_body" sRead f fd) (T : Txt mg) (TX : ExC P w K mg base C "NoText" "at" smallI) (DR : DefOk P w K mg base CX0 2 "is_row" ["call", "thing"] (spIsRow K)) : FnOk P w K mg base (L2.CX P w) 4 f fd ["call", "string"] (spRead K C) := by
  refine fn_X Fu scRead (fun a => rfl) (fun cdv A outer s H E F x hp hr hF tk hE => ?_)
  obtain ⟨call, thing⟩ := x
  obtain ⟨nr, hz⟩ := hp
  simp only at nr hz
  obtain ⟨t1, hGAP⟩ := T.ROW_GAP
  obtain ⟨t2, hNO⟩ := T.NO_ROWS
  obtain ⟨t3, hMR⟩ := T.MOST_ROWS
  refine ss_cons ?_
  refine s_if ?_
  refine st_not ?_
  refine st_val ?_
  refine se_callB (id := "isinstance") T.isi ?_
  refine sa_cons ?_
  refine se_var 1 rfl ?_
  refine sa_cons ?_
  refine se_ty (T := "str") T.str ?_
  refine sa_nil ?_
  refine cv_isStr nr ?_
  refine ⟨_, rfl, ?_⟩
  cases thing with
  | str z =>
    have hz := hz z rfl
    have ha := words_asc hz
    have hl := words_len hz
    have key : SS F (cxOf (L2.CX P w) P w K mg base nRead "read_body" (defScope sRead) f cdv A outer s H E) ((startP nRead [.str call, .str z]).set 2 (.dat (.lst ((wordsOf z).map rowD)))) 0 ((defBody sRead).drop 2) { nx := fun _ _ => Dt.non = dueD call (.str z), rt := fun _ _ d => d = dueD call (.str z) } := by
      have hE : ∀ Γ' c' σ' v H1 dd d, d = dueD call (.str z) ∧ isTupD (dueD call (.str z)) = false → SI K F Γ' c' σ' H1 → DV K (Vw F Γ' H1) v d → H1 dd = none → E (.ref C) (some dd) (upd H1 dd (.xd [("at", v)])) := hE
      obtain ⟨ws, hws⟩ : ∃ ws, ws = wordsOf z := ⟨_, rfl⟩
      have hdue : dueD call (.str z) = resD call ws := by rw [hws]; rfl
      rw [hdue] at hE ⊢
      rw [← hws]
      rw [← hws] at ha hl
      refine ss_cons ?_
      refine s_for PassesOwn.leaving rfl ?_
      refine sw_enum T.enumerate ?_
      refine se_slice ?_
      refine se_var 2 rfl ?_
      refine so_none ?_
      refine so_some ?_
      refine se_gint hMR ?_
      refine ⟨_, rfl, ?_⟩
      refine sv_lst  ?_
      rw [cutD_map, cutD_to _ (by decide)]
      refine ⟨_, rfl, fun i Γ' c' => (∃ sA sR : Sl, sA.addr = [] ∧ sR.addr = [] ∧ Γ' = [.dat (.str call), .dat (.str z), .dat (.lst (ws.map rowD)), sA, sR, .un]) ∧ ∀ m y, m < i → (ws.take 6)[m]? = some y → bad call y = false, ⟨⟨.un, .un, rfl, rfl, rfl⟩, fun m y h => absurd h (Nat.not_lt_zero _)⟩, ?_, ?_⟩
      · rintro i d Γ' c' hd ⟨⟨sA, sR, hA, hR, rfl⟩, hok⟩
        obtain ⟨y', hy', rfl⟩ := enumD_get hd
        rw [List.getElem?_map] at hy'
        cases e : (ws.take 6)[i]? with
        | none => rw [show (6 : Int).toNat = 6 from rfl, e] at hy'; cases hy'
        | some y =>
          rw [show (6 : Int).toNat = 6 from rfl, e] at hy'
          cases hy'
          have hi : i < 6 := by
            have := (List.getElem?_eq_some_iff.mp e).1
            rw [List.length_take] at this
            omega
          have hya := ha y (List.mem_of_mem_take (List.mem_of_getElem? e))
          refine sg_tup rfl ?_
          refine sgs_cons  ?_
          refine sg_name 3 scRead.nd ?_
          refine sgs_cons  ?_
          refine sg_name 4 scRead.nd ?_
          refine sgs_nil  ?_
          refine ss_one ?_
          refine s_if ?_
          refine st_not ?_
          refine st_val ?_
          refine se_fP DR (hr.mono (by decide)) ?_
          refine sa_cons ?_
          refine se_var 0 rfl ?_
          refine sa_cons ?_
          refine se_var 4 rfl ?_
          refine sa_nil ?_
          refine ⟨(call, partsOf y), rfl, parts_asc hya, ?_⟩
          rintro _ rfl
          refine ⟨_, rfl, ?_⟩
          refine ite2 (fun hb => ?_) (fun hb => ?_)
          · have hb : bad call y = true := hb
            have hres : resD call ws = .int (i : Nat) := by
              unfold resD
              rw [List.findIdx?_eq_some_iff_getElem.mpr ⟨(List.getElem?_eq_some_iff.mp e).1, by rw [(List.getElem?_eq_some_iff.mp e).2]; exact hb, fun j hj => by
                have := hok j _ hj (getE? (Nat.lt_trans hj (List.getElem?_eq_some_iff.mp e).1))
                rw [this]
                exact Bool.false_ne_true⟩]
            refine ss_one ?_
            refine s_raise TX rfl tk (hr.mono (by decide)) ?_
            refine se_var 3 rfl ?_
            exact ⟨⟨i, rfl, by omega, by omega⟩, fun v H1 σ dd S dv hn => hE _ _ _ v H1 dd _ ⟨hres.symm, by rw [hres]; rfl⟩ S dv hn⟩
          · refine ss_nil ?_
            refine ⟨⟨_, _, rfl, rfl, rfl⟩, fun m y2 hm hy2 => ?_⟩
            by_cases hmi : m < i
            · exact hok m y2 hmi hy2
            · have : m = i := by omega
              rw [this, e] at hy2
              cases hy2
              exact eq_false_of_ne_true hb
      · rintro Γ' c' ⟨⟨sA, sR, hA, hR, rfl⟩, hok⟩
        have hlen : (enumD ((ws.take (6 : Int).toNat).map rowD)).length = (ws.take 6).length := by unfold enumD; rw [List.length_map, List.length_range, List.length_map]; rfl
        rw [hlen] at hok
        have hfi : (ws.take 6).findIdx? (bad call) = none := List.findIdx?_eq_none_iff.mpr fun y hy => by
          obtain ⟨m, hm, e⟩ := List.getElem_of_mem hy
          exact hok m y hm (by rw [getE? hm, e])
        refine ss_cons ?_
        refine s_if ?_
        refine st_cmp ?_
        refine se_callB (id := "len") T.len ?_
        refine sa_cons ?_
        refine se_var 2 rfl ?_
        refine sa_nil ?_
        refine cv_len (l := ws.map rowD) rfl ?_
        refine se_gint hMR ?_
        refine ov_gt ?_
        refine ⟨_, rfl, ?_⟩
        refine ite2 (fun h => ?_) (fun h => ?_)
        · have h : ¬ ws.length ≤ 6 := by have := of_decide_eq_true h; rw [List.length_map] at this; omega
          have hres : resD call ws = .int 6 := by
            unfold resD
            rw [hfi]
            show (if ws.length ≤ 6 then _ else _) = _
            rw [if_neg h]
          refine ss_one ?_
          refine s_raise TX rfl tk (hr.mono (by decide)) ?_
          refine se_gint hMR ?_
          exact ⟨⟨6, rfl, by decide, by decide⟩, fun v H1 σ dd S dv hn => hE _ _ _ v H1 dd _ ⟨hres.symm, by rw [hres]; rfl⟩ S dv hn⟩
        · have h : ws.length ≤ 6 := by
            rw [List.length_map] at h
            have : ¬ (6 : Int) < (ws.length : Int) := fun q => h (decide_eq_true q)
            omega
          refine ss_nil ?_
          refine ss_one ?_
          refine s_ret ?_
          refine se_callT (id := "tuple") T.tuple ?_
          refine sa_cons ?_
          refine se_var 2 rfl ?_
          refine sa_nil ?_
          refine cv_tuple (l := ws.map rowD) rfl ?_
          show Dt.tup _ = resD call ws
          unfold resD
          rw [hfi]
          show _ = if ws.length ≤ 6 then _ else _
          rw [if_pos h]
    refine iteF ?_
    refine ss_nil ?_
    refine ss_cons ?_
    refine s_set 2 scRead.nd ?_
    refine se_if ?_
    refine st_cmp ?_
    refine se_var 1 rfl ?_
    refine se_gstr hNO ?_
    refine ov_neS ?_
    refine ⟨_, rfl, ?_⟩
    refine ite2 (fun h => ?_) (fun h => ?_)
    · refine SEL.se ?_
      refine sel_lc 5 rfl scRead.nd (blkOk_by (own := [("part", 5)]) (N := nRead) (sc := defScope sRead) (by decide +kernel)) rfl rfl (map_sw (fun d => match d with | .str x => rowD x | _ => .non) ?_)
      refine sw_lst ?_
      refine se_split ?_
      refine se_var 1 rfl ?_
      refine ⟨_, rfl, ?_⟩
      refine se_gstr hGAP ?_
      refine ⟨_, rfl, rfl, Nat.le_trans (Nat.add_le_add_right hz.len 2) (by decide), ?_⟩
      have e : wordsOf z = Txt.split z gapS := by
        unfold wordsOf
        rw [if_neg fun q => by rw [decide_eq_true q] at h; cases h]
      rw [← e]
      refine ⟨_, rfl, by rw [List.length_map]; exact Nat.le_trans hl (by decide), ?_, ?_⟩
      · rintro d hd F' s0 H0 Cc cl fp hF'
        obtain ⟨y, hy, rfl⟩ := List.mem_map.mp hd
        refine se_callT (id := "tuple") T.tuple ?_
        refine sa_cons ?_
        refine se_split ?_
        refine se_var 5 rfl ?_
        refine ⟨_, rfl, ?_⟩
        refine se_str ?_
        refine ⟨_, rfl, rfl, Nat.le_trans (Nat.add_le_add_right (ha y hy).len 2) (by decide), ?_⟩
        refine sa_nil ?_
        exact cv_tuple (l := (partsOf y).map .str) rfl ⟨rfl, rfl⟩
      · rw [List.map_map]
        exact key
    · refine se_lst ?_
      refine sa_nil ?_
      refine ⟨by show 0 ≤ sizeLine; decide, ?_⟩
      have e : wordsOf z = [] := by
        unfold wordsOf
        rw [if_pos]
        cases q : decide (z = Str.ofString "-") with
        | true => exact of_decide_eq_true q
        | false => rw [q] at h; exact absurd rfl h
      rw [e] at key
      exact key
  | _ =>
    refine iteT ?_
    refine ss_one ?_
    refine s_raise TX rfl tk (hr.mono (by decide)) ?_
    refine se_neg  ?_
    refine se_int ?_
    exact ⟨_, rfl, ⟨-1, rfl, by decide, by decide⟩, fun v H1 σ dd S dv hn => hE _ _ _ v H1 dd _ ⟨rfl, rfl⟩ S dv hn⟩
/-! told -/
abbrev sTold : Stmt := top 26
abbrev nTold : List Str := ["_law_call", "_law_thing", "e"]
theorem scTold : FnScope nTold ["_law_call", "_law_thing"] (defScope sTold) := ⟨rfl, rfl, rfl, by decide +kernel, rfl, by decide +kernel, by decide +kernel⟩
theorem ok_told {f C : Addr} {fd : FuncData} (Fu : Fun K "_law_told" "_law_told" sTold f fd) (T : Txt mg) (TX : ExC P w K mg base C "NoText" "at" smallI) (DR : DefOk P w K mg base (L2.CX P w) 4 "read_body" ["call", "string"] (spRead K C)) : FnOk P w K mg base CX0 5 f fd ["_law_call", "_law_thing"] (spDue K) := by
  refine fn_P Fu scTold (fun a => rfl) (fun cdv A outer s H E F x hp hr hF => ?_)
  obtain ⟨call, thing⟩ := x
  refine ss_one ?_
  refine s_try 2 (fun d => d = dueD call thing) TX scTold.nd hF rfl (fun F' W pn xe hF' tk hW => ?_) (fun F' a oe pn dd d c1 hF' wd hz hd => ?_)
  · refine ss_one ?_
    refine s_ret ?_
    refine se_fX (fun d => d = dueD call thing) DR (hr.mono (by decide)) tk hW ?_
    refine sa_cons ?_
    refine se_var 0 rfl ?_
    refine sa_cons ?_
    refine se_var 1 rfl ?_
    refine sa_nil ?_
    exact ⟨(call, thing), rfl, hp, fun d hd => hd, fun d hd => hd.1⟩
  · refine ss_one ?_
    refine s_ret ?_
    exact se_xf 2 TX.xf TX.nof hz hd rfl rfl wd
end
end K46

set_option Elab.async false
set_option linter.all false
set_option maxRecDepth 100000
set_option maxHeartbeats 4000000
namespace K46
open PySem L2 G PyProof.Rows
/-! ### what is written is read again -/
theorem small_of_ok {call : Str} {r : R} (h : okR call r) : smallR r := by
  cases r with
  | nx => exact True.intro
  | say s => exact name_asc h
  | cl s => exact name_asc h.1
theorem parts_word {call : Str} {r : R} (h : okR call r) : partsOf (wordR r) = partsR r := parts_of (tl_word r) (by cases r <;> simp [partsR]) fun p hp => by
  cases r with
  | nx => rw [List.mem_singleton.mp hp]; decide +kernel
  | say s =>
    rcases List.mem_cons.mp hp with q | q
    · rw [q]; decide +kernel
    · rw [List.mem_singleton.mp q]; exact name_free h
  | cl s =>
    rcases List.mem_cons.mp hp with q | q
    · rw [q]; decide +kernel
    · rw [List.mem_singleton.mp q]; exact name_free h.1
theorem row_ok {call : Str} {r : R} (h : okR call r) : bad call (wordR r) = false := by
  unfold bad
  rw [parts_word h]
  cases r with
  | nx =>
    show (!(decide ([nextS] = [nextS]) || _)) = false
    rw [decide_eq_true rfl]
    rfl
  | say s =>
    show (!(_ || (nameC s && (decide (sayS = sayS) || _)))) = false
    rw [show nameC s = true from h, decide_eq_true (rfl : sayS = sayS)]
    simp
  | cl s =>
    show (!(_ || (nameC s && (_ || (decide (callS = callS) && decide (tl call < tl s)))))) = false
    rw [show nameC s = true from h.1, decide_eq_true (rfl : callS = callS), decide_eq_true h.2]
    simp
theorem rowD_word {call : Str} {r : R} (h : okR call r) : rowD (wordR r) = encR r := by
  unfold rowD
  rw [parts_word h, encR_eq]
theorem word_comma {call : Str} {r : R} (h : okR call r) : 44 ∉ tl (wordR r) := fun z => by
  rw [tl_word] at z
  have nn : ∀ s, nameC s = true → 44 ∉ tl s := fun s hs q => by
    have h1 := (nameC_iff.mp hs).2.2 44 q
    exact (show ¬ (44 ∈ abc.cps.toList) by decide +kernel) h1
  rcases of_joinL z with z2 | ⟨p, hp, z2⟩
  · simp at z2
  · obtain ⟨y, hy, rfl⟩ := List.mem_map.mp hp
    cases r with
    | nx => rw [List.mem_singleton.mp hy] at z2; exact absurd z2 (by decide +kernel)
    | say s =>
      rcases List.mem_cons.mp hy with q | q
      · rw [q] at z2; exact absurd z2 (by decide +kernel)
      · rw [List.mem_singleton.mp q] at z2; exact nn s h z2
    | cl s =>
      rcases List.mem_cons.mp hy with q | q
      · rw [q] at z2; exact absurd z2 (by decide +kernel)
      · rw [List.mem_singleton.mp q] at z2; exact nn s h.1 z2
theorem word_len (r : R) : 4 ≤ (tl (wordR r)).length := by
  rw [tl_word]
  cases r with
  | nx => decide
  | say s =>
    show 4 ≤ (tl sayS ++ ([32] ++ tl s)).length
    rw [List.length_append, List.length_append, show (tl sayS).length = 3 from rfl, List.length_singleton]
    omega
  | cl s =>
    show 4 ≤ (tl callS ++ ([32] ++ tl s)).length
    rw [List.length_append, List.length_append, show (tl callS).length = 4 from rfl, List.length_singleton]
    omega
theorem words_show {call : Str} {rs : List R} (h : ∀ r ∈ rs, okR call r) : wordsOf (showR rs) = rs.map wordR := by
  cases rs with
  | nil =>
    have e : showR [] = dashS := rfl
    unfold wordsOf
    rw [if_pos e]
    rfl
  | cons r rs =>
    have e : showR (r :: rs) = Txt.join ", " ((r :: rs).map wordR) := by unfold showR; rw [if_neg (by simp)]
    have hs : Txt.split (Txt.join gapS ((r :: rs).map wordR)) gapS = (r :: rs).map wordR := TL.split_join (s := 44) (S := [32]) rfl (by decide +kernel) (by simp) fun p hp => by
      obtain ⟨q, hq, rfl⟩ := List.mem_map.mp hp
      exact word_comma (h q hq)
    unfold wordsOf
    rw [if_neg, e]
    · exact hs
    · intro z
      have h1 : (tl (showR (r :: rs))).length = 1 := by rw [z]; rfl
      rw [e, tl_join] at h1
      have h2 := len_joinL (tl gapS) (((r :: rs).map wordR).map tl)
      rw [if_neg (by simp), h1] at h2
      have h3 : (tl (wordR r)).length ≤ ((((r :: rs).map wordR).map tl).map List.length).sum := le_sum_of_mem (by simp)
      have h4 := word_len r
      have h5 : (tl gapS).length = 2 := rfl
      rw [h5] at h2
      have h6 : 1 ≤ (((r :: rs).map wordR).map tl).length := by simp
      omega
theorem due_show {call : Str} {rs : List R} (h : ∀ r ∈ rs, okR call r) (hl : rs.length ≤ 6) : dueD call (.str (showR rs)) = .tup (rs.map encR) := by
  show resD call (wordsOf (showR rs)) = _
  rw [words_show h]
  unfold resD
  rw [List.findIdx?_eq_none_iff.mpr fun y hy => by
    obtain ⟨r, hr, rfl⟩ := List.mem_map.mp (List.mem_of_mem_take hy)
    exact row_ok (h r hr)]
  show (if (rs.map wordR).length ≤ 6 then Dt.tup _ else _) = _
  rw [if_pos (by rw [List.length_map]; exact hl), List.map_map]
  exact congrArg Dt.tup (List.map_congr_left fun r hr => rowD_word (h r hr))
theorem show_asc {rs : List R} (h : ∀ r ∈ rs, smallR r) (hl : rs.length ≤ 6) : Asc 132 (showR rs) := by
  unfold showR
  split
  · exact ⟨by decide, by decide⟩
  · have hw : ∀ y ∈ rs.map wordR, Asc 20 y := fun y hy => by obtain ⟨r, hr', rfl⟩ := List.mem_map.mp hy; exact word_asc (h r hr')
    refine ⟨?_, fun a ha => ?_⟩
    · rw [len_tl, tl_join]
      have h1 := len_joinL (tl gapS) ((rs.map wordR).map tl)
      have h2 := join_size hw (m := 6) (by rw [List.length_map]; exact hl)
      have h3 : ((rs.map wordR).map (·.length)) = (((rs.map wordR).map tl).map List.length) := by
        rw [List.map_map (f := tl)]
        exact List.map_congr_left fun x _ => len_tl x
      rw [h3] at h2
      rw [List.length_map, List.length_map, show (tl gapS).length = 2 from rfl] at h1
      show (TL.joinL (tl gapS) _).length ≤ 132
      omega
    · rw [tl_join] at ha
      rcases of_joinL ha with z | ⟨p, hp, z⟩
      · have : ∀ a ∈ tl gapS, a < 128 := by decide
        exact this a z
      · obtain ⟨y, hy, rfl⟩ := List.mem_map.mp hp
        exact (hw y hy).cp a z
/-! ### bent texts -/
theorem join_asc {g : Str} {l : List Str} {n m : Nat} (hg : Asc 2 g) (h : ∀ y ∈ l, Asc n y) (hl : l.length ≤ m) : Asc (m * n + m * 2) (Txt.join g l) := by
  refine ⟨?_, fun a ha => ?_⟩
  · rw [len_tl, tl_join]
    have h1 := len_joinL (tl g) (l.map tl)
    have h2 := join_size h hl
    have h3 : (l.map (·.length)) = ((l.map tl).map List.length) := by
      rw [List.map_map (f := tl)]
      exact List.map_congr_left fun x _ => len_tl x
    rw [h3] at h2
    rw [List.length_map] at h1
    have h4 := hg.len
    rw [len_tl] at h4
    have h5 : l.length * (tl g).length ≤ m * 2 := Nat.mul_le_mul hl h4
    omega
  · rw [tl_join] at ha
    rcases of_joinL ha with z | ⟨p, hp, z⟩
    · exact hg.cp a z
    · obtain ⟨y, hy, rfl⟩ := List.mem_map.mp hp
      exact (h y hy).cp a z
theorem rep_map {α β : Type} (f : α → β) (n : Nat) (l : List α) : (List.replicate n (l.map f)).flatten = ((List.replicate n l).flatten).map f := by
  rw [List.map_flatten, List.map_replicate]
section
variable {P : Program} {w : World} {K : PySem.W.Frag} {mg : Str → Option Value} {base : Heap}
abbrev sBent : Stmt := top 27
abbrev nBent : List Str := ["_law_bag_here", "_law_text", "_law_way", "_law_at", "_law_sign", "_law_gap", "_law_some", "_law_far"]
theorem scBent : FnScope nBent ["_law_bag_here", "_law_text"] (defScope sBent) := ⟨rfl, rfl, rfl, by decide +kernel, rfl, by decide +kernel, by decide +kernel⟩
abbrev spBent (K : PySem.W.Frag) : Sp := spB K (fun z : Str => [.str z]) (fun z => Asc 150 z) (fun _ => 5) (fun _ d => ∃ y, d = .str y ∧ Asc BIG y)
theorem ok_bent {f : Addr} {fd : FuncData} (Fu : Fun K "_law_bent" "_law_bent" sBent f fd) (T : Txt mg) (DT : DTake P w K mg base) : FnOk P w K mg base CX0 2 f fd ["_law_bag_here", "_law_text"] (spBent K) := by
  refine fn_B Fu scBent (fun a => rfl) (fun cdv A outer s H E F z c b hp hr hF hc => ?_)
  have hz : Asc 150 z := hp
  have hc : c + 5 ≤ LIM := hc
  have hzl : z.length ≤ sizeLine := Nat.le_trans hz.len (by decide)
  have hz150 : z.length ≤ 150 := hz.len
  refine ss_cons ?_
  refine s_par 2 3 rfl scBent.nd (by decide) ?_
  refine sa_cons ?_
  refine se_fB 0 DT (hr.mono (by decide)) rfl ?_
  refine sa_cons ?_
  refine se_int ?_
  refine sa_nil ?_
  refine ⟨6, rfl, ⟨by decide, by decide⟩, by show c + 1 ≤ LIM; omega, ?_⟩
  rintro _ ⟨wy, rfl, hw0, hw1⟩
  refine sa_cons ?_
  refine se_fB 0 DT (hr.mono (by decide)) rfl ?_
  refine sa_cons ?_
  refine se_bin ?_
  refine se_callB (id := "len") T.len ?_
  refine sa_cons ?_
  refine se_var 1 rfl ?_
  refine sa_nil ?_
  refine cv_lenS hzl ?_
  refine se_int ?_
  refine ov_add ?_
  refine sa_nil ?_
  refine ⟨_, rfl, ⟨by omega, by omega⟩, by show c + 1 + 1 ≤ LIM; omega, ?_⟩
  rintro _ ⟨at_, rfl, ha0, ha1⟩
  refine sa_nil ?_
  refine ⟨_, _, rfl, ?_⟩
  refine ss_cons ?_
  refine s_if ?_
  refine st_cmp ?_
  refine se_var 2 rfl ?_
  refine se_int ?_
  refine ov_lt ?_
  refine ⟨_, rfl, ?_⟩
  refine ite2 (fun h => ?_) (fun h => ?_)
  · have h := of_decide_eq_true h
    obtain ⟨sg, hsg⟩ : ∃ sg : Str, sg = " ,-ansyA\n" := ⟨_, rfl⟩
    refine ss_cons ?_
    refine s_set 4 scBent.nd ?_
    refine se_ix ?_
    refine se_str ?_
    refine se_fB 0 DT (hr.mono (by decide)) rfl ?_
    refine sa_cons ?_
    refine se_int ?_
    refine sa_nil ?_
    refine ⟨9, rfl, ⟨by decide, by decide⟩, by show c + 1 + 1 + 1 ≤ LIM; omega, ?_⟩
    rintro _ ⟨k, rfl, hk0, hk1⟩
    obtain ⟨a, ha, ham⟩ := atI_nat' (l := (Str.ofString " ,-ansyA\n").cps.toList) (i := k) hk0 (by rw [show (Str.ofString " ,-ansyA\n").cps.toList.length = 9 from by decide +kernel]; omega)
    have ha128 : a < 128 := (show ∀ a ∈ (Str.ofString " ,-ansyA\n").cps.toList, a < 128 by decide +kernel) a ham
    have hsa : Asc 1 (⟨#[a]⟩ : Str) := ⟨Nat.le_refl 1, fun x hx => by simp [tl] at hx; rw [hx]; exact ha128⟩
    refine iv_str (by decide +kernel) ha ?_
    have c1 := hz.cut none (some at_)
    have c2 := hz.cut (some at_) none
    have c3 := hz.cut (some (at_ + 1)) none
    have le3 : ∀ {n m : Nat} {x y : Str}, Asc n x → Asc m y → n + m ≤ 1000 → x.length + y.length ≤ sizeLine := fun hx hy hnm => Nat.le_trans (Nat.add_le_add hx.len hy.len) (Nat.le_trans hnm (by decide))
    refine ss_one ?_
    refine s_ret ?_
    refine se_ix ?_
    refine se_tup ?_
    refine sa_cons ?_
    refine se_bin ?_
    refine se_bin ?_
    refine se_slice ?_
    refine se_var 1 rfl ?_
    refine so_none ?_
    refine so_some ?_
    refine se_var 3 rfl ?_
    refine ⟨_, rfl, ?_⟩
    refine sv_str hzl ?_
    refine se_var 4 rfl ?_
    refine ov_addS (le3 c1 hsa (by decide)) ?_
    refine se_slice ?_
    refine se_var 1 rfl ?_
    refine so_some ?_
    refine se_var 3 rfl ?_
    refine ⟨_, rfl, ?_⟩
    refine so_none ?_
    refine sv_str hzl ?_
    refine ov_addS (le3 (c1.app hsa) c2 (by decide)) ?_
    refine sa_cons ?_
    refine se_bin ?_
    refine se_slice ?_
    refine se_var 1 rfl ?_
    refine so_none ?_
    refine so_some ?_
    refine se_var 3 rfl ?_
    refine ⟨_, rfl, ?_⟩
    refine sv_str hzl ?_
    refine se_slice ?_
    refine se_var 1 rfl ?_
    refine so_some ?_
    refine se_bin ?_
    refine se_var 3 rfl ?_
    refine se_int ?_
    refine ov_add ?_
    refine ⟨_, rfl, ?_⟩
    refine so_none ?_
    refine sv_str hzl ?_
    refine ov_addS (le3 c1 c3 (by decide)) ?_
    refine sa_cons ?_
    refine se_bin ?_
    refine se_bin ?_
    refine se_slice ?_
    refine se_var 1 rfl ?_
    refine so_none ?_
    refine so_some ?_
    refine se_var 3 rfl ?_
    refine ⟨_, rfl, ?_⟩
    refine sv_str hzl ?_
    refine se_var 4 rfl ?_
    refine ov_addS (le3 c1 hsa (by decide)) ?_
    refine se_slice ?_
    refine se_var 1 rfl ?_
    refine so_some ?_
    refine se_bin ?_
    refine se_var 3 rfl ?_
    refine se_int ?_
    refine ov_add ?_
    refine ⟨_, rfl, ?_⟩
    refine so_none ?_
    refine sv_str hzl ?_
    refine ov_addS (le3 (c1.app hsa) c3 (by decide)) ?_
    refine sa_nil ?_
    refine ⟨by show 3 ≤ sizeLine; decide, ?_⟩
    refine se_var 2 rfl ?_
    have hw : wy = 0 ∨ wy = 1 ∨ wy = 2 := by omega
    rcases hw with rfl | rfl | rfl
    · exact iv_tup rfl ⟨by show c + 1 + 1 + 1 ≤ c + 5; omega, _, rfl, ((c1.app hsa).app c2).mono (by decide)⟩
    · exact iv_tup rfl ⟨by show c + 1 + 1 + 1 ≤ c + 5; omega, _, rfl, (c1.app c3).mono (by decide)⟩
    · exact iv_tup rfl ⟨by show c + 1 + 1 + 1 ≤ c + 5; omega, _, rfl, ((c1.app hsa).app c3).mono (by decide)⟩
  · have h : 3 ≤ wy := by
      have : ¬ wy < 3 := fun q => h (decide_eq_true q)
      omega
    refine ss_nil ?_
    refine ss_cons ?_
    refine s_set 5 scBent.nd ?_
    refine se_ix ?_
    refine se_tup ?_
    refine sa_cons ?_
    refine se_str ?_
    refine sa_cons ?_
    refine se_str ?_
    refine sa_cons ?_
    refine se_str ?_
    refine sa_nil ?_
    refine ⟨by show 3 ≤ sizeLine; decide, ?_⟩
    refine se_bin ?_
    refine se_var 2 rfl ?_
    refine se_int ?_
    refine ov_sub ?_
    obtain ⟨g, hg, hg1, hg2, hg3, hg4⟩ : ∃ g : Str, atI [Dt.str ", ", Dt.str " ", Dt.str ", "] (wy - 3) = some (.str g) ∧ tl g ≠ [] ∧ g.cps.all (· < 256) = true ∧ Asc 2 g ∧ (g.length == 0) = false := by
      have hw : wy = 3 ∨ wy = 4 ∨ wy = 5 := by omega
      rcases hw with rfl | rfl | rfl
      · exact ⟨", ", rfl, by decide, by decide +kernel, ⟨by decide, by decide⟩, rfl⟩
      · exact ⟨" ", rfl, by decide, by decide +kernel, ⟨by decide, by decide⟩, rfl⟩
      · exact ⟨", ", rfl, by decide, by decide +kernel, ⟨by decide, by decide⟩, rfl⟩
    refine iv_tup hg ?_
    refine ss_cons ?_
    refine s_own 6 scBent.nd ?_
    refine sel_split ?_
    refine se_var 1 rfl ?_
    refine ⟨_, rfl, ?_⟩
    refine se_var 5 rfl ?_
    refine ⟨g, rfl, hg4, Nat.le_trans (Nat.add_le_add_right hz.len 2) (by decide), fun p => ?_⟩
    obtain ⟨ps, hps⟩ : ∃ ps, ps = Txt.split z g := ⟨_, rfl⟩
    have hpa : ∀ y ∈ ps, Asc 150 y := fun y hy => hz.part hg1 hg2 y (by rw [← hps]; exact hy)
    have hpl : ps.length ≤ 152 := by have := split_le z g; rw [← hps] at this; omega
    have hp0 : 0 < ps.length := by
      have := split_ne z g hg1 hg2
      rw [← hps] at this
      exact List.length_pos_iff.mpr this
    rw [← hps]
    have hml : (ps.map Dt.str).length = ps.length := List.length_map _
    refine ss_cons ?_
    refine s_par 3 7 rfl scBent.nd (by decide) ?_
    refine sa_cons ?_
    refine se_fB 0 DT (hr.mono (by decide)) rfl ?_
    refine sa_cons ?_
    refine se_lenO 6 T.len rfl ?_
    refine sa_nil ?_
    refine ⟨_, rfl, ⟨by omega, by omega⟩, by show c + 1 + 1 + 1 ≤ LIM; omega, ?_⟩
    rintro _ ⟨a1, rfl, h10, h11⟩
    refine sa_cons ?_
    refine se_fB 0 DT (hr.mono (by decide)) rfl ?_
    refine sa_cons ?_
    refine se_lenO 6 T.len rfl ?_
    refine sa_nil ?_
    refine ⟨_, rfl, ⟨by omega, by omega⟩, by show c + 1 + 1 + 1 + 1 ≤ LIM; omega, ?_⟩
    rintro _ ⟨a2, rfl, h20, h21⟩
    refine sa_nil ?_
    refine ⟨_, _, rfl, ?_⟩
    rw [hml] at h11 h21
    obtain ⟨d1, hd1, hm1⟩ := atI_nat' (l := ps.map Dt.str) h10 (by omega)
    obtain ⟨d2, hd2, hm2⟩ := atI_nat' (l := ps.map Dt.str) h20 (by omega)
    obtain ⟨x1, hx1, rfl⟩ := List.mem_map.mp hm1
    obtain ⟨x2, hx2, rfl⟩ := List.mem_map.mp hm2
    refine ss_cons ?_
    refine s_set2O 6 rfl rfl ?_
    refine se_tup ?_
    refine sa_cons ?_
    refine se_ixO 6 rfl ?_
    refine se_var 7 rfl ?_
    refine ⟨_, _, rfl, hd2, ?_⟩
    refine sa_cons ?_
    refine se_ixO 6 rfl ?_
    refine se_var 3 rfl ?_
    refine ⟨_, _, rfl, hd1, ?_⟩
    refine sa_nil ?_
    refine ⟨by show 2 ≤ sizeLine; decide, _, _, rfl, ?_⟩
    refine se_var 3 rfl ?_
    refine ⟨a1, a1.toNat, rfl, by unfold ixN; rw [if_pos h10, if_pos (by omega)], ?_⟩
    refine se_var 7 rfl ?_
    refine ⟨a2, a2.toNat, rfl, by unfold ixN; rw [if_pos h20, if_pos (by omega)], ?_⟩
    obtain ⟨qs, hqs⟩ : ∃ qs : List Str, qs = (ps.set a1.toNat x2).set a2.toNat x1 := ⟨_, rfl⟩
    have hq1 : ((ps.map Dt.str).set a1.toNat (.str x2)).set a2.toNat (.str x1) = qs.map .str := by rw [hqs, List.map_set, List.map_set]
    have hqa : ∀ y ∈ qs, Asc 150 y := fun y hy => by
      rw [hqs] at hy
      rcases List.mem_or_eq_of_mem_set hy with hy | rfl
      · rcases List.mem_or_eq_of_mem_set hy with hy | rfl
        · exact hpa y hy
        · exact hpa _ hx2
      · exact hpa _ hx1
    have hql : qs.length ≤ 152 := by rw [hqs, List.length_set, List.length_set]; exact hpl
    rw [hq1]
    refine ss_freeze 6 rfl ?_
    refine ss_one ?_
    refine s_ret ?_
    refine se_join ?_
    refine se_var 5 rfl ?_
    refine ⟨g, rfl, ?_⟩
    refine se_bin ?_
    refine se_bin ?_
    refine se_slice ?_
    refine se_var 6 rfl ?_
    refine so_none ?_
    refine so_some ?_
    refine se_var 3 rfl ?_
    refine ⟨_, rfl, ?_⟩
    refine sv_lst  ?_
    rw [cutD_map, cutD_to _ h10]
    refine se_bin ?_
    refine se_slice ?_
    refine se_var 6 rfl ?_
    refine so_some ?_
    refine se_var 3 rfl ?_
    refine ⟨_, rfl, ?_⟩
    refine so_some ?_
    refine se_bin ?_
    refine se_var 3 rfl ?_
    refine se_int ?_
    refine ov_add ?_
    refine ⟨_, rfl, ?_⟩
    refine sv_lst  ?_
    rw [cutD_map]
    refine se_fB 0 DT (hr.mono (by decide)) rfl ?_
    refine sa_cons ?_
    refine se_int ?_
    refine sa_nil ?_
    refine ⟨3, rfl, ⟨by decide, by decide⟩, by show c + 1 + 1 + 1 + 1 + 1 ≤ LIM; omega, ?_⟩
    rintro _ ⟨k, rfl, hk0, hk1⟩
    have hcl : (G.cutD qs (some a1) (some (a1 + 1))).length ≤ 152 := by unfold G.cutD; rw [List.length_take, List.length_drop]; omega
    have hkn : k.toNat ≤ 2 := by omega
    have hrl : (List.replicate k.toNat (G.cutD qs (some a1) (some (a1 + 1)))).flatten.length ≤ 2 * 152 := by
      rw [List.length_flatten, List.map_replicate, List.sum_replicate_nat]
      exact Nat.mul_le_mul hkn hcl
    refine ov_rep (by omega) (by omega) ?_ ?_
    · rw [List.length_map]
      exact Nat.le_trans (Nat.mul_le_mul hcl hkn) (by decide)
    rw [rep_map]
    refine ov_cat ?_ ?_
    · rw [List.length_map, List.length_map, List.length_take]
      exact Nat.le_trans (Nat.add_le_add (Nat.min_le_right _ _) hrl) (Nat.le_trans (Nat.add_le_add_right hql _) (by decide))
    rw [← List.map_append]
    refine se_slice ?_
    refine se_var 6 rfl ?_
    refine so_some ?_
    refine se_bin ?_
    refine se_var 3 rfl ?_
    refine se_int ?_
    refine ov_add ?_
    refine ⟨_, rfl, ?_⟩
    refine so_none ?_
    refine sv_lst  ?_
    rw [cutD_map, cutD_from _ (by omega)]
    have hdl : (qs.drop (a1 + 1).toNat).length ≤ 152 := by rw [List.length_drop]; omega
    have htl : (qs.take a1.toNat ++ (List.replicate k.toNat (G.cutD qs (some a1) (some (a1 + 1)))).flatten).length ≤ 152 + 2 * 152 := by
      rw [List.length_append, List.length_take]
      omega
    refine ov_cat ?_ ?_
    · rw [List.length_map, List.length_map]
      exact Nat.le_trans (Nat.add_le_add htl hdl) (by decide)
    rw [← List.map_append]
    obtain ⟨rs, hrs⟩ : ∃ rs, rs = (qs.take a1.toNat ++ (List.replicate k.toNat (G.cutD qs (some a1) (some (a1 + 1)))).flatten) ++ qs.drop (a1 + 1).toNat := ⟨_, rfl⟩
    have hra : ∀ y ∈ rs, Asc 150 y := fun y hy => by
      refine hqa y ?_
      rw [hrs] at hy
      rcases List.mem_append.mp hy with hy | hy
      · rcases List.mem_append.mp hy with hy | hy
        · exact List.mem_of_mem_take hy
        · obtain ⟨t, ht, hy⟩ := List.mem_flatten.mp hy
          rw [(List.mem_replicate.mp ht).2] at hy
          exact cutD_mem hy
      · exact List.mem_of_mem_drop hy
    have hrn : rs.length ≤ 608 := by rw [hrs, List.length_append]; omega
    rw [← hrs]
    have hj := join_size hra hrn
    have hg2' : g.length ≤ 2 := hg3.len
    have hm2' : rs.length * g.length ≤ 608 * 2 := Nat.mul_le_mul hrn hg2'
    refine ⟨rs, rfl, by omega, by show c + 1 + 1 + 1 + 1 + 1 ≤ c + 5; omega, _, rfl, (join_asc hg3 hra hrn).mono (by decide)⟩
end
end K46

set_option Elab.async false
set_option linter.all false
set_option maxRecDepth 100000
set_option maxHeartbeats 8000000
namespace K46
open PySem L2 G PyProof.Rows
def nb : Sl → Bool
  | .bag => false
  | .own _ _ => false
  | _ => true
theorem nb_dat (d : Dt) : nb (.dat d) = true := rfl
theorem nb_un : nb .un = true := rfl
theorem nb_addr {s : Sl} (h : nb s = true) : s.addr = [] := by cases s <;> first | rfl | cases h
theorem noBag_of {i : Nat} {Γ : List Sl} (h : (Γ.set i .un).all nb = true) : NoBag i Γ := fun j hj e => by
  have h1 : (Γ.set i .un)[j]? = some .bag := by rw [List.getElem?_set_ne (Ne.symm hj)]; exact e
  have h2 := List.all_eq_true.mp h _ (List.mem_of_getElem? h1)
  cases h2
def Th (n : Nat) (d : Dt) : Prop := noRaw d = true ∧ ∀ z, d = .str z → Asc n z
theorem th_str {n : Nat} {z : Str} (h : Asc n z) : Th n (.str z) := ⟨rfl, fun y e => by cases e; exact h⟩
section
variable {P : Program} {w : World} {K : PySem.W.Frag} {mg : Str → Option Value} {base : Heap}
abbrev sLaw : Stmt := top 28
abbrev nLaw : List Str := ["_law_script", "_law_at", "_law_bag_here", "_law_calls", "_law_call", "_law_words", "_law_turn", "_law_rows", "_law_text", "_law_things", "_law_bend", "_law_thing", "_law_found", "_law_due_here"]
theorem scLaw : FnScope nLaw ["_law_script"] (defScope sLaw) := ⟨rfl, rfl, rfl, by decide +kernel, rfl, by decide +kernel, by decide +kernel⟩
abbrev spLaw (K : PySem.W.Frag) : Sp := spP K (fun ns : List Int => [.fzl (ns.map .int)]) (fun ns => ns.length ≤ 63) (fun _ d => d = .bl true)
structure Defs (P : Program) (w : World) (K : PySem.W.Frag) (mg : Str → Option Value) (base : Heap) (C : Addr) : Prop where
  bag : DefOk P w K mg base CX0 1 "_law_bag" ["_law_script", "_law_at"] (spN K (fun x : List Int × Int => [.fzl (x.1.map .int), .int x.2]) (fun x => 0 ≤ x.2 ∧ x.2 < 1000) (fun _ l => ∃ d s : Int, l = [.int d, .int s, .int 0] ∧ 0 ≤ d ∧ 0 ≤ s ∧ s < 2147483647))
  take : DTake P w K mg base
  names : DefOk P w K mg base CX0 2 "_law_names" ["_law_bag_here", "_law_many"] (spB K (fun n : Int => [.int n]) (fun n => 0 ≤ n ∧ n ≤ 10) (fun _ => 10) (fun n z => ∃ l : List Str, z = .lst (l.map .str) ∧ (l.length : Int) = n ∧ ∀ x ∈ l, nameC x = true))
  odd : DefOk P w K mg base CX0 2 "_law_odd_names" ["_law_bag_here", "_law_names_here"] (spB K (fun l : List Str => [.lst (l.map .str)]) (fun l => l.length ≤ 11 ∧ ∀ x ∈ l, nameC x = true) (fun _ => 2) (fun l z => ∃ l' : List Str, z = .lst (l'.map .str) ∧ l'.length = l.length ∧ ∀ x ∈ l', nameC x = true))
  body : DefOk P w K mg base CX0 2 "_law_body" ["_law_bag_here", "_law_call", "_law_calls", "_law_words"] (spB K (fun x : Str × List Str × List Str => [.str x.1, .lst (x.2.1.map .str), .lst (x.2.2.map .str)])
      (fun x => x.2.1.length ≤ 20 ∧ (∀ y ∈ x.2.1, nameC y = true) ∧ 1 ≤ x.2.2.length ∧ x.2.2.length ≤ 20 ∧ ∀ y ∈ x.2.2, nameC y = true) (fun _ => 9) (fun x z => ∃ rs : List R, z = .tup (rs.map encR) ∧ rs.length ≤ 4 ∧ ∀ r ∈ rs, okR x.1 r))
  wr : DefOk P w K mg base CX0 1 "_law_written" ["_law_rows"] (spShow K)
  sho : DefOk P w K mg base CX0 1 "show_body" ["body"] (spShow K)
  read : DefOk P w K mg base (L2.CX P w) 4 "read_body" ["call", "string"] (spRead K C)
  bent : DefOk P w K mg base CX0 2 "_law_bent" ["_law_bag_here", "_law_text"] (spBent K)
  told : DefOk P w K mg base CX0 5 "_law_told" ["_law_call", "_law_thing"] (spDue K)
  due : DefOk P w K mg base CX0 3 "_law_due" ["_law_call", "_law_thing"] (spDue K)
theorem ok_law {f C : Addr} {fd : FuncData} (Fu : Fun K "law" "law" sLaw f fd) (T : Txt mg) (D : Defs P w K mg base C) : FnOk P w K mg base CX0 6 f fd ["_law_script"] (spLaw K) := by
  refine fn_P Fu scLaw (fun a => rfl) (fun cdv A outer s H E F ns hn hr hF => ?_)
  have hn : ns.length ≤ 63 := hn
  refine ss_cons ?_
  refine s_for PassesOwn.never rfl ?_
  refine sw_range T.range ?_
  refine se_callB (id := "max") T.max ?_
  refine sa_cons ?_
  refine se_int ?_
  refine sa_cons ?_
  refine se_callB (id := "min") T.min ?_
  refine sa_cons ?_
  refine se_int ?_
  refine sa_cons ?_
  refine se_callB (id := "len") T.len ?_
  refine sa_cons ?_
  refine se_var 0 rfl ?_
  refine sa_nil ?_
  refine cv_lenF ?_
  refine sa_nil ?_
  refine cv_min2 rfl ?_
  refine sa_nil ?_
  refine cv_max2 rfl ?_
  rw [List.length_map]
  refine ⟨_, rfl, by split <;> (try split) <;> omega, by split <;> (try split) <;> omega, fun i Γ' c' => ∃ s1 s2 s3 s4 s5 s6 s7 s8 s9 s10 s11 s12 s13 : Sl, Γ' = [.dat (.fzl (ns.map .int)), s1, s2, s3, s4, s5, s6, s7, s8, s9, s10, s11, s12, s13] ∧ [s1, s2, s3, s4, s5, s6, s7, s8, s9, s10, s11, s12, s13].all nb = true, ⟨.un, .un, .un, .un, .un, .un, .un, .un, .un, .un, .un, .un, .un, rfl, rfl⟩, ?_, ?_⟩
  · rintro i d Γ' c' hd ⟨s1, s2, s3, s4, s5, s6, s7, s8, s9, s10, s11, s12, s13, rfl, hnb⟩
    simp only [List.all_cons, List.all_nil, Bool.and_true, Bool.and_eq_true] at hnb
    obtain ⟨b1, b2, b3, b4, b5, b6, b7, b8, b9, b10, b11, b12, b13⟩ := hnb
    obtain ⟨kk, hkk, rfl⟩ : ∃ kk : Nat, kk < 64 ∧ d = .int (kk : Int) := by
      have h1 := List.mem_of_getElem? hd
      unfold idxs at h1
      obtain ⟨kk, h2, rfl⟩ := List.mem_map.mp h1
      refine ⟨kk, ?_, rfl⟩
      rw [List.mem_range] at h2
      revert h2
      split <;> (try split) <;> omega
    refine sg_name 1 scLaw.nd ?_
    refine ss_cons ?_
    refine s_own 2 scLaw.nd ?_
    refine sel_fN D.bag (hr.mono (by decide)) ?_
    refine sa_cons ?_
    refine se_var 0 rfl ?_
    refine sa_cons ?_
    refine se_var 1 rfl ?_
    refine sa_nil ?_
    refine ⟨(ns, (kk : Int)), rfl, ⟨by omega, by omega⟩, ?_⟩
    rintro _ ⟨dd, ss, rfl, hdd, hss0, hss1⟩ a
    refine ss_toBag 2 (c' := 0) hF rfl hdd hss0 hss1 (by decide) (by decide) (noBag_of (by simp only [List.set, List.all_cons, List.all_nil, Bool.and_true, nb_dat, nb_un, Bool.and_self, b3, b4, b5, b6, b7, b8, b9, b10, b11, b12, b13])) (fun F1 hF1 => ?_)
    -- the names
    refine ss_cons ?_
    refine s_set 3 scLaw.nd ?_
    refine se_callB (id := "sorted") T.sorted ?_
    refine sa_cons ?_
    refine se_fB 2 D.odd (hr.mono (by decide)) rfl ?_
    refine sa_cons ?_
    refine se_fB 2 D.names (hr.mono (by decide)) rfl ?_
    refine sa_cons ?_
    refine se_int ?_
    refine sa_nil ?_
    refine ⟨5, rfl, ⟨by decide, by decide⟩, by decide, ?_⟩
    rintro _ ⟨l1, rfl, hl1, hx1⟩
    refine sa_nil ?_
    refine ⟨l1, rfl, ⟨by omega, hx1⟩, by decide, ?_⟩
    rintro _ ⟨l2, rfl, hl2, hx2⟩
    refine sa_nil ?_
    refine cv_sortedS (by omega) (fun calls hperm hsrt => ?_)
    have hcl : calls.length = 5 := by rw [hperm.length_eq]; omega
    have hcn : ∀ y ∈ calls, nameC y = true := fun y hy => hx2 y (hperm.mem_iff.mp hy)
    refine ss_cons ?_
    refine s_par 4 5 rfl scLaw.nd (by decide) ?_
    refine sa_cons ?_
    refine se_ix ?_
    refine se_var 3 rfl ?_
    refine se_fB 2 D.take (hr.mono (by decide)) rfl ?_
    refine sa_cons ?_
    refine se_int ?_
    refine sa_nil ?_
    refine ⟨4, rfl, ⟨by decide, by decide⟩, by decide, ?_⟩
    rintro _ ⟨k, rfl, hk0, hk1⟩
    obtain ⟨d0, hd0, hm0⟩ := atI_nat' (l := calls.map Dt.str) hk0 (by rw [List.length_map, hcl]; omega)
    obtain ⟨call, hcall, rfl⟩ := List.mem_map.mp hm0
    have hcall := hcn call hcall
    refine iv_lst hd0 ?_
    refine sa_cons ?_
    refine se_fB 2 D.odd (hr.mono (by decide)) rfl ?_
    refine sa_cons ?_
    refine se_fB 2 D.names (hr.mono (by decide)) rfl ?_
    refine sa_cons ?_
    refine se_int ?_
    refine sa_nil ?_
    refine ⟨3, rfl, ⟨by decide, by decide⟩, by decide, ?_⟩
    rintro _ ⟨l3, rfl, hl3, hx3⟩
    refine sa_nil ?_
    refine ⟨l3, rfl, ⟨by omega, hx3⟩, by decide, ?_⟩
    rintro _ ⟨words, rfl, hwl, hwn⟩
    refine sa_nil ?_
    refine ⟨_, _, rfl, ?_⟩
    refine ss_one ?_
    refine s_for PassesOwn.never rfl ?_
    refine sw_range T.range ?_
    refine se_int ?_
    refine ⟨4, rfl, by decide, by decide, fun j Γ' c' => c' ≤ 100 + 100 * j ∧ ∃ s6 s7 s8 s9 s10 s11 s12 s13 : Sl, Γ' = [.dat (.fzl (ns.map .int)), .dat (.int (kk : Int)), .bag, .dat (.lst (calls.map .str)), .dat (.str call), .dat (.lst (words.map .str)), s6, s7, s8, s9, s10, s11, s12, s13] ∧ [s6, s7, s8, s9, s10, s11, s12, s13].all nb = true, ⟨by decide, s6, s7, s8, s9, s10, s11, s12, s13, rfl, by simp only [List.all_cons, List.all_nil, Bool.and_true, b6, b7, b8, b9, b10, b11, b12, b13]⟩, ?_, ?_⟩
    · rintro j d Γ' c' hd ⟨hc', s6, s7, s8, s9, s10, s11, s12, s13, rfl, hnb⟩
      have hj : j < 4 := by
        have := (List.getElem?_eq_some_iff.mp hd).1
        unfold idxs at this; rw [List.length_map, List.length_range] at this; exact this
      have hLIM : ∀ n : Nat, n ≤ 1000 → n ≤ LIM := fun n h => Nat.le_trans h (by decide)
      simp only [List.all_cons, List.all_nil, Bool.and_true, Bool.and_eq_true] at hnb
      obtain ⟨b6, b7, b8, b9, b10, b11, b12, b13⟩ := hnb
      have hbp : calls.length ≤ 20 ∧ (∀ y ∈ calls, nameC y = true) ∧ 1 ≤ words.length ∧ words.length ≤ 20 ∧ ∀ y ∈ words, nameC y = true := ⟨by omega, hcn, by omega, by omega, hwn⟩
      -- rows
      refine sg_name 6 scLaw.nd ?_
      refine ss_cons ?_
      refine s_set 7 scLaw.nd ?_
      refine se_slice ?_
      refine se_bin ?_
      refine se_fB 2 D.body (hr.mono (by decide)) rfl ?_
      refine sa_cons ?_
      refine se_var 4 rfl ?_
      refine sa_cons ?_
      refine se_var 3 rfl ?_
      refine sa_cons ?_
      refine se_var 5 rfl ?_
      refine sa_nil ?_
      refine ⟨(call, calls, words), rfl, hbp, hLIM _ (by show c' + 9 ≤ _; omega), ?_⟩
      rintro _ ⟨r1, rfl, hr1, hk1⟩
      refine se_fB 2 D.body (hr.mono (by decide)) rfl ?_
      refine sa_cons ?_
      refine se_var 4 rfl ?_
      refine sa_cons ?_
      refine se_var 3 rfl ?_
      refine sa_cons ?_
      refine se_var 5 rfl ?_
      refine sa_nil ?_
      refine ⟨(call, calls, words), rfl, hbp, hLIM _ (by show c' + 9 + 9 ≤ _; omega), ?_⟩
      rintro _ ⟨r2, rfl, hr2, hk2⟩
      refine ov_catT (by rw [List.length_map, List.length_map]; exact Nat.le_trans (Nat.add_le_add hr1 hr2) (by decide)) ?_
      refine so_none ?_
      refine so_some ?_
      refine se_fB 2 D.take (hr.mono (by decide)) rfl ?_
      refine sa_cons ?_
      refine se_int ?_
      refine sa_nil ?_
      refine ⟨7, rfl, ⟨by decide, by decide⟩, hLIM _ (by show c' + 9 + 9 + 1 ≤ _; omega), ?_⟩
      rintro _ ⟨k, rfl, hk0, hk7⟩
      refine ⟨k, rfl, ?_⟩
      refine sv_tup  ?_
      rw [← List.map_append, cutD_map, cutD_to _ hk0]
      obtain ⟨rs, hrs⟩ : ∃ rs : List R, rs = (r1 ++ r2).take k.toNat := ⟨_, rfl⟩
      rw [← hrs]
      have hrl : rs.length ≤ 6 := by rw [hrs, List.length_take]; omega
      have hro : ∀ r ∈ rs, okR call r := fun r hr => by
        rw [hrs] at hr
        rcases List.mem_append.mp (List.mem_of_mem_take hr) with h | h
        · exact hk1 r h
        · exact hk2 r h
      have hrsm : ∀ r ∈ rs, smallR r := fun r hr => small_of_ok (hro r hr)
      have htx := show_asc hrsm hrl
      have hds := due_show hro hrl
      refine ss_cons ?_
      refine s_set 8 scLaw.nd ?_
      refine se_fP D.wr (hr.mono (by decide)) ?_
      refine sa_cons ?_
      refine se_var 7 rfl ?_
      refine sa_nil ?_
      refine ⟨rs, rfl, ⟨by omega, hrsm⟩, ?_⟩
      rintro _ rfl
      -- written and read
      refine ss_cons ?_
      refine s_if ?_
      refine st_w ?_
      refine sw_or ?_
      refine st_cmp ?_
      refine se_fP D.sho (hr.mono (by decide)) ?_
      refine sa_cons ?_
      refine se_var 7 rfl ?_
      refine sa_nil ?_
      refine ⟨rs, rfl, ⟨by omega, hrsm⟩, ?_⟩
      rintro _ rfl
      refine se_var 8 rfl ?_
      refine ov_neS ?_
      refine ⟨_, rfl, ?_⟩
      refine iteNS rfl ?_
      refine sw_or1 ?_
      refine st_cmp ?_
      refine se_fX (fun _ => False) D.read (hr.mono (by decide)) takes0 (fun _ _ _ _ _ _ h => h.elim) ?_
      refine sa_cons ?_
      refine se_var 4 rfl ?_
      refine sa_cons ?_
      refine se_var 8 rfl ?_
      refine sa_nil ?_
      refine ⟨(call, .str (showR rs)), rfl, ⟨rfl, fun z e => by cases e; exact htx.mono (by decide)⟩, ?_, fun d hd => by have := hd.2; rw [hds] at this; cases this⟩
      rintro _ rfl
      rw [hds]
      refine se_var 7 rfl ?_
      refine ov_neD hr.units (rows_fit hrsm) (rows_fit hrsm) ?_
      refine ⟨_, rfl, ?_⟩
      rw [eqd_refl (rows_fit hrsm)]
      refine iteF ?_
      refine ss_nil ?_
      -- the things
      have hz : ∀ {n m : Nat} {x y : Str}, Asc n x → Asc m y → n + m ≤ 1000 → x.length + y.length ≤ sizeLine := fun hx hy hnm => Nat.le_trans (Nat.add_le_add hx.len hy.len) (Nat.le_trans hnm (by decide))
      have a1 : Asc 6 (", next" : Str) := ⟨by decide, by decide⟩
      have a2 : Asc 2 (", " : Str) := ⟨by decide, by decide⟩
      have a3 : Asc 5 ("call " : Str) := ⟨by decide, by decide⟩
      refine ss_cons ?_
      refine s_set 9 scLaw.nd ?_
      refine se_lst ?_
      refine sa_cons ?_
      refine se_bin ?_
      refine se_var 8 rfl ?_
      refine se_str ?_
      refine ov_addS (hz htx a1 (by decide)) ?_
      refine sa_cons ?_
      refine se_join ?_
      refine se_str ?_
      refine ⟨_, rfl, ?_⟩
      refine se_bin ?_
      refine se_lst ?_
      refine sa_cons ?_
      refine se_str ?_
      refine sa_nil ?_
      refine ⟨by show 1 ≤ sizeLine; decide, ?_⟩
      refine se_int ?_
      refine ov_rep (by decide) (by decide) (by decide) ⟨List.replicate 6 nextS, rfl, by decide, ?_⟩
      refine sa_cons ?_
      refine se_join ?_
      refine se_str ?_
      refine ⟨_, rfl, ?_⟩
      refine se_bin ?_
      refine se_lst ?_
      refine sa_cons ?_
      refine se_str ?_
      refine sa_nil ?_
      refine ⟨by show 1 ≤ sizeLine; decide, ?_⟩
      refine se_int ?_
      refine ov_rep (by decide) (by decide) (by decide) ⟨List.replicate 7 nextS, rfl, by decide, ?_⟩
      refine sa_cons ?_
      refine se_str ?_
      refine sa_cons ?_
      refine se_str ?_
      refine sa_cons ?_
      refine se_bin ?_
      refine se_var 8 rfl ?_
      refine se_str ?_
      refine ov_addS (hz htx a2 (by decide)) ?_
      refine sa_nil ?_
      refine ⟨by show 6 ≤ sizeLine; decide, ?_⟩
      refine ss_cons ?_
      refine s_own 9 scLaw.nd ?_
      refine sel_cat ?_
      refine se_var 9 rfl ?_
      refine ⟨_, rfl, ?_⟩
      refine se_lst ?_
      refine sa_cons ?_
      refine se_non ?_
      refine sa_cons ?_
      refine se_int ?_
      refine sa_cons ?_
      refine se_var 7 rfl ?_
      refine sa_cons ?_
      refine se_lst ?_
      refine sa_cons ?_
      refine se_var 8 rfl ?_
      refine sa_nil ?_
      refine ⟨by show 1 ≤ sizeLine; decide, ?_⟩
      refine sa_cons ?_
      refine se_bin ?_
      refine se_str ?_
      refine se_var 4 rfl ?_
      refine ov_addS (hz a3 (name_asc hcall) (by decide)) ?_
      refine sa_cons ?_
      refine se_str ?_
      refine sa_cons ?_
      refine se_str ?_
      refine sa_nil ?_
      refine ⟨by show 7 ≤ sizeLine; decide, ?_⟩
      refine ⟨_, rfl, by show 6 + 7 ≤ sizeLine; decide, fun p => ?_⟩
      obtain ⟨L0, hL0, hLl, hLt⟩ : ∃ L0 : List Dt, L0 = [Dt.str (showR rs ++ Str.ofString ", next"), Dt.str (Txt.join (Str.ofString ", ") (List.replicate 6 nextS)), Dt.str (Txt.join (Str.ofString ", ") (List.replicate 7 nextS)), Dt.str (Str.ofString ""), Dt.str (Str.ofString "- "), Dt.str (showR rs ++ Str.ofString ", ")] ++ [Dt.non, Dt.int 7, Dt.tup (rs.map encR), Dt.lst [Dt.str (showR rs)], Dt.str (Str.ofString "call " ++ call), Dt.str (Str.ofString "say house"), Dt.str (Str.ofString "say abcdefghi")] ∧ L0.length = 13 ∧ ∀ d ∈ L0, Th 150 d := by
        refine ⟨_, rfl, rfl, ?_⟩
        have j6 : Asc 150 (Txt.join (Str.ofString ", ") (List.replicate 6 nextS)) := (join_asc a2 (n := 4) (m := 6) (fun y hy => by rw [(List.mem_replicate.mp hy).2]; exact ⟨by decide, by decide⟩) (by decide)).mono (by decide)
        have j7 : Asc 150 (Txt.join (Str.ofString ", ") (List.replicate 7 nextS)) := (join_asc a2 (n := 4) (m := 7) (fun y hy => by rw [(List.mem_replicate.mp hy).2]; exact ⟨by decide, by decide⟩) (by decide)).mono (by decide)
        simp only [List.cons_append, List.nil_append, List.forall_mem_cons]
        refine ⟨th_str ((htx.app a1).mono (by decide)), th_str j6, th_str j7, th_str ⟨by decide, by decide⟩, th_str ⟨by decide, by decide⟩, th_str ((htx.app a2).mono (by decide)), ⟨rfl, fun z e => nomatch e⟩, ⟨rfl, fun z e => nomatch e⟩, ⟨rfl, fun z e => nomatch e⟩, ⟨rfl, fun z e => nomatch e⟩, th_str ((a3.app (name_asc hcall)).mono (by decide)), th_str ⟨by decide, by decide⟩, th_str ⟨by decide, by decide⟩, fun x hx => absurd hx (by simp)⟩
      rw [show List.set _ 9 (Sl.own p _) = [.dat (.fzl (ns.map .int)), .dat (.int (kk : Int)), .bag, .dat (.lst (calls.map .str)), .dat (.str call), .dat (.lst (words.map .str)), .dat d, .dat (.tup (rs.map encR)), .dat (.str (showR rs)), .own p L0, s10, s11, s12, s13] from by rw [hL0]; rfl]
      refine ss_cons ?_
      refine s_for PassesOwn.never rfl ?_
      refine sw_range T.range ?_
      refine se_int ?_
      refine ⟨10, rfl, by decide, by decide, fun i2 Γ' c2 => c2 ≤ c' + 19 + 5 * i2 ∧ ∃ (bs : List Dt) (s10 : Sl), nb s10 = true ∧ Γ' = [.dat (.fzl (ns.map .int)), .dat (.int (kk : Int)), .bag, .dat (.lst (calls.map .str)), .dat (.str call), .dat (.lst (words.map .str)), .dat d, .dat (.tup (rs.map encR)), .dat (.str (showR rs)), .own p (L0 ++ bs), s10, s11, s12, s13] ∧ bs.length = i2 ∧ ∀ x ∈ bs, Th BIG x, ⟨by show c' + 9 + 9 + 1 ≤ _; omega, [], s10, b10, by rw [List.append_nil], rfl, fun x hx => absurd hx (by simp)⟩, ?_, ?_⟩
      · rintro i2 d2 Γ' c2 hd2 ⟨hc2, bs, s10, b10, rfl, hbl, hbt⟩
        obtain ⟨hi2, rfl⟩ : i2 < 10 ∧ d2 = .int (i2 : Int) := by
          have h1 := (List.getElem?_eq_some_iff.mp hd2).1
          unfold idxs at h1 hd2
          rw [List.length_map, List.length_range] at h1
          rw [List.getElem?_map, List.getElem?_range h1] at hd2
          cases hd2
          exact ⟨h1, rfl⟩
        obtain ⟨x0, hx0, hx0m⟩ : ∃ x0, atI (L0 ++ bs) (i2 : Int) = some x0 ∧ x0 ∈ L0 := by
          have h1 : i2 < L0.length := by omega
          refine ⟨L0[i2], ?_, List.getElem_mem h1⟩
          unfold atI ixN
          rw [if_pos (by omega), if_pos (by rw [List.length_append]; omega)]
          show (L0 ++ bs)[((i2 : Int)).toNat]? = _
          rw [show ((i2 : Int)).toNat = i2 by omega, List.getElem?_append_left h1, getE? h1]
        have hth := hLt x0 hx0m
        have hzl : (L0 ++ bs).length < sizeLine := by rw [List.length_append, hLl, hbl]; exact Nat.lt_of_lt_of_le (show 13 + i2 < 24 by omega) (by decide)
        have fin : ∀ y : Str, Asc BIG y → ∀ sX : Sl, nb sX = true → ∃ (bs' : List Dt) (s10 : Sl), nb s10 = true ∧ [.dat (.fzl (ns.map .int)), .dat (.int (kk : Int)), .bag, .dat (.lst (calls.map .str)), .dat (.str call), .dat (.lst (words.map .str)), .dat d, .dat (.tup (rs.map encR)), .dat (.str (showR rs)), .own p ((L0 ++ bs) ++ [.str y]), sX, s11, s12, s13] = [.dat (.fzl (ns.map .int)), .dat (.int (kk : Int)), .bag, .dat (.lst (calls.map .str)), .dat (.str call), .dat (.lst (words.map .str)), .dat d, .dat (.tup (rs.map encR)), .dat (.str (showR rs)), .own p (L0 ++ bs'), s10, s11, s12, s13] ∧ bs'.length = i2 + 1 ∧ ∀ x ∈ bs', Th BIG x := fun y hy sX hX => by
          refine ⟨bs ++ [.str y], sX, hX, by rw [List.append_assoc], by rw [List.length_append, hbl]; rfl, fun x hx => ?_⟩
          rcases List.mem_append.mp hx with h | h
          · exact hbt x h
          · rw [List.mem_singleton.mp h]; exact th_str hy
        refine sg_name 10 scLaw.nd ?_
        refine ss_one ?_
        refine s_append 9 rfl ?_
        refine se_fB 2 D.bent (hr.mono (by decide)) rfl ?_
        refine sa_cons ?_
        refine se_if ?_
        refine st_val ?_
        refine se_callB (id := "isinstance") T.isi ?_
        refine sa_cons ?_
        refine se_ixO 9 rfl ?_
        refine se_var 10 rfl ?_
        refine ⟨_, _, rfl, hx0, ?_⟩
        refine sa_cons ?_
        refine se_ty (T := "str") T.str ?_
        refine sa_nil ?_
        refine cv_isStr hth.1 ?_
        refine ⟨_, rfl, ?_⟩
        refine ite2 (fun h => ?_) (fun h => ?_)
        · refine se_ixO 9 rfl ?_
          refine se_var 10 rfl ?_
          refine ⟨_, _, rfl, hx0, ?_⟩
          cases x0 with
          | str z0 =>
            refine sa_nil ?_
            refine ⟨z0, rfl, hth.2 z0 rfl, hLIM _ (by show c2 + 5 ≤ _; omega), ?_⟩
            rintro _ ⟨y, rfl, hy⟩
            exact ⟨hzl, by show c2 + 5 ≤ _; omega, fin y hy _ rfl⟩
          | _ => cases h
        · refine se_var 8 rfl ?_
          refine sa_nil ?_
          refine ⟨showR rs, rfl, htx.mono (by decide), hLIM _ (by show c2 + 5 ≤ _; omega), ?_⟩
          rintro _ ⟨y, rfl, hy⟩
          exact ⟨hzl, by show c2 + 5 ≤ _; omega, fin y hy _ rfl⟩
      · rintro Γ' c2 ⟨hc2, bs, s10, b10, rfl, hbl, hbt⟩
        have hi10 : (idxs (10 : Int).toNat).length = 10 := by unfold idxs; rw [List.length_map, List.length_range]; rfl
        rw [hi10] at hc2 hbl
        obtain ⟨L, hL⟩ : ∃ L, L = L0 ++ bs := ⟨_, rfl⟩
        have hLth : ∀ x ∈ L, Th BIG x := fun x hx => by
          rw [hL] at hx
          rcases List.mem_append.mp hx with h | h
          · exact ⟨(hLt x h).1, fun z e => ((hLt x h).2 z e).mono (by decide)⟩
          · exact hbt x h
        rw [← hL]
        refine ss_freeze 9 rfl ?_
        refine ss_one ?_
        refine s_for PassesOwn.never rfl ?_
        refine sw_lst ?_
        refine se_var 9 rfl ?_
        refine ⟨L, rfl, fun i3 Γ' c3 => c3 = c2 ∧ ∃ s11 s12 s13 : Sl, [s11, s12, s13].all nb = true ∧ Γ' = [.dat (.fzl (ns.map .int)), .dat (.int (kk : Int)), .bag, .dat (.lst (calls.map .str)), .dat (.str call), .dat (.lst (words.map .str)), .dat d, .dat (.tup (rs.map encR)), .dat (.str (showR rs)), .dat (.lst L), s10, s11, s12, s13], ⟨rfl, s11, s12, s13, by simp only [List.all_cons, List.all_nil, Bool.and_true, b11, b12, b13], rfl⟩, ?_, ?_⟩
        · rintro i3 d3 Γ' c3 hd3 ⟨rfl, s11, s12, s13, hnb3, rfl⟩
          have hth := hLth d3 (List.mem_of_getElem? hd3)
          have hfit := dueD_fit call hth.2
          have hnbl := dueD_noBool call d3
          refine sg_name 11 scLaw.nd ?_
          refine ss_cons ?_
          refine s_par 12 13 rfl scLaw.nd (by decide) ?_
          refine sa_cons ?_
          refine se_fP D.told (hr.mono (by decide)) ?_
          refine sa_cons ?_
          refine se_var 4 rfl ?_
          refine sa_cons ?_
          refine se_var 11 rfl ?_
          refine sa_nil ?_
          refine ⟨(call, d3), rfl, hth, ?_⟩
          rintro _ rfl
          refine sa_cons ?_
          refine se_fP D.due (hr.mono (by decide)) ?_
          refine sa_cons ?_
          refine se_var 4 rfl ?_
          refine sa_cons ?_
          refine se_var 11 rfl ?_
          refine sa_nil ?_
          refine ⟨(call, d3), rfl, hth, ?_⟩
          rintro _ rfl
          refine sa_nil ?_
          refine ⟨_, _, rfl, ?_⟩
          refine ss_one ?_
          refine s_if ?_
          refine st_w ?_
          refine sw_or ?_
          refine st_cmp ?_
          refine se_var 12 rfl ?_
          refine se_var 13 rfl ?_
          refine ov_neD hr.units hfit hfit ?_
          refine ⟨_, rfl, ?_⟩
          rw [eqd_refl hfit]
          refine iteF ?_
          refine sw_or1 ?_
          refine st_val ?_
          refine se_callB (id := "isinstance") T.isi ?_
          refine sa_cons ?_
          refine se_var 12 rfl ?_
          refine sa_cons ?_
          refine se_ty (T := "bool") T.bool ?_
          refine sa_nil ?_
          refine cv_isBool hnbl.2 ?_
          refine ⟨_, rfl, ?_⟩
          rw [hnbl.1]
          refine iteF ?_
          refine ss_nil ?_
          exact ⟨rfl, _, _, _, rfl, rfl⟩
        · rintro Γ' c3 ⟨rfl, s11, s12, s13, hnb3, rfl⟩
          simp only [List.all_cons, List.all_nil, Bool.and_true, Bool.and_eq_true] at hnb3
          exact ⟨by omega, _, _, _, _, _, _, _, _, rfl, by simp only [List.all_cons, List.all_nil, Bool.and_true, nb_dat, nb_un, Bool.and_self, b10, hnb3.1, hnb3.2.1, hnb3.2.2]⟩
    · rintro Γ' c' ⟨hc', s6, s7, s8, s9, s10, s11, s12, s13, rfl, hnb⟩
      simp only [List.all_cons, List.all_nil, Bool.and_true, Bool.and_eq_true] at hnb
      obtain ⟨b6, b7, b8, b9, b10, b11, b12, b13⟩ := hnb
      exact ⟨⟨_, _, _, _, _, _, _, _, _, _, _, _, _, rfl, by simp only [List.set, List.all_cons, List.all_nil, Bool.and_true, nb_dat, nb_un, Bool.and_self, b6, b7, b8, b9, b10, b11, b12, b13]⟩, noBag_of (by simp only [List.set, List.all_cons, List.all_nil, Bool.and_true, nb_dat, nb_un, Bool.and_self, b6, b7, b8, b9, b10, b11, b12, b13])⟩
  · rintro Γ' c' ⟨s1, s2, s3, s4, s5, s6, s7, s8, s9, s10, s11, s12, s13, rfl, hnb⟩
    refine ss_one ?_
    refine s_ret ?_
    refine se_bl ?_
    rfl
end
end K46

set_option Elab.async false
set_option linter.all false
set_option maxRecDepth 100000
set_option maxHeartbeats 8000000
namespace K46
open PySem L2 G PyProof.Rows
theorem exm_self {K : PySem.W.Frag} {S : Addr} (h1 : PySem.W.subIn K (.ref S) (.type "BaseException") = some true) (h2 : PySem.W.isClsIn K S = true) (h3 : PySem.W.typeIn K (.ref S) = some (.type "type")) (h4 : PySem.W.subIn K (.ref S) (.ref S) = some true) :
    PySem.W.exmOne K (.ref S) (.ref S) = some true := by
  have e1 : (PySem.W.subIn K (.ref S) (.type "BaseException") == some true) = true := by rw [h1] <;> rfl
  have e2 : ((PySem.W.clsIn K S).isSome && PySem.W.typeIn K (.ref S) == some (.type "type")) = true := by
    have h2' : (PySem.W.clsIn K S).isSome = true := h2
    rw [h2', h3] <;> rfl
  show (if (PySem.W.subIn K (.ref S) (.type "BaseException") == some true) = true then (if ((PySem.W.clsIn K S).isSome && PySem.W.typeIn K (.ref S) == some (.type "type")) = true then PySem.W.subIn K (.ref S) (.ref S) else none) else none) = some true
  rw [if_pos e1, if_pos e2]
  exact h4
theorem all_mk {l : PySem.W.OpenLaw} {w : World} {K : PySem.W.Frag} {h : Heap} {mg : Str → Option Value} {fa : Addr} {C : Addr} (X : K.In h) (Gg : h.Ns mainGlobals mg) (hfa : mg "law" = some (.ref fa))
    {nmC qC : Str} {NC : Addr} {bsC : List Value} {snC : List Str} {subC : List Value} {abC : Bool} {colC : Option Bool} {ddC : Option Addr} {m0C m1C m2C m3C m5C : Option Value}
    {fd0 : Addr} {odd0 and0 : Option Addr} {sld0 : Array (Option Value)} {ocd0 kVd0 dcd0 pmd0 cdd0 ctd0 : Value}
    {fd1 : Addr} {odd1 and1 : Option Addr} {sld1 : Array (Option Value)} {ocd1 kVd1 dcd1 pmd1 cdd1 ctd1 : Value}
    {fd2 : Addr} {odd2 and2 : Option Addr} {sld2 : Array (Option Value)} {ocd2 kVd2 dcd2 pmd2 cdd2 ctd2 : Value}
    {fd3 : Addr} {odd3 and3 : Option Addr} {sld3 : Array (Option Value)} {ocd3 kVd3 dcd3 pmd3 cdd3 ctd3 : Value}
    {fd4 : Addr} {odd4 and4 : Option Addr} {sld4 : Array (Option Value)} {ocd4 kVd4 dcd4 pmd4 cdd4 ctd4 : Value}
    {fd5 : Addr} {odd5 and5 : Option Addr} {sld5 : Array (Option Value)} {ocd5 kVd5 dcd5 pmd5 cdd5 ctd5 : Value}
    {fd6 : Addr} {odd6 and6 : Option Addr} {sld6 : Array (Option Value)} {ocd6 kVd6 dcd6 pmd6 cdd6 ctd6 : Value}
    {fd7 : Addr} {odd7 and7 : Option Addr} {sld7 : Array (Option Value)} {ocd7 kVd7 dcd7 pmd7 cdd7 ctd7 : Value}
    {fd8 : Addr} {odd8 and8 : Option Addr} {sld8 : Array (Option Value)} {ocd8 kVd8 dcd8 pmd8 cdd8 ctd8 : Value}
    {fd9 : Addr} {odd9 and9 : Option Addr} {sld9 : Array (Option Value)} {ocd9 kVd9 dcd9 pmd9 cdd9 ctd9 : Value}
    {fd10 : Addr} {odd10 and10 : Option Addr} {sld10 : Array (Option Value)} {ocd10 kVd10 dcd10 pmd10 cdd10 ctd10 : Value}
    {fd11 : Addr} {odd11 and11 : Option Addr} {sld11 : Array (Option Value)} {ocd11 kVd11 dcd11 pmd11 cdd11 ctd11 : Value}
    {fd12 : Addr} {odd12 and12 : Option Addr} {sld12 : Array (Option Value)} {ocd12 kVd12 dcd12 pmd12 cdd12 ctd12 : Value}
    {fd13 : Addr} {odd13 and13 : Option Addr} {sld13 : Array (Option Value)} {ocd13 kVd13 dcd13 pmd13 cdd13 ctd13 : Value}
    {fd14 : Addr} {odd14 and14 : Option Addr} {sld14 : Array (Option Value)} {ocd14 kVd14 dcd14 pmd14 cdd14 ctd14 : Value}
    {fd15 : Addr} {odd15 and15 : Option Addr} {sld15 : Array (Option Value)} {ocd15 kVd15 dcd15 pmd15 cdd15 ctd15 : Value}
    {fc0 : Addr} {odc0 anc0 : Option Addr} {slc0 : Array (Option Value)} {occ0 kVc0 dcc0 pmc0 cdc0 ctc0 : Value}
    {tLETTERS : Tok}
    {tMOST_LETTERS : Tok}
    {tMOST_ROWS : Tok}
    {tSAY : Tok}
    {tNEXT : Tok}
    {tCALL : Tok}
    {tNO_ROWS : Tok}
    {tROW_GAP : Tok}
    (aC : PySem.W.nsIn K mainGlobals "NoText" = some (some (.ref C)))
    (xLC : K.lookup C = some (excClassObj nmC qC C NC bsC [.type "ValueError", .type "Exception", .type "BaseException", .type "object"] true snC subC abC colC ddC m0C m1C m2C m3C m5C "ValueError.__new__"))
    (saC : PySem.W.findIn K (.ref C) "__setattr__" = some (some (.builtin "object.__setattr__")))
    (gaC : PySem.W.findIn K (.ref C) "__getattribute__" = some (some (.builtin "BaseException.__getattribute__")))
    (ggC : PySem.W.findIn K (.ref C) "__getattr__" = some none)
    (nCat : PySem.W.findIn K (.ref C) "at" = some none)
    (kCC : PySem.W.keepIn K (.ref C) = true)
    (eCC : PySem.W.subIn K (.ref C) (.type "BaseException") = some true)
    (tCC : PySem.W.typeIn K (.ref C) = some (.type "type"))
    (hCC : PySem.W.hasDictIn K C = true)
    (iCC : PySem.W.isClsIn K C = true)
    (sCC : PySem.W.subIn K (.ref C) (.ref C) = some true)
    (vV : PySem.W.findCls K (.type "ValueError") (.type "type") "__init__" = some (.val (.builtin "ValueError.__init__")))
    (ad0 : PySem.W.nsIn K mainGlobals "is_name" = some (some (.ref fd0)))
    (ld0 : K.lookup fd0 = some ⟨ocd0, odd0, .func (PySem.W.fnOf "is_name" "is_name" (defArgs sIsName) (defBody sIsName) (defScope sIsName) .none kVd0 dcd0 pmd0 and0 cdd0 ctd0), sld0⟩)
    (cd0 : PySem.W.codeIn K cdd0 "is_name" = true)
    (kd0 : PySem.W.keepIn K (.ref fd0) = true)
    (ad1 : PySem.W.nsIn K mainGlobals "is_row" = some (some (.ref fd1)))
    (ld1 : K.lookup fd1 = some ⟨ocd1, odd1, .func (PySem.W.fnOf "is_row" "is_row" (defArgs sIsRow) (defBody sIsRow) (defScope sIsRow) .none kVd1 dcd1 pmd1 and1 cdd1 ctd1), sld1⟩)
    (cd1 : PySem.W.codeIn K cdd1 "is_row" = true)
    (kd1 : PySem.W.keepIn K (.ref fd1) = true)
    (ad2 : PySem.W.nsIn K mainGlobals "show_body" = some (some (.ref fd2)))
    (ld2 : K.lookup fd2 = some ⟨ocd2, odd2, .func (PySem.W.fnOf "show_body" "show_body" (defArgs sShow) (defBody sShow) (defScope sShow) .none kVd2 dcd2 pmd2 and2 cdd2 ctd2), sld2⟩)
    (cd2 : PySem.W.codeIn K cdd2 "show_body" = true)
    (kd2 : PySem.W.keepIn K (.ref fd2) = true)
    (ad3 : PySem.W.nsIn K mainGlobals "read_body" = some (some (.ref fd3)))
    (ld3 : K.lookup fd3 = some ⟨ocd3, odd3, .func (PySem.W.fnOf "read_body" "read_body" (defArgs sRead) (defBody sRead) (defScope sRead) .none kVd3 dcd3 pmd3 and3 cdd3 ctd3), sld3⟩)
    (cd3 : PySem.W.codeIn K cdd3 "read_body" = true)
    (kd3 : PySem.W.keepIn K (.ref fd3) = true)
    (ad4 : PySem.W.nsIn K mainGlobals "_law_bag" = some (some (.ref fd4)))
    (ld4 : K.lookup fd4 = some ⟨ocd4, odd4, .func (PySem.W.fnOf "_law_bag" "_law_bag" (defArgs sBag) (defBody sBag) (defScope sBag) .none kVd4 dcd4 pmd4 and4 cdd4 ctd4), sld4⟩)
    (cd4 : PySem.W.codeIn K cdd4 "_law_bag" = true)
    (kd4 : PySem.W.keepIn K (.ref fd4) = true)
    (ad5 : PySem.W.nsIn K mainGlobals "_law_take" = some (some (.ref fd5)))
    (ld5 : K.lookup fd5 = some ⟨ocd5, odd5, .func (PySem.W.fnOf "_law_take" "_law_take" (defArgs sTake) (defBody sTake) (defScope sTake) .none kVd5 dcd5 pmd5 and5 cdd5 ctd5), sld5⟩)
    (cd5 : PySem.W.codeIn K cdd5 "_law_take" = true)
    (kd5 : PySem.W.keepIn K (.ref fd5) = true)
    (ad6 : PySem.W.nsIn K mainGlobals "_law_names" = some (some (.ref fd6)))
    (ld6 : K.lookup fd6 = some ⟨ocd6, odd6, .func (PySem.W.fnOf "_law_names" "_law_names" (defArgs sNames) (defBody sNames) (defScope sNames) .none kVd6 dcd6 pmd6 and6 cdd6 ctd6), sld6⟩)
    (cd6 : PySem.W.codeIn K cdd6 "_law_names" = true)
    (kd6 : PySem.W.keepIn K (.ref fd6) = true)
    (ad7 : PySem.W.nsIn K mainGlobals "_law_body" = some (some (.ref fd7)))
    (ld7 : K.lookup fd7 = some ⟨ocd7, odd7, .func (PySem.W.fnOf "_law_body" "_law_body" (defArgs sBody) (defBody sBody) (defScope sBody) .none kVd7 dcd7 pmd7 and7 cdd7 ctd7), sld7⟩)
    (cd7 : PySem.W.codeIn K cdd7 "_law_body" = true)
    (kd7 : PySem.W.keepIn K (.ref fd7) = true)
    (ad8 : PySem.W.nsIn K mainGlobals "_law_odd_names" = some (some (.ref fd8)))
    (ld8 : K.lookup fd8 = some ⟨ocd8, odd8, .func (PySem.W.fnOf "_law_odd_names" "_law_odd_names" (defArgs sOdd) (defBody sOdd) (defScope sOdd) .none kVd8 dcd8 pmd8 and8 cdd8 ctd8), sld8⟩)
    (cd8 : PySem.W.codeIn K cdd8 "_law_odd_names" = true)
    (kd8 : PySem.W.keepIn K (.ref fd8) = true)
    (ad9 : PySem.W.nsIn K mainGlobals "_law_written" = some (some (.ref fd9)))
    (ld9 : K.lookup fd9 = some ⟨ocd9, odd9, .func (PySem.W.fnOf "_law_written" "_law_written" (defArgs sWr) (defBody sWr) (defScope sWr) .none kVd9 dcd9 pmd9 and9 cdd9 ctd9), sld9⟩)
    (cd9 : PySem.W.codeIn K cdd9 "_law_written" = true)
    (kd9 : PySem.W.keepIn K (.ref fd9) = true)
    (ad10 : PySem.W.nsIn K mainGlobals "_law_is_name" = some (some (.ref fd10)))
    (ld10 : K.lookup fd10 = some ⟨ocd10, odd10, .func (PySem.W.fnOf "_law_is_name" "_law_is_name" (defArgs sLName) (defBody sLName) (defScope sLName) .none kVd10 dcd10 pmd10 and10 cdd10 ctd10), sld10⟩)
    (cd10 : PySem.W.codeIn K cdd10 "_law_is_name" = true)
    (kd10 : PySem.W.keepIn K (.ref fd10) = true)
    (ad11 : PySem.W.nsIn K mainGlobals "_law_row" = some (some (.ref fd11)))
    (ld11 : K.lookup fd11 = some ⟨ocd11, odd11, .func (PySem.W.fnOf "_law_row" "_law_row" (defArgs sLRow) (defBody sLRow) (defScope sLRow) .none kVd11 dcd11 pmd11 and11 cdd11 ctd11), sld11⟩)
    (cd11 : PySem.W.codeIn K cdd11 "_law_row" = true)
    (kd11 : PySem.W.keepIn K (.ref fd11) = true)
    (ad12 : PySem.W.nsIn K mainGlobals "_law_due" = some (some (.ref fd12)))
    (ld12 : K.lookup fd12 = some ⟨ocd12, odd12, .func (PySem.W.fnOf "_law_due" "_law_due" (defArgs sDue) (defBody sDue) (defScope sDue) .none kVd12 dcd12 pmd12 and12 cdd12 ctd12), sld12⟩)
    (cd12 : PySem.W.codeIn K cdd12 "_law_due" = true)
    (kd12 : PySem.W.keepIn K (.ref fd12) = true)
    (ad13 : PySem.W.nsIn K mainGlobals "_law_told" = some (some (.ref fd13)))
    (ld13 : K.lookup fd13 = some ⟨ocd13, odd13, .func (PySem.W.fnOf "_law_told" "_law_told" (defArgs sTold) (defBody sTold) (defScope sTold) .none kVd13 dcd13 pmd13 and13 cdd13 ctd13), sld13⟩)
    (cd13 : PySem.W.codeIn K cdd13 "_law_told" = true)
    (kd13 : PySem.W.keepIn K (.ref fd13) = true)
    (ad14 : PySem.W.nsIn K mainGlobals "_law_bent" = some (some (.ref fd14)))
    (ld14 : K.lookup fd14 = some ⟨ocd14, odd14, .func (PySem.W.fnOf "_law_bent" "_law_bent" (defArgs sBent) (defBody sBent) (defScope sBent) .none kVd14 dcd14 pmd14 and14 cdd14 ctd14), sld14⟩)
    (cd14 : PySem.W.codeIn K cdd14 "_law_bent" = true)
    (kd14 : PySem.W.keepIn K (.ref fd14) = true)
    (ad15 : PySem.W.nsIn K mainGlobals "law" = some (some (.ref fd15)))
    (ld15 : K.lookup fd15 = some ⟨ocd15, odd15, .func (PySem.W.fnOf "law" "law" (defArgs sLaw) (defBody sLaw) (defScope sLaw) .none kVd15 dcd15 pmd15 and15 cdd15 ctd15), sld15⟩)
    (cd15 : PySem.W.codeIn K cdd15 "law" = true)
    (kd15 : PySem.W.keepIn K (.ref fd15) = true)
    (ac0 : PySem.W.findIn K (.ref C) "__init__" = some (some (.ref fc0)))
    (lc0 : K.lookup fc0 = some ⟨occ0, odc0, .func (PySem.W.fnOf "__init__" "NoText.__init__" (defArgs sInit) (defBody sInit) (defScope sInit) .none kVc0 dcc0 pmc0 anc0 cdc0 ctc0), slc0⟩)
    (cc0 : PySem.W.codeIn K cdc0 "NoText.__init__" = true)
    (kc0 : PySem.W.keepIn K (.ref fc0) = true)
    (tI0 : PySem.W.typeIn K (.ref fc0) = some (.type "function"))
    (zisinstance : PySem.W.nsIn K mainGlobals "isinstance" = some none)
    (zstr : PySem.W.nsIn K mainGlobals "str" = some none)
    (zlen : PySem.W.nsIn K mainGlobals "len" = some none)
    (zall : PySem.W.nsIn K mainGlobals "all" = some none)
    (zabs : PySem.W.nsIn K mainGlobals "abs" = some none)
    (ztuple : PySem.W.nsIn K mainGlobals "tuple" = some none)
    (zenumerate : PySem.W.nsIn K mainGlobals "enumerate" = some none)
    (zrange : PySem.W.nsIn K mainGlobals "range" = some none)
    (zsorted : PySem.W.nsIn K mainGlobals "sorted" = some none)
    (zmax : PySem.W.nsIn K mainGlobals "max" = some none)
    (zmin : PySem.W.nsIn K mainGlobals "min" = some none)
    (zbool : PySem.W.nsIn K mainGlobals "bool" = some none)
    (zValueError : PySem.W.nsIn K mainGlobals "ValueError" = some none)
    (gLETTERS : PySem.W.nsIn K mainGlobals "LETTERS" = some (some (.str abc tLETTERS)))
    (gMOST_LETTERS : PySem.W.nsIn K mainGlobals "MOST_LETTERS" = some (some (.int 8 tMOST_LETTERS)))
    (gMOST_ROWS : PySem.W.nsIn K mainGlobals "MOST_ROWS" = some (some (.int 6 tMOST_ROWS)))
    (gSAY : PySem.W.nsIn K mainGlobals "SAY" = some (some (.str "say" tSAY)))
    (gNEXT : PySem.W.nsIn K mainGlobals "NEXT" = some (some (.str "next" tNEXT)))
    (gCALL : PySem.W.nsIn K mainGlobals "CALL" = some (some (.str "call" tCALL)))
    (gNO_ROWS : PySem.W.nsIn K mainGlobals "NO_ROWS" = some (some (.str "-" tNO_ROWS)))
    (gROW_GAP : PySem.W.nsIn K mainGlobals "ROW_GAP" = some (some (.str ", " tROW_GAP)))
    : ∃ fd : FuncData, (∀ (s : Shared) (v : Value), BindsTo s fd ⟨[v], []⟩ [("_law_script", v)]) ∧ ∀ base : Heap, K.In base → base.Ns mainGlobals mg → FnOk l.prog w K mg base CX0 6 fa fd ["_law_script"] (spLaw K) := by
  have e := hfa.symm.trans (PySem.W.mg_of X Gg ad15)
  cases e
  have T : Txt mg := { isi := PySem.W.mg_none_of X Gg zisinstance, str := PySem.W.mg_none_of X Gg zstr, len := PySem.W.mg_none_of X Gg zlen, all := PySem.W.mg_none_of X Gg zall, abs := PySem.W.mg_none_of X Gg zabs, tuple := PySem.W.mg_none_of X Gg ztuple, enumerate := PySem.W.mg_none_of X Gg zenumerate, range := PySem.W.mg_none_of X Gg zrange, sorted := PySem.W.mg_none_of X Gg zsorted, max := PySem.W.mg_none_of X Gg zmax, min := PySem.W.mg_none_of X Gg zmin, bool := PySem.W.mg_none_of X Gg zbool, LETTERS := ⟨tLETTERS, PySem.W.mg_of X Gg gLETTERS⟩, MOST_LETTERS := ⟨tMOST_LETTERS, PySem.W.mg_of X Gg gMOST_LETTERS⟩, MOST_ROWS := ⟨tMOST_ROWS, PySem.W.mg_of X Gg gMOST_ROWS⟩, SAY := ⟨tSAY, PySem.W.mg_of X Gg gSAY⟩, NEXT := ⟨tNEXT, PySem.W.mg_of X Gg gNEXT⟩, CALL := ⟨tCALL, PySem.W.mg_of X Gg gCALL⟩, NO_ROWS := ⟨tNO_ROWS, PySem.W.mg_of X Gg gNO_ROWS⟩, ROW_GAP := ⟨tROW_GAP, PySem.W.mg_of X Gg gROW_GAP⟩ }
  have Fd0 := fun_mk (st := sIsName) ld0 cd0 kd0
  have Fd1 := fun_mk (st := sIsRow) ld1 cd1 kd1
  have Fd2 := fun_mk (st := sShow) ld2 cd2 kd2
  have Fd3 := fun_mk (st := sRead) ld3 cd3 kd3
  have Fd4 := fun_mk (st := sBag) ld4 cd4 kd4
  have Fd5 := fun_mk (st := sTake) ld5 cd5 kd5
  have Fd6 := fun_mk (st := sNames) ld6 cd6 kd6
  have Fd7 := fun_mk (st := sBody) ld7 cd7 kd7
  have Fd8 := fun_mk (st := sOdd) ld8 cd8 kd8
  have Fd9 := fun_mk (st := sWr) ld9 cd9 kd9
  have Fd10 := fun_mk (st := sLName) ld10 cd10 kd10
  have Fd11 := fun_mk (st := sLRow) ld11 cd11 kd11
  have Fd12 := fun_mk (st := sDue) ld12 cd12 kd12
  have Fd13 := fun_mk (st := sTold) ld13 cd13 kd13
  have Fd14 := fun_mk (st := sBent) ld14 cd14 kd14
  have Fd15 := fun_mk (st := sLaw) ld15 cd15 kd15
  have Fc0 := fun_mk (st := sInit) lc0 cc0 kc0
  have bd0 := Fd0.binds (ps := ["thing"]) fun _ _ _ _ _ _ us hl => match us, hl with | [_], _ => rfl
  have bd1 := Fd1.binds (ps := ["call", "thing"]) fun _ _ _ _ _ _ us hl => match us, hl with | [_, _], _ => rfl
  have bd2 := Fd2.binds (ps := ["body"]) fun _ _ _ _ _ _ us hl => match us, hl with | [_], _ => rfl
  have bd3 := Fd3.binds (ps := ["call", "string"]) fun _ _ _ _ _ _ us hl => match us, hl with | [_, _], _ => rfl
  have bd4 := Fd4.binds (ps := ["_law_script", "_law_at"]) fun _ _ _ _ _ _ us hl => match us, hl with | [_, _], _ => rfl
  have bd5 := Fd5.binds (ps := ["_law_bag_here", "_law_many"]) fun _ _ _ _ _ _ us hl => match us, hl with | [_, _], _ => rfl
  have bd6 := Fd6.binds (ps := ["_law_bag_here", "_law_many"]) fun _ _ _ _ _ _ us hl => match us, hl with | [_, _], _ => rfl
  have bd7 := Fd7.binds (ps := ["_law_bag_here", "_law_call", "_law_calls", "_law_words"]) fun _ _ _ _ _ _ us hl => match us, hl with | [_, _, _, _], _ => rfl
  have bd8 := Fd8.binds (ps := ["_law_bag_here", "_law_names_here"]) fun _ _ _ _ _ _ us hl => match us, hl with | [_, _], _ => rfl
  have bd9 := Fd9.binds (ps := ["_law_rows"]) fun _ _ _ _ _ _ us hl => match us, hl with | [_], _ => rfl
  have bd10 := Fd10.binds (ps := ["_law_word"]) fun _ _ _ _ _ _ us hl => match us, hl with | [_], _ => rfl
  have bd11 := Fd11.binds (ps := ["_law_call", "_law_word"]) fun _ _ _ _ _ _ us hl => match us, hl with | [_, _], _ => rfl
  have bd12 := Fd12.binds (ps := ["_law_call", "_law_thing"]) fun _ _ _ _ _ _ us hl => match us, hl with | [_, _], _ => rfl
  have bd13 := Fd13.binds (ps := ["_law_call", "_law_thing"]) fun _ _ _ _ _ _ us hl => match us, hl with | [_, _], _ => rfl
  have bd14 := Fd14.binds (ps := ["_law_bag_here", "_law_text"]) fun _ _ _ _ _ _ us hl => match us, hl with | [_, _], _ => rfl
  have bc0 := Fc0.binds (ps := ["self", "at"]) fun _ _ _ _ _ _ us hl => match us, hl with | [_, _], _ => rfl
  refine ⟨PySem.W.fnOf "law" "law" (defArgs sLaw) (defBody sLaw) (defScope sLaw) .none kVd15 dcd15 pmd15 and15 cdd15 ctd15, fun s v => .of_eq rfl, fun base _ _ => ?_⟩
  have OC : OexC K C := ⟨⟨nmC, qC, NC, bsC, _, snC, subC, abC, colC, ddC, m0C, m1C, m2C, m3C, m5C, xLC, by decide +kernel⟩, saC, eCC, tCC, kCC⟩
  have EC : ExC l.prog w K mg base C "NoText" "at" smallI := ⟨OC, ⟨gaC, ggC, eCC, hCC⟩, nCat, exm_self eCC iCC tCC sCC, PySem.W.mg_of X Gg aC, fc0, _, ac0, tI0, ok_init Fc0 T OC nCat (PySem.W.mg_none_of X Gg zValueError) vV, bc0⟩
  have D5 : DefOk l.prog w K mg base _ _ "_law_take" _ _ := ⟨_, _, ok_take Fd5, PySem.W.mg_of X Gg ad5, kd5, bd5⟩
  have D4 : DefOk l.prog w K mg base _ _ "_law_bag" _ _ := ⟨_, _, ok_bag Fd4 T, PySem.W.mg_of X Gg ad4, kd4, bd4⟩
  have D6 : DefOk l.prog w K mg base _ _ "_law_names" _ _ := ⟨_, _, ok_names Fd6 T D5, PySem.W.mg_of X Gg ad6, kd6, bd6⟩
  have D8 : DefOk l.prog w K mg base _ _ "_law_odd_names" _ _ := ⟨_, _, ok_odd Fd8 T D5, PySem.W.mg_of X Gg ad8, kd8, bd8⟩
  have D7 : DefOk l.prog w K mg base _ _ "_law_body" _ _ := ⟨_, _, ok_body Fd7 T D5, PySem.W.mg_of X Gg ad7, kd7, bd7⟩
  have D0 : DefOk l.prog w K mg base _ _ "is_name" _ _ := ⟨_, _, ok_isName Fd0 T, PySem.W.mg_of X Gg ad0, kd0, bd0⟩
  have D10 : DefOk l.prog w K mg base _ _ "_law_is_name" _ _ := ⟨_, _, ok_lname Fd10 T, PySem.W.mg_of X Gg ad10, kd10, bd10⟩
  have D1 : DefOk l.prog w K mg base _ _ "is_row" _ _ := ⟨_, _, ok_isRow Fd1 T D0, PySem.W.mg_of X Gg ad1, kd1, bd1⟩
  have D2 : DefOk l.prog w K mg base _ _ "show_body" _ _ := ⟨_, _, ok_show Fd2 T, PySem.W.mg_of X Gg ad2, kd2, bd2⟩
  have D9 : DefOk l.prog w K mg base _ _ "_law_written" _ _ := ⟨_, _, ok_wr Fd9 T, PySem.W.mg_of X Gg ad9, kd9, bd9⟩
  have D11 : DefOk l.prog w K mg base _ _ "_law_row" _ _ := ⟨_, _, ok_lrow Fd11 T D10, PySem.W.mg_of X Gg ad11, kd11, bd11⟩
  have D12 : DefOk l.prog w K mg base _ _ "_law_due" _ _ := ⟨_, _, ok_due Fd12 T D11, PySem.W.mg_of X Gg ad12, kd12, bd12⟩
  have D3 : DefOk l.prog w K mg base _ _ "read_body" _ _ := ⟨_, _, ok_read Fd3 T EC D1, PySem.W.mg_of X Gg ad3, kd3, bd3⟩
  have D13 : DefOk l.prog w K mg base _ _ "_law_told" _ _ := ⟨_, _, ok_told Fd13 T EC D3, PySem.W.mg_of X Gg ad13, kd13, bd13⟩
  have D14 : DefOk l.prog w K mg base _ _ "_law_bent" _ _ := ⟨_, _, ok_bent Fd14 T D5, PySem.W.mg_of X Gg ad14, kd14, bd14⟩
  exact ok_law Fd15 T ⟨D4, D5, D6, D8, D7, D9, D2, D3, D14, D13, D12⟩
theorem walk {l : PySem.W.OpenLaw} {q : Program} {loose : List Str} {XP : (Str → Option Value) → Heap → Prop} {YP : World → Heap → Prop} {d : DefRec} {K : Params → PySem.W.Frag} (hn : l.most = some 63) (hdf : d.params.defaults = [])
    (hY : ∀ (w : World) (h : Heap), YP w h → (K w.params).In h)
    (F : ∀ (w : World) (mg : Str → Option Value) (fa : Addr) (h : Heap), (K w.params).In h → h.Ns mainGlobals mg → mg d.name = some (.ref fa) →
      ∃ fd : FuncData, (∀ (s : Shared) (u : Value), BindsTo s fd ⟨[u], []⟩ [("_law_script", u)]) ∧ ∀ base : Heap, (K w.params).In base → base.Ns mainGlobals mg → FnOk l.prog w (K w.params) mg base CX0 6 fa fd ["_law_script"] (spLaw (K w.params))) :
    PySem.W.WalkO q loose XP YP l.row.toRowW d [] (fun f vs => PySem.call f vs) :=
  L2.walk_of (n := 63) (k := 6) (x := "_law_script") (CX := fun _ => CX0) (sp := fun w => spLaw (K w.params)) hn (by decide) hdf ⟨rfl, by decide, by decide⟩ hY F
    (fun _ _ a ns hl _ hS => ⟨[], ns, fun x hx => absurd hx (by simp), .cons (.fzl (by rw [mask_nil]; exact hS) (DVs.ints ns)) .nil, hl, fun v H' d hd _ dv => by subst hd; cases dv; rfl⟩) fun _ _ _ _ _ z => z
end K46
open PySem PySem.W PyProof.Rows
set_option maxRecDepth 100000 in
set_option maxHeartbeats 0 in
theorem PySem.Challenge.cw_openlines_k46_bodies_written_holds : PySem.Challenge.rw_openlines_k46_bodies_written.Holds := by
  w_on; o_law; k_head; (case hw => w_witness2)
  k_fill
  refine K46.walk (l := PySem.Challenge.rw_openlines_k46_bodies_written) rfl rfl (fun w h Y => PySem.W.kIn_of Y) ?F
  case F =>
    intro w mg fa h KX Gg hmg
    refine' K46.all_mk KX Gg hmg ?aC ?xLC ?saC ?gaC ?ggC ?nCat ?kCC ?eCC ?tCC ?hCC ?iCC ?sCC ?vV ?ad0 ?ld0 ?cd0 ?kd0 ?ad1 ?ld1 ?cd1 ?kd1 ?ad2 ?ld2 ?cd2 ?kd2 ?ad3 ?ld3 ?cd3 ?kd3 ?ad4 ?ld4 ?cd4 ?kd4 ?ad5 ?ld5 ?cd5 ?kd5 ?ad6 ?ld6 ?cd6 ?kd6 ?ad7 ?ld7 ?cd7 ?kd7 ?ad8 ?ld8 ?cd8 ?kd8 ?ad9 ?ld9 ?cd9 ?kd9 ?ad10 ?ld10 ?cd10 ?kd10 ?ad11 ?ld11 ?cd11 ?kd11 ?ad12 ?ld12 ?cd12 ?kd12 ?ad13 ?ld13 ?cd13 ?kd13 ?ad14 ?ld14 ?cd14 ?kd14 ?ad15 ?ld15 ?cd15 ?kd15 ?ac0 ?lc0 ?cc0 ?kc0 ?tI0 ?zisinstance ?zstr ?zlen ?zall ?zabs ?ztuple ?zenumerate ?zrange ?zsorted ?zmax ?zmin ?zbool ?zValueError ?gLETTERS ?gMOST_LETTERS ?gMOST_ROWS ?gSAY ?gNEXT ?gCALL ?gNO_ROWS ?gROW_GAP
    (case aC => k_is)
    (case xLC => k_is)
    (case saC => k_is)
    (case gaC => k_is)
    (case ggC => k_is)
    (case nCat => k_is)
    (case kCC => k_is)
    (case eCC => k_is)
    (case tCC => k_is)
    (case hCC => k_is)
    (case iCC => k_is)
    (case sCC => first | rfl | k_is)
    (case vV => first | k_is | rfl | decide +kernel)
    (case ad0 => k_is)
    (case ld0 => k_is)
    (case cd0 => k_is)
    (case kd0 => k_is)
    (case ad1 => k_is)
    (case ld1 => k_is)
    (case cd1 => k_is)
    (case kd1 => k_is)
    (case ad2 => k_is)
    (case ld2 => k_is)
    (case cd2 => k_is)
    (case kd2 => k_is)
    (case ad3 => k_is)
    (case ld3 => k_is)
    (case cd3 => k_is)
    (case kd3 => k_is)
    (case ad4 => k_is)
    (case ld4 => k_is)
    (case cd4 => k_is)
    (case kd4 => k_is)
    (case ad5 => k_is)
    (case ld5 => k_is)
    (case cd5 => k_is)
    (case kd5 => k_is)
    (case ad6 => k_is)
    (case ld6 => k_is)
    (case cd6 => k_is)
    (case kd6 => k_is)
    (case ad7 => k_is)
    (case ld7 => k_is)
    (case cd7 => k_is)
    (case kd7 => k_is)
    (case ad8 => k_is)
    (case ld8 => k_is)
    (case cd8 => k_is)
    (case kd8 => k_is)
    (case ad9 => k_is)
    (case ld9 => k_is)
    (case cd9 => k_is)
    (case kd9 => k_is)
    (case ad10 => k_is)
    (case ld10 => k_is)
    (case cd10 => k_is)
    (case kd10 => k_is)
    (case ad11 => k_is)
    (case ld11 => k_is)
    (case cd11 => k_is)
    (case kd11 => k_is)
    (case ad12 => k_is)
    (case ld12 => k_is)
    (case cd12 => k_is)
    (case kd12 => k_is)
    (case ad13 => k_is)
    (case ld13 => k_is)
    (case cd13 => k_is)
    (case kd13 => k_is)
    (case ad14 => k_is)
    (case ld14 => k_is)
    (case cd14 => k_is)
    (case kd14 => k_is)
    (case ad15 => k_is)
    (case ld15 => k_is)
    (case cd15 => k_is)
    (case kd15 => k_is)
    (case ac0 => k_is)
    (case lc0 => k_is)
    (case cc0 => k_is)
    (case kc0 => k_is)
    (case tI0 => k_is)
    (case zisinstance => k_is)
    (case zstr => k_is)
    (case zlen => k_is)
    (case zall => k_is)
    (case zabs => k_is)
    (case ztuple => k_is)
    (case zenumerate => k_is)
    (case zrange => k_is)
    (case zsorted => k_is)
    (case zmax => k_is)
    (case zmin => k_is)
    (case zbool => k_is)
    (case zValueError => k_is)
    (case gLETTERS => k_is)
    (case gMOST_LETTERS => k_is)
    (case gMOST_ROWS => k_is)
    (case gSAY => k_is)
    (case gNEXT => k_is)
    (case gCALL => k_is)
    (case gNO_ROWS => k_is)
    (case gROW_GAP => k_is)
#print axioms PySem.Challenge.cw_openlines_k46_bodies_written_holds

