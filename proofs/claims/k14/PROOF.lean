import PyProof.Rows.All
import Wide.All
import OpenK.AllK
import Wide.FinOn
import HandS.ForMost
import HandS.Flow
import HandS.Style
import HandS.Wide
import HandS.WideBits
import HandS.Walk
import HandS.EndBits
import HandS.Deep
import HandS.IsInst
import HandS.TupAny
import HandS.Text
import HandS.Conv
import HandS.NoneIn
import HandS.SetFor
import HandS.TupSets
import HandS.SortInts
import KE.KTupSum
import KE.DataMinMax
import PySem.Challenge.RW_farword_k14_words_far_apart
set_option Elab.async false
set_option linter.all false
set_option maxRecDepth 100000
set_option maxHeartbeats 2000000
/-! PL: symbolic running of a def over plain data (PyData), on top of the hand layer. -/
namespace PL
open PySem PySem.Spec PyProof.Rows L2

abbrev D := PyData
/-- what was known stays known -/
def Ex (H H' : Hp) : Prop := ∀ a o, H a = some o → H' a = some o
theorem Ex.refl (H : Hp) : Ex H H := fun _ _ h => h
theorem Ex.trans {H H1 H2 : Hp} (a : Ex H H1) (b : Ex H1 H2) : Ex H H2 := fun x o h => b x o (a x o h)
theorem Ex.new {H : Hp} {p : Addr} {o : HO} (h : H p = none) : Ex H (upd H p o) := fun a u e => by
  rw [upd_ne (ne_of_none e h)]
  exact e
theorem Ex.rd {H H' : Hp} {a : Addr} {u : HO} (e : Ex H H') (h : Rd H a u) : Rd H' a u := by
  rcases h with h | ⟨o, h⟩
  · exact .inl (e a _ h)
  · exact .inr ⟨o, e a _ h⟩
theorem Ex.sl {K : PySem.W.Frag} {H H' : Hp} {a : Addr} {xs : List V} (e : Ex H H') (h : SqL K H a xs) : SqL K H' a xs := by
  rcases h with h | h
  · exact .inl (e.rd h)
  · exact .inr h
theorem Ex.st {K : PySem.W.Frag} {H H' : Hp} {a : Addr} {xs : List V} (e : Ex H H') (h : SqT K H a xs) : SqT K H' a xs := by
  rcases h with h | h
  · exact .inl (e.rd h)
  · exact .inr h
theorem Ex.none {H H' : Hp} (e : Ex H H') {a : Addr} (h : H' a = none) : H a = none := by
  cases q : H a with
  | none => rfl
  | some o =>
    rw [e a o q] at h
    cases h
mutual
theorem dpUp {K : PySem.W.Frag} {H H' : Hp} (e : Ex H H') {v : V} {d : D} : Dp K H v d → Dp K H' v d
  | .non => .non
  | .bl b => .bl b
  | .int i => .int i
  | .str x => .str x
  | .lst s h => .lst (e.sl s) (dpsUp e h)
  | .tup s h => .tup (e.st s) (dpsUp e h)
theorem dpsUp {K : PySem.W.Frag} {H H' : Hp} (e : Ex H H') {vs : List V} {ds : List D} : DpAll K H vs ds → DpAll K H' vs ds
  | .nil => .nil
  | .cons h t => .cons (dpUp e h) (dpsUp e t)
end
theorem dps_len {K : PySem.W.Frag} {H : Hp} : ∀ {vs : List V} {ds : List D}, DpAll K H vs ds → vs.length = ds.length
  | _, _, .nil => rfl
  | _, _, .cons _ t => by
    rw [List.length_cons, List.length_cons, dps_len t]
theorem dps_get {K : PySem.W.Frag} {H : Hp} : ∀ {vs : List V} {ds : List D} {i : Nat} {d : D}, DpAll K H vs ds → ds[i]? = some d → ∃ v, vs[i]? = some v ∧ Dp K H v d
  | _, _, _, _, .nil, e => by simp at e
  | _, _, 0, _, .cons h _, e => by
    simp only [List.getElem?_cons_zero, Option.some.injEq] at e
    subst e
    exact ⟨_, rfl, h⟩
  | _, _, i + 1, d, .cons _ t, e => by
    obtain ⟨v, h1, h2⟩ := dps_get (i := i) (d := d) t (by simpa using e)
    exact ⟨v, by simpa using h1, h2⟩
theorem dps_getv {K : PySem.W.Frag} {H : Hp} : ∀ {vs : List V} {ds : List D} {i : Nat} {v : V}, DpAll K H vs ds → vs[i]? = some v → ∃ d, ds[i]? = some d ∧ Dp K H v d
  | _, _, _, _, .nil, e => by simp at e
  | _, _, 0, _, .cons h _, e => by
    simp only [List.getElem?_cons_zero, Option.some.injEq] at e
    subst e
    exact ⟨_, rfl, h⟩
  | _, _, i + 1, v, .cons _ t, e => by
    obtain ⟨d, h1, h2⟩ := dps_getv (i := i) (v := v) t (by simpa using e)
    exact ⟨d, by simpa using h1, h2⟩
theorem dps_app {K : PySem.W.Frag} {H : Hp} : ∀ {vs us : List V} {ds es : List D}, DpAll K H vs ds → DpAll K H us es → DpAll K H (vs ++ us) (ds ++ es)
  | _, _, _, _, .nil, s => s
  | _, _, _, _, .cons h t, s => .cons h (dps_app t s)
theorem dps_take {K : PySem.W.Frag} {H : Hp} : ∀ {vs : List V} {ds : List D} (n : Nat), DpAll K H vs ds → DpAll K H (vs.take n) (ds.take n)
  | _, _, 0, _ => .nil
  | _, _, _ + 1, .nil => .nil
  | _, _, n + 1, .cons h t => .cons h (dps_take n t)
theorem dps_drop {K : PySem.W.Frag} {H : Hp} : ∀ {vs : List V} {ds : List D} (n : Nat), DpAll K H vs ds → DpAll K H (vs.drop n) (ds.drop n)
  | _, _, 0, r => r
  | _, _, _ + 1, .nil => .nil
  | _, _, n + 1, .cons _ t => dps_drop n t
theorem dps_set {K : PySem.W.Frag} {H : Hp} {v : V} {d : D} (h : Dp K H v d) : ∀ {vs : List V} {ds : List D} (n : Nat), DpAll K H vs ds → DpAll K H (vs.set n v) (ds.set n d)
  | _, _, _, .nil => .nil
  | _, _, 0, .cons _ t => .cons h t
  | _, _, n + 1, .cons q t => .cons q (dps_set h n t)
theorem dps_rev {K : PySem.W.Frag} {H : Hp} : ∀ {vs : List V} {ds : List D}, DpAll K H vs ds → DpAll K H vs.reverse ds.reverse
  | _, _, .nil => .nil
  | _, _, .cons h t => by
    rw [List.reverse_cons, List.reverse_cons]
    exact dps_app (dps_rev t) (.cons h .nil)
theorem dps_ints {K : PySem.W.Frag} {H : Hp} : ∀ ns : List Int, DpAll K H (ns.map V.int) (ns.map PyData.int)
  | [] => .nil
  | n :: r => .cons (.int n) (dps_ints r)
theorem dps_ints_inv {K : PySem.W.Frag} {H : Hp} : ∀ {ns : List Int} {vs : List V}, DpAll K H vs (ns.map PyData.int) → vs = ns.map V.int
  | [], _, .nil => rfl
  | n :: r, _, .cons (.int _) t => by
    rw [dps_ints_inv t, List.map_cons]
theorem dps_strs_inv {K : PySem.W.Frag} {H : Hp} : ∀ {ns : List Str} {vs : List V}, DpAll K H vs (ns.map PyData.str) → vs = ns.map V.str
  | [], _, .nil => rfl
  | n :: r, _, .cons (.str _) t => by
    rw [dps_strs_inv t, List.map_cons]

/-! ### what a slot holds -/
/-- a thing that is not changed any more -/
structure Mn where
  p : PySem.W.Frag → Hp → V → Prop
  up : ∀ {K H H' v}, Ex H H' → p K H v → p K H' v
def datP (d : D) : Mn := ⟨fun K H v => Dp K H v d, fun e h => dpUp e h⟩
/-- a thing of our own, which may be changed: B what is not changed any more, H the heap, F its places -/
structure Ow where
  p : PySem.W.Frag → Hp → Hp → V → List Addr → Prop
  upB : ∀ {K B B' H v F}, Ex B B' → p K B H v F → p K B' H v F
  loc : ∀ {K B H H' v F}, (∀ a ∈ F, H' a = H a) → p K B H v F → p K B H' v F
  dom : ∀ {K B H v F}, p K B H v F → ∀ a ∈ F, H a ≠ none
def lstO (ds : List D) : Ow where
  p := fun K B H v F => ∃ a vs, v = .ref a ∧ F = [a] ∧ H a = some (.lst vs) ∧ DpAll K B vs ds
  upB := fun e ⟨a, vs, h1, h2, h3, h4⟩ => ⟨a, vs, h1, h2, h3, dpsUp e h4⟩
  loc := fun e ⟨a, vs, h1, h2, h3, h4⟩ => ⟨a, vs, h1, h2, (e a (by rw [h2]; exact List.mem_cons_self)).trans h3, h4⟩
  dom := fun ⟨a, vs, h1, h2, h3, h4⟩ b hb => by
    rw [h2] at hb
    rw [List.mem_singleton.mp hb, h3]
    exact fun z => nomatch z
inductive Sl
  | any
  | pr (P : Mn)
  | ob (P : Ow)
abbrev Sl.dat (d : D) : Sl := .pr (datP d)
abbrev Sl.own (ds : List D) : Sl := .ob (lstO ds)
def SlR (K : PySem.W.Frag) (B H : Hp) (o : Option (Option V)) (F : List Addr) : Sl → Prop
  | .any => True
  | .pr P => ∃ v, o = some (some v) ∧ P.p K B v
  | .ob P => ∃ v, o = some (some v) ∧ P.p K B H v F
abbrev Ga := List Sl
structure En (K : PySem.W.Frag) (B H : Hp) (σ : L2.St) (Γ : Ga) (Fs : Nat → List Addr) : Prop where
  bh : Ex B H
  len : σ.length = Γ.length
  at_ : ∀ i s, Γ[i]? = some s → SlR K B H σ[i]? (Fs i) s
  fre : ∀ i a, a ∈ Fs i → B a = none ∧ H a ≠ none
  dis : ∀ i j a, a ∈ Fs i → a ∈ Fs j → i = j
/-- behind an evaluation -/
structure Nw (B H B2 H2 : Hp) : Prop where
  bb : Ex B B2
  bh : Ex B2 H2
  hh : Ex H H2
  nu : ∀ a, B a = none → H a ≠ none → B2 a = none
theorem Nw.same {B H : Hp} (h : Ex B H) : Nw B H B H := ⟨.refl B, h, .refl H, fun _ h _ => h⟩
theorem Nw.trans {B H B1 H1 B2 H2 : Hp} (a : Nw B H B1 H1) (b : Nw B1 H1 B2 H2) : Nw B H B2 H2 where
  bb := a.bb.trans b.bb
  bh := b.bh
  hh := a.hh.trans b.hh
  nu := fun x h1 h2 => b.nu x (a.nu x h1 h2) fun z => h2 (a.hh.none z)
/-- a new object, frozen at once -/
theorem Nw.new {B H : Hp} {p : Addr} {o : HO} (h : Ex B H) (hp : H p = none) : Nw B H (upd B p o) (upd H p o) where
  bb := Ex.new (h.none hp)
  bh := fun a u e => by
    by_cases ha : a = p
    · subst ha
      rw [upd_same] at e ⊢
      exact e
    · rw [upd_ne ha] at e ⊢
      exact h a u e
  hh := Ex.new hp
  nu := fun a h1 h2 => by
    have : a ≠ p := fun z => h2 (by rw [z]; exact hp)
    rw [upd_ne this]
    exact h1
/-- a new object that is not frozen -/
theorem Nw.lay {B H : Hp} {p : Addr} {o : HO} (h : Ex B H) (hp : H p = none) : Nw B H B (upd H p o) where
  bb := .refl B
  bh := h.trans (Ex.new hp)
  hh := Ex.new hp
  nu := fun _ h1 _ => h1
/-- a thing that lies in the heap is frozen -/
theorem Nw.ice {B H : Hp} {p : Addr} {o : HO} (h : Ex B H) (hb : B p = none) (hp : H p = some o) : Ex B (upd B p o) ∧ Ex (upd B p o) H :=
  ⟨Ex.new hb, fun a u e => by
    by_cases ha : a = p
    · subst ha
      rw [upd_same] at e
      rw [hp]
      exact e
    · rw [upd_ne ha] at e
      exact h a u e⟩
section
variable {K : PySem.W.Frag} {B H B2 H2 : Hp} {σ : L2.St} {Γ : Ga} {Fs : Nat → List Addr}
theorem En.nw (E : En K B H σ Γ Fs) (n : Nw B H B2 H2) : En K B2 H2 σ Γ Fs where
  bh := n.bh
  len := E.len
  at_ := fun i s hs => by
    have := E.at_ i s hs
    cases s with
    | any => trivial
    | pr P =>
      obtain ⟨v, h1, h2⟩ := this
      exact ⟨v, h1, P.up n.bb h2⟩
    | ob P =>
      obtain ⟨v, h1, h2⟩ := this
      refine ⟨v, h1, P.loc (fun a ha => ?_) (P.upB n.bb h2)⟩
      cases q : H a with
      | none => exact absurd q (E.fre i a ha).2
      | some o => exact n.hh a o q
  fre := fun i a ha => ⟨n.nu a (E.fre i a ha).1 (E.fre i a ha).2, fun z => (E.fre i a ha).2 (n.hh.none z)⟩
  dis := E.dis
end
/-- the end of an evaluation -/
abbrev EQ (X : Cx) (B H : Hp) (P : Mn) (Q : VK) : Prop := ∀ v B2 H2, Nw B H B2 H2 → P.p X.K B2 v → Q v H2

/-! ### readings by what they are -/
def wpE (X : Cx) (e : Expr) : TE := fun σ H Q => ∀ pins s, Inv X pins σ H s → wpAny (model X.prog X.w) X.A (eval e X.env) (EP X pins σ Q) X.xe s
def wpT (X : Cx) (e : Expr) : TT := fun σ H Q => ∀ pins s, Inv X pins σ H s → wpAny (model X.prog X.w) X.A (isTrue e X.env (eval e X.env)) (TP X pins σ Q) X.xe s
def wpW (X : Cx) (e : Expr) : TT := fun σ H Q => ∀ whole pins s, Inv X pins σ H s → wpAny (model X.prog X.w) X.A (isTrue e X.env whole) (TP X pins σ Q) X.xe s
def wpA (X : Cx) (es : List Expr) : TA := fun σ H Q => ∀ pos pins s, Inv X pins σ H s → wpAny (model X.prog X.w) X.A (spliced (backTo pos (starEach es X.env))) (AP X pins σ Q) X.xe s
def wpS (X : Cx) (st : Stmt) : TS := fun D σ H => ∀ pins s, Inv X pins σ H s → wpAny (model X.prog X.w) X.A (exec st X.env) (SP X pins D) X.xe s
def wpSs (X : Cx) (st : List Stmt) : TS := fun D σ H => ∀ pins s, Inv X pins σ H s → wpAny (model X.prog X.w) X.A (execs st X.env) (SP X pins D) X.xe s
section
variable {X : Cx} {e : Expr} {es : List Expr} {st : Stmt} {sts : List Stmt}
theorem sE : PE X e (wpE X e) := ⟨fun pins s _ _ _ I h => h pins s I⟩
theorem sT : PT X e (wpT X e) := ⟨fun pins s _ _ _ I h => h pins s I⟩
theorem sW : PW X e (wpW X e) := ⟨fun wh pins s _ _ _ I h => h wh pins s I⟩
theorem sA : PA X es (wpA X es) := ⟨fun pos pins s _ _ _ I h => h pos pins s I⟩
theorem sS : PS X st (wpS X st) := ⟨fun pins s _ _ _ I h => h pins s I⟩
theorem sSs : PSs X sts (wpSs X sts) := ⟨fun pins s _ _ _ I h => h pins s I⟩
theorem toE {t : TE} {σ : L2.St} {H : Hp} {Q : VK} (p : PE X e t) (h : t σ H Q) : wpE X e σ H Q := fun pins s I => p.run pins s σ H Q I h
theorem toT {t : TT} {σ : L2.St} {H : Hp} {Q : Bool → Hp → Prop} (p : PT X e t) (h : t σ H Q) : wpT X e σ H Q := fun pins s I => p.run pins s σ H Q I h
theorem toW {t : TT} {σ : L2.St} {H : Hp} {Q : Bool → Hp → Prop} (p : PW X e t) (h : t σ H Q) : wpW X e σ H Q := fun wh pins s I => p.run wh pins s σ H Q I h
theorem toA {t : TA} {σ : L2.St} {H : Hp} {Q : List V → Hp → Prop} (p : PA X es t) (h : t σ H Q) : wpA X es σ H Q := fun pos pins s I => p.run pos pins s σ H Q I h
theorem toS {t : TS} {σ : L2.St} {H : Hp} {D : Ends} (p : PS X st t) (h : t D σ H) : wpS X st D σ H := fun pins s I => p.run pins s σ H D I h
theorem toSs {t : TS} {σ : L2.St} {H : Hp} {D : Ends} (p : PSs X sts t) (h : t D σ H) : wpSs X sts D σ H := fun pins s I => p.run pins s σ H D I h
end

/-! ### an expression over slots -/
structure GoP (X : Cx) (Γ : Ga) (e : Expr) (P : Mn) : Prop where
  run : ∀ σ B H Fs, En X.K B H σ Γ Fs → ∀ Q, EQ X B H P Q → wpE X e σ H Q
instance {X : Cx} {Γ : Ga} {e : Expr} {P : Mn} : CoeFun (GoP X Γ e P) fun _ => ∀ σ B H Fs, En X.K B H σ Γ Fs → ∀ Q, EQ X B H P Q → wpE X e σ H Q := ⟨GoP.run⟩
abbrev Go (X : Cx) (Γ : Ga) (e : Expr) (d : D) : Prop := GoP X Γ e (datP d)
/-- a new list -/
structure GoN (X : Cx) (Γ : Ga) (e : Expr) (ds : List D) : Prop where
  run : ∀ σ B H Fs, En X.K B H σ Γ Fs → ∀ Q : VK,
  (∀ p vs B2 H2, Nw B H B2 H2 → H p = none → B2 p = none → H2 p = some (.lst vs) → DpAll X.K B2 vs ds → Q (.ref p) H2) → wpE X e σ H Q
instance {X : Cx} {Γ : Ga} {e : Expr} {ds : List D} : CoeFun (GoN X Γ e ds) fun _ => ∀ σ B H Fs, En X.K B H σ Γ Fs → ∀ Q : VK,
    (∀ p vs B2 H2, Nw B H B2 H2 → H p = none → B2 p = none → H2 p = some (.lst vs) → DpAll X.K B2 vs ds → Q (.ref p) H2) → wpE X e σ H Q := ⟨GoN.run⟩
structure GoT (X : Cx) (Γ : Ga) (e : Expr) (b : Bool) : Prop where
  run : ∀ σ B H Fs, En X.K B H σ Γ Fs → ∀ Q : Bool → Hp → Prop, (∀ B2 H2, Nw B H B2 H2 → Q b H2) → wpT X e σ H Q
instance {X : Cx} {Γ : Ga} {e : Expr} {b : Bool} : CoeFun (GoT X Γ e b) fun _ => ∀ σ B H Fs, En X.K B H σ Γ Fs → ∀ Q : Bool → Hp → Prop, (∀ B2 H2, Nw B H B2 H2 → Q b H2) → wpT X e σ H Q := ⟨GoT.run⟩
structure GoW (X : Cx) (Γ : Ga) (e : Expr) (b : Bool) : Prop where
  run : ∀ σ B H Fs, En X.K B H σ Γ Fs → ∀ Q : Bool → Hp → Prop, (∀ B2 H2, Nw B H B2 H2 → Q b H2) → wpW X e σ H Q
instance {X : Cx} {Γ : Ga} {e : Expr} {b : Bool} : CoeFun (GoW X Γ e b) fun _ => ∀ σ B H Fs, En X.K B H σ Γ Fs → ∀ Q : Bool → Hp → Prop, (∀ B2 H2, Nw B H B2 H2 → Q b H2) → wpW X e σ H Q := ⟨GoW.run⟩
def wpC (X : Cx) (op : CmpOp) (a b : Expr) : TE := fun σ H Q => ∀ pins s, Inv X pins σ H s → wpAny (model X.prog X.w) X.A (eval a X.env) (fun v s₁ => wpAny (model X.prog X.w) X.A (eval b X.env) (fun u s₂ => wpAny (model X.prog X.w) X.A (compareOp op v u) (EP X pins σ Q) X.xe s₂) X.xe s₁) X.xe s
theorem sC {X : Cx} {op : CmpOp} {a b : Expr} : PC X op a b (wpC X op a b) := ⟨fun pins s _ _ _ I h => h pins s I⟩
theorem toC {X : Cx} {op : CmpOp} {a b : Expr} {t : TE} {σ : L2.St} {H : Hp} {Q : VK} (p : PC X op a b t) (h : t σ H Q) : wpC X op a b σ H Q := fun pins s I => p.run pins s σ H Q I h
theorem pc_op {X : Cx} {op : CmpOp} {a b : Expr} {r : V → V → Hp → VK → Prop} {ta tb : TE} (ho : OpR X (compareOp op) r) (ha : PE X a ta) (hb : PE X b tb) : PC X op a b (tOp r ta tb) :=
  ⟨fun pins s σ H Q I h => bin ha hb I h fun v u s2 x y H2 I2 rx ry q => ho pins s2 σ H2 x y v u Q I2 rx ry q⟩
structure GoC (X : Cx) (Γ : Ga) (op : CmpOp) (a b : Expr) (k : Bool) : Prop where
  run : ∀ σ B H Fs, En X.K B H σ Γ Fs → ∀ Q : VK, (∀ B2 H2, Nw B H B2 H2 → Q (.bl k) H2) → wpC X op a b σ H Q
instance {X : Cx} {Γ : Ga} {op : CmpOp} {a b : Expr} {k : Bool} : CoeFun (GoC X Γ op a b k) fun _ => ∀ σ B H Fs, En X.K B H σ Γ Fs → ∀ Q : VK, (∀ B2 H2, Nw B H B2 H2 → Q (.bl k) H2) → wpC X op a b σ H Q := ⟨GoC.run⟩
inductive MnAll (K : PySem.W.Frag) (B : Hp) : List V → List Mn → Prop
  | nil : MnAll K B [] []
  | cons {v : V} {vs : List V} {P : Mn} {Ps : List Mn} : P.p K B v → MnAll K B vs Ps → MnAll K B (v :: vs) (P :: Ps)
structure GoA (X : Cx) (Γ : Ga) (es : List Expr) (Ps : List Mn) : Prop where
  run : ∀ σ B H Fs, En X.K B H σ Γ Fs → ∀ Q : List V → Hp → Prop, (∀ vs B2 H2, Nw B H B2 H2 → MnAll X.K B2 vs Ps → Q vs H2) → wpA X es σ H Q
instance {X : Cx} {Γ : Ga} {es : List Expr} {Ps : List Mn} : CoeFun (GoA X Γ es Ps) fun _ => ∀ σ B H Fs, En X.K B H σ Γ Fs → ∀ Q : List V → Hp → Prop, (∀ vs B2 H2, Nw B H B2 H2 → MnAll X.K B2 vs Ps → Q vs H2) → wpA X es σ H Q := ⟨GoA.run⟩
theorem MnAll.up {K : PySem.W.Frag} {B B' : Hp} (e : Ex B B') : ∀ {vs : List V} {Ps : List Mn}, MnAll K B vs Ps → MnAll K B' vs Ps
  | _, _, .nil => .nil
  | _, _, .cons (P := P) h t => .cons (P.up e h) (MnAll.up e t)
theorem MnAll.dps {K : PySem.W.Frag} {B : Hp} : ∀ {ds : List D} {vs : List V}, MnAll K B vs (ds.map datP) → DpAll K B vs ds
  | [], _, .nil => .nil
  | _ :: _, _, .cons h t => .cons h (MnAll.dps t)
section
variable {X : Cx} {Γ : Ga} {e a b : Expr} {es : List Expr} {P : Mn} {d : D} {ds : List D} {pos : Pos}
theorem go_of_new (h : GoN X Γ e ds) : Go X Γ e (.list ds) := .mk fun σ B H Fs E Q q => h σ B H Fs E Q fun p vs B2 H2 n hp hb hH hd => by
  obtain ⟨e1, e2⟩ := Nw.ice n.bh hb hH
  refine q _ _ _ ⟨n.bb.trans e1, e2, n.hh, fun a h1 h2 => ?_⟩ (show Dp _ _ _ _ from .lst (.of upd_same) (dpsUp e1 hd))
  have : a ≠ p := fun z => h2 (by rw [z]; exact hp)
  rw [upd_ne this]
  exact n.nu a h1 h2
theorem go_is {d' : D} (h : Go X Γ e d) (he : d = d') : Go X Γ e d' := he ▸ h
theorem goT_is {b b' : Bool} (h : GoT X Γ e b) (he : b = b') : GoT X Γ e b' := he ▸ h
theorem goP_imp {P' : Mn} (h : GoP X Γ e P) (hp : ∀ K B v, P.p K B v → P'.p K B v) : GoP X Γ e P' := .mk fun σ B H Fs E Q q => h σ B H Fs E Q fun v B2 H2 n r => q v B2 H2 n (hp _ _ _ r)
theorem goA_nil : GoA X Γ [] [] := .mk fun σ B H Fs E Q q => toA pa_nil (q [] B H (.same E.bh) .nil)
theorem goA_cons {Ps : List Mn} (he : GoP X Γ e P) (ht : GoA X Γ es Ps) (hs : starEach (e :: es) X.env = (false, eval e X.env) :: starEach es X.env := by rfl) : GoA X Γ (e :: es) (P :: Ps) := .mk fun σ B H Fs E Q q =>
  toA (pa_cons sE sA hs) (he σ B H Fs E _ fun v B1 H1 n1 r1 => ht σ B1 H1 Fs (E.nw n1) _ fun vs B2 H2 n2 r2 => q (v :: vs) B2 H2 (n1.trans n2) (.cons (P.up n2.bb r1) r2))
theorem go_var (i : Nat) {x : Str} (hΓ : Γ[i]? = some (.pr P) := by rfl) (hN : X.N[i]? = some x := by rfl) (hv : Vis X.env.scope x := by first | exact Or.inl rfl | exact Or.inr (Or.inl rfl) | exact Or.inr (Or.inr rfl))
    (hd : (x == ("__debug__" : Str)) = false := by decide) (hcd : (x == ("__classdict__" : Str)) = false := by decide) : GoP X Γ (.Name x pos) P := .mk fun σ B H Fs E Q q => by
  obtain ⟨v, h1, h2⟩ := E.at_ i _ hΓ
  exact toE (pe_var hN hv hd hcd) ⟨v, h1, q v B H (.same E.bh) h2⟩
theorem go_int {i : Int} {j} : Go X Γ (.Constant (.int i) j pos) (.int i) := .mk fun σ B H Fs E Q q => toE pe_int (q _ B H (.same E.bh) (Dp.int i))
theorem go_bl {i : Bool} {j} : Go X Γ (.Constant (.bool i) j pos) (.bool i) := .mk fun σ B H Fs E Q q => toE pe_bl (q _ B H (.same E.bh) (Dp.bl i))
theorem go_non {j} : Go X Γ (.Constant .none j pos) .none := .mk fun σ B H Fs E Q q => toE pe_non (q _ B H (.same E.bh) Dp.non)
theorem go_str {x : Str} {j} : Go X Γ (.Constant (.str x) j pos) (.str x) := .mk fun σ B H Fs E Q q => toE pe_str (q _ B H (.same E.bh) (Dp.str x))
/-- an operator on flat values -/
theorem go_op2 {op : Operator} {r : V → V → Hp → VK → Prop} {x y : D} {P : Mn} (ho : OpR X (binaryOp op) r) (ha : Go X Γ a x) (hb : Go X Γ b y)
    (hr : ∀ v w B H, Ex B H → Dp X.K B v x → Dp X.K B w y → ∀ Q, EQ X B H P Q → r v w H Q) : GoP X Γ (.BinOp a op b pos) P := .mk fun σ B H Fs E Q q =>
  toE (pe_op ho sE sE) (ha σ B H Fs E _ fun v B1 H1 n1 r1 => hb σ B1 H1 Fs (E.nw n1) _ fun w B2 H2 n2 r2 =>
    hr v w B2 H2 n2.bh (dpUp n2.bb r1) r2 Q fun z B3 H3 n3 r3 => q z B3 H3 ((n1.trans n2).trans n3) r3)
theorem go_cmp2 {op : CmpOp} {r : V → V → Hp → VK → Prop} {x y : D} {c : Bool} (ho : OpR X (compareOp op) r) (ha : Go X Γ a x) (hb : Go X Γ b y)
    (hr : ∀ v w B H, Ex B H → Dp X.K B v x → Dp X.K B w y → ∀ Q : VK, Q (.bl c) H → r v w H Q) : GoC X Γ op a b c := .mk fun σ B H Fs E Q q =>
  toC (pc_op ho sE sE) (ha σ B H Fs E _ fun v B1 H1 n1 r1 => hb σ B1 H1 Fs (E.nw n1) _ fun w B2 H2 n2 r2 =>
    hr v w B2 H2 n2.bh (dpUp n2.bb r1) r2 Q (q B2 H2 (n1.trans n2)))
theorem goc {op : CmpOp} {k : Bool} (h : GoC X Γ op a b k) (hm : behindInMarks op b = false := by first | exact nobehind _ (by decide) (by decide) | rfl) : Go X Γ (.Compare a [op] [b] pos) (.bool k) := .mk fun σ B H Fs E Q q =>
  toE (pe_cmp sC hm) (h σ B H Fs E _ fun B2 H2 n => q _ B2 H2 n (Dp.bl k))
theorem gocT {op : CmpOp} {k : Bool} (h : GoC X Γ op a b k) (hm : behindInMarks op b = false := by first | exact nobehind _ (by decide) (by decide) | rfl) : GoT X Γ (.Compare a [op] [b] pos) k := .mk fun σ B H Fs E Q q =>
  toT (pt_cmp sC hm) (h σ B H Fs E _ fun B2 H2 n => ⟨k, rfl, q B2 H2 n⟩)
end

/-! ### arithmetic, comparisons -/
section
variable {X : Cx} {Γ : Ga} {e a b c : Expr} {es : List Expr} {P : Mn} {d : D} {ds : List D} {pos : Pos}
theorem dp_int {K : PySem.W.Frag} {H : Hp} {v : V} {i : Int} (h : Dp K H v (.int i)) : v = .int i := by
  cases h
  rfl
theorem dp_bl {K : PySem.W.Frag} {H : Hp} {v : V} {i : Bool} (h : Dp K H v (.bool i)) : v = .bl i := by
  cases h
  rfl
theorem dp_str {K : PySem.W.Frag} {H : Hp} {v : V} {i : Str} (h : Dp K H v (.str i)) : v = .str i := by
  cases h
  rfl
theorem dp_non {K : PySem.W.Frag} {H : Hp} {v : V} (h : Dp K H v .none) : v = .non := by
  cases h
  rfl
theorem dp_lst {K : PySem.W.Frag} {H : Hp} {v : V} (h : Dp K H v (.list ds)) : ∃ a vs, v = .ref a ∧ SqL K H a vs ∧ DpAll K H vs ds := by
  cases h with
  | lst h1 h2 => exact ⟨_, _, rfl, h1, h2⟩
theorem dp_tup {K : PySem.W.Frag} {H : Hp} {v : V} (h : Dp K H v (.tuple ds)) : ∃ a vs, v = .ref a ∧ SqT K H a vs ∧ DpAll K H vs ds := by
  cases h with
  | tup h1 h2 => exact ⟨_, _, rfl, h1, h2⟩
theorem go_ar {op : Operator} {C : Int → Int → Prop} {g : Int → Int → Int} {i j : Int} (ho : OpR X (binaryOp op) (rI C fun i j => .int (g i j))) (ha : Go X Γ a (.int i)) (hb : Go X Γ b (.int j)) (hc : C i j) :
    Go X Γ (.BinOp a op b pos) (.int (g i j)) := go_op2 ho ha hb fun v w B H hB r1 r2 Q q => by
  have e1 := dp_int r1
  have e2 := dp_int r2
  subst e1 e2
  exact ⟨i, j, rfl, rfl, hc, q _ B H (.same hB) (Dp.int _)⟩
theorem go_ar0 {op : Operator} {g : Int → Int → Int} {i j : Int} (ho : OpR X (binaryOp op) (rI0 fun i j => .int (g i j))) (ha : Go X Γ a (.int i)) (hb : Go X Γ b (.int j)) :
    Go X Γ (.BinOp a op b pos) (.int (g i j)) := go_op2 ho ha hb fun v w B H hB r1 r2 Q q => by
  have e1 := dp_int r1
  have e2 := dp_int r2
  subst e1 e2
  exact ⟨i, j, rfl, rfl, q _ B H (.same hB) (Dp.int _)⟩
theorem go_add {i j : Int} (ha : Go X Γ a (.int i)) (hb : Go X Γ b (.int j)) : Go X Γ (.BinOp a .Add b pos) (.int (i + j)) := go_ar0 op_add ha hb
theorem go_sub {i j : Int} (ha : Go X Γ a (.int i)) (hb : Go X Γ b (.int j)) : Go X Γ (.BinOp a .Sub b pos) (.int (i - j)) := go_ar0 op_sub ha hb
theorem go_mul {i j : Int} (ha : Go X Γ a (.int i)) (hb : Go X Γ b (.int j)) (hc : CMul i j) : Go X Γ (.BinOp a .Mult b pos) (.int (i * j)) := go_ar op_mul ha hb hc
theorem go_mulX {i j : Int} (ha : Go X Γ a (.int i)) (hb : Go X Γ b (.int j)) (hc : CMulX i j) : Go X Γ (.BinOp a .Mult b pos) (.int (i * j)) := go_ar op_mulX ha hb hc
theorem go_fdiv {i j : Int} (ha : Go X Γ a (.int i)) (hb : Go X Γ b (.int j)) (hc : CDiv i j) : Go X Γ (.BinOp a .FloorDiv b pos) (.int (i / j)) := go_ar op_fdiv ha hb hc
theorem go_mod {i j : Int} (ha : Go X Γ a (.int i)) (hb : Go X Γ b (.int j)) (hc : 0 < j) : Go X Γ (.BinOp a .Mod b pos) (.int (i % j)) := go_ar op_mod ha hb hc
theorem go_pow {i j : Int} (ha : Go X Γ a (.int i)) (hb : Go X Γ b (.int j)) (hc : CPow i j) : Go X Γ (.BinOp a .Pow b pos) (.int (i ^ j.toNat)) := go_ar op_pow ha hb hc
theorem go_shl {i j : Int} (ha : Go X Γ a (.int i)) (hb : Go X Γ b (.int j)) (hc : CPow i j) : Go X Γ (.BinOp a .LShift b pos) (.int (i * 2 ^ j.toNat)) := go_ar (g := fun i j => i * 2 ^ j.toNat) op_shl ha hb hc
theorem go_shr {i j : Int} (ha : Go X Γ a (.int i)) (hb : Go X Γ b (.int j)) (hc : 0 ≤ j) : Go X Γ (.BinOp a .RShift b pos) (.int (i / 2 ^ j.toNat)) := go_ar (g := fun i j => i / 2 ^ j.toNat) (C := fun _ j => 0 ≤ j) op_shr ha hb hc
theorem go_and {i j : Int} (ha : Go X Γ a (.int i)) (hb : Go X Γ b (.int j)) : Go X Γ (.BinOp a .BitAnd b pos) (.int (Builtin.bitAnd i j)) := go_ar0 op_and ha hb
theorem go_or {i j : Int} (ha : Go X Γ a (.int i)) (hb : Go X Γ b (.int j)) : Go X Γ (.BinOp a .BitOr b pos) (.int (Builtin.bitOr i j)) := go_ar0 op_or ha hb
theorem go_xor {i j : Int} (ha : Go X Γ a (.int i)) (hb : Go X Γ b (.int j)) : Go X Γ (.BinOp a .BitXor b pos) (.int (Builtin.bitXor i j)) := go_ar0 op_xor ha hb
theorem go_neg {i : Int} (ha : Go X Γ a (.int i)) : Go X Γ (.UnaryOp .USub a pos) (.int (-i)) := .mk fun σ B H Fs E Q q =>
  toE (pe_un un_neg sE) (ha σ B H Fs E _ fun v B1 H1 n1 r1 => ⟨i, dp_int r1, q _ B1 H1 n1 (Dp.int _)⟩)
theorem go_addS {i j : Str} (ha : Go X Γ a (.str i)) (hb : Go X Γ b (.str j)) (hl : i.length + j.length ≤ sizeLine) : Go X Γ (.BinOp a .Add b pos) (.str (i ++ j)) := go_op2 op_add_str ha hb fun v w B H hB r1 r2 Q q => by
  have e1 := dp_str r1
  have e2 := dp_str r2
  subst e1 e2
  exact ⟨i, j, rfl, rfl, hl, q _ B H (.same hB) (Dp.str _)⟩
theorem go_cmpI {op : CmpOp} {g : Int → Int → Bool} {i j : Int} (ho : OpR X (compareOp op) (rI0 fun i j => .bl (g i j))) (ha : Go X Γ a (.int i)) (hb : Go X Γ b (.int j)) :
    GoC X Γ op a b (g i j) := go_cmp2 ho ha hb (fun v w B H hB r1 r2 Q q => ⟨i, j, dp_int r1, dp_int r2, q⟩)
theorem gc_lt {i j : Int} (ha : Go X Γ a (.int i)) (hb : Go X Γ b (.int j)) : GoC X Γ .Lt a b (decide (i < j)) := go_cmpI op_lt ha hb
theorem gc_le {i j : Int} (ha : Go X Γ a (.int i)) (hb : Go X Γ b (.int j)) : GoC X Γ .LtE a b (decide (i ≤ j)) := go_cmpI op_le ha hb
theorem gc_gt {i j : Int} (ha : Go X Γ a (.int i)) (hb : Go X Γ b (.int j)) : GoC X Γ .Gt a b (decide (j < i)) := go_cmpI op_gt ha hb
theorem gc_ge {i j : Int} (ha : Go X Γ a (.int i)) (hb : Go X Γ b (.int j)) : GoC X Γ .GtE a b (decide (j ≤ i)) := go_cmpI op_ge ha hb
theorem gc_eqI {i j : Int} (ha : Go X Γ a (.int i)) (hb : Go X Γ b (.int j)) : GoC X Γ .Eq a b (decide (i = j)) := go_cmp2 op_eq ha hb (fun v w B H hB r1 r2 Q q => by
  rw [dp_int r1, dp_int r2]
  refine ⟨rfl, ?_⟩
  rw [show decide (V.int i = V.int j) = decide (i = j) from decide_eq_decide.mpr ⟨V.int.inj, congrArg _⟩]
  exact q)
theorem gc_neI {i j : Int} (ha : Go X Γ a (.int i)) (hb : Go X Γ b (.int j)) : GoC X Γ .NotEq a b (!decide (i = j)) := go_cmp2 op_ne ha hb (fun v w B H hB r1 r2 Q q => by
  rw [dp_int r1, dp_int r2]
  refine ⟨rfl, ?_⟩
  rw [show decide (V.int i = V.int j) = decide (i = j) from decide_eq_decide.mpr ⟨V.int.inj, congrArg _⟩]
  exact q)
theorem gc_eqS {i j : Str} (ha : Go X Γ a (.str i)) (hb : Go X Γ b (.str j)) : GoC X Γ .Eq a b (decide (i = j)) := go_cmp2 op_eq ha hb (fun v w B H hB r1 r2 Q q => by
  rw [dp_str r1, dp_str r2]
  refine ⟨rfl, ?_⟩
  rw [show decide (V.str i = V.str j) = decide (i = j) from decide_eq_decide.mpr ⟨V.str.inj, congrArg _⟩]
  exact q)
theorem gc_neS {i j : Str} (ha : Go X Γ a (.str i)) (hb : Go X Γ b (.str j)) : GoC X Γ .NotEq a b (!decide (i = j)) := go_cmp2 op_ne ha hb (fun v w B H hB r1 r2 Q q => by
  rw [dp_str r1, dp_str r2]
  refine ⟨rfl, ?_⟩
  rw [show decide (V.str i = V.str j) = decide (i = j) from decide_eq_decide.mpr ⟨V.str.inj, congrArg _⟩]
  exact q)
theorem gc_eqB {i j : Bool} (ha : Go X Γ a (.bool i)) (hb : Go X Γ b (.bool j)) : GoC X Γ .Eq a b (i == j) := go_cmp2 op_eq ha hb (fun v w B H hB r1 r2 Q q => by
  rw [dp_bl r1, dp_bl r2]
  refine ⟨rfl, ?_⟩
  rw [show decide (V.bl i = V.bl j) = (i == j) by cases i <;> cases j <;> rfl]
  exact q)
theorem gc_neB {i j : Bool} (ha : Go X Γ a (.bool i)) (hb : Go X Γ b (.bool j)) : GoC X Γ .NotEq a b (i != j) := go_cmp2 op_ne ha hb (fun v w B H hB r1 r2 Q q => by
  rw [dp_bl r1, dp_bl r2]
  refine ⟨rfl, ?_⟩
  rw [show (!decide (V.bl i = V.bl j)) = (i != j) by cases i <;> cases j <;> rfl]
  exact q)
/-- room for what runs below -/
def UOk (X : Cx) : Prop := X.A.units + 200 < cLine
theorem UOk.of {X : Cx} {k : Nat} (r : Room k X.A) : UOk X := by
  have := r.un
  show X.A.units + 200 < cLine
  omega
theorem UOk.u65 {X : Cx} (h : UOk X) : X.A.units + 65 < cLine := by
  have h' : X.A.units + 200 < cLine := h
  omega
theorem UOk.u64 {X : Cx} (h : UOk X) : X.A.units + 64 < cLine := by
  have h' : X.A.units + 200 < cLine := h
  omega
theorem UOk.u1 {X : Cx} (h : UOk X) : X.A.units + 1 < cLine := by
  have h' : X.A.units + 200 < cLine := h
  omega
theorem UOk.u0 {X : Cx} (h : UOk X) : X.A.units < cLine := by
  have h' : X.A.units + 200 < cLine := h
  omega
theorem gc_eqD {x y : D} (hu : UOk X) (ha : Go X Γ a x) (hb : Go X Γ b y) (h1 : SeqAt.shaped x = true) (h2 : SeqAt.shaped y = true) : GoC X Γ .Eq a b (PyData.eqv x y) :=
  go_cmp2 (op_eqD hu.u64) ha hb (fun v w B H hB r1 r2 Q q => ⟨x, y, dpUp hB r1, dpUp hB r2, h1, h2, q⟩)
theorem gc_neD {x y : D} (hu : UOk X) (ha : Go X Γ a x) (hb : Go X Γ b y) (h1 : SeqAt.shaped x = true) (h2 : SeqAt.shaped y = true) : GoC X Γ .NotEq a b (!PyData.eqv x y) :=
  go_cmp2 (op_neD hu.u64) ha hb (fun v w B H hB r1 r2 Q q => ⟨x, y, dpUp hB r1, dpUp hB r2, h1, h2, q⟩)
/-- x in xs, by == of data of any depth -/
def hasD (ds : List D) (d : D) : Bool := ds.any fun z => PyData.eqv z d
end

/-! ### tests, truth, in -/
section
variable {X : Cx} {Γ : Ga} {e a b c : Expr} {es rest : List Expr} {P : Mn} {d : D} {ds : List D} {pos : Pos} {k l : Bool}
theorem goW_T (h : GoW X Γ e k) : GoT X Γ e k := .mk fun σ B H Fs E Q q pins s I => h σ B H Fs E Q q (eval e X.env) pins s I
/-- a test that is a value of its own -/
theorem goT_val (h : Go X Γ e (.bool k)) (he : ∀ whole, isTrue e X.env whole = (do let v ← whole; standAt e.pos; holding [v] (truthy v)) := by intro _; rfl) : GoT X Γ e k := .mk fun σ B H Fs E Q q =>
  toT (pt_val sE he) (h σ B H Fs E _ fun v B1 H1 n1 r1 => ⟨k, dp_bl r1, q B1 H1 n1⟩)
theorem goT_not (h : GoT X Γ a k) : GoT X Γ (.UnaryOp .Not a pos) (!k) := .mk fun σ B H Fs E Q q => toT (pt_not sT) (h σ B H Fs E _ fun B1 H1 n1 => q B1 H1 n1)
theorem goW_and1 (h : GoT X Γ a k) : GoW X Γ (.BoolOp .And [a] pos) k := .mk fun σ B H Fs E Q q => toW (pw_and1 sT) (h σ B H Fs E _ q)
theorem goW_or1 (h : GoT X Γ a k) : GoW X Γ (.BoolOp .Or [a] pos) k := .mk fun σ B H Fs E Q q => toW (pw_or1 sT) (h σ B H Fs E _ q)
theorem goW_and (h : GoT X Γ a k) (h2 : k = true → GoW X Γ (.BoolOp .And (b :: rest) pos) l) : GoW X Γ (.BoolOp .And (a :: b :: rest) pos) (k && l) := .mk fun σ B H Fs E Q q =>
  toW (pw_and sT sW) (h σ B H Fs E _ fun B1 H1 n1 => by
    cases k with
    | false => exact iteF (q B1 H1 n1)
    | true => exact iteT (h2 rfl σ B1 H1 Fs (E.nw n1) _ fun B2 H2 n2 => q B2 H2 (n1.trans n2)))
theorem goW_or (h : GoT X Γ a k) (h2 : k = false → GoW X Γ (.BoolOp .Or (b :: rest) pos) l) : GoW X Γ (.BoolOp .Or (a :: b :: rest) pos) (k || l) := .mk fun σ B H Fs E Q q =>
  toW (pw_or sT sW) (h σ B H Fs E _ fun B1 H1 n1 => by
    cases k with
    | true => exact iteT (q B1 H1 n1)
    | false => exact iteF (h2 rfl σ B1 H1 Fs (E.nw n1) _ fun B2 H2 n2 => q B2 H2 (n1.trans n2)))
/-! the same as values -/
theorem go_one {op} (h : GoP X Γ a P) : GoP X Γ (.BoolOp op [a] pos) P := .mk fun σ B H Fs E Q q => toE (pe_one sE) (h σ B H Fs E Q q)
theorem go_andV (h : Go X Γ a (.bool k)) (h2 : k = true → Go X Γ (.BoolOp .And (b :: rest) pos) (.bool l)) : Go X Γ (.BoolOp .And (a :: b :: rest) pos) (.bool (k && l)) := .mk fun σ B H Fs E Q q =>
  toE (pe_and sE sE) (h σ B H Fs E _ fun v B1 H1 n1 r1 => ⟨k, dp_bl r1, by
    cases k with
    | false => exact iteF (q _ B1 H1 n1 (Dp.bl _))
    | true => exact iteT (h2 rfl σ B1 H1 Fs (E.nw n1) _ fun v B2 H2 n2 r2 => q v B2 H2 (n1.trans n2) r2)⟩)
theorem go_orV (h : Go X Γ a (.bool k)) (h2 : k = false → Go X Γ (.BoolOp .Or (b :: rest) pos) (.bool l)) : Go X Γ (.BoolOp .Or (a :: b :: rest) pos) (.bool (k || l)) := .mk fun σ B H Fs E Q q =>
  toE (pe_or sE sE) (h σ B H Fs E _ fun v B1 H1 n1 r1 => ⟨k, dp_bl r1, by
    cases k with
    | true => exact iteT (q _ B1 H1 n1 (Dp.bl _))
    | false => exact iteF (h2 rfl σ B1 H1 Fs (E.nw n1) _ fun v B2 H2 n2 r2 => q v B2 H2 (n1.trans n2) r2)⟩)
theorem go_notV (h : Go X Γ a (.bool k)) : Go X Γ (.UnaryOp .Not a pos) (.bool (!k)) := .mk fun σ B H Fs E Q q =>
  toE (pe_not sE) (h σ B H Fs E _ fun v B1 H1 n1 r1 => ⟨k, dp_bl r1, q _ B1 H1 n1 (Dp.bl _)⟩)
theorem go_ifE (h : GoT X Γ c k) (h1 : k = true → GoP X Γ a P) (h2 : k = false → GoP X Γ b P) : GoP X Γ (.IfExp c a b pos) P := .mk fun σ B H Fs E Q q =>
  toE (pe_ifExp sT sE sE) (h σ B H Fs E _ fun B1 H1 n1 => by
    cases k with
    | true => exact iteT (h1 rfl σ B1 H1 Fs (E.nw n1) _ fun v B2 H2 n2 r2 => q v B2 H2 (n1.trans n2) r2)
    | false => exact iteF (h2 rfl σ B1 H1 Fs (E.nw n1) _ fun v B2 H2 n2 r2 => q v B2 H2 (n1.trans n2) r2))
def isNonD : D → Bool
  | .none => true
  | _ => false
theorem gc_isN {j pos'} (h : Go X Γ a d) : GoC X Γ .Is a (.Constant .none j pos') (isNonD d) := .mk fun σ B H Fs E Q q =>
  toC (pc_isN sE) (h σ B H Fs E _ fun v B1 H1 n1 r1 => by
    have : decide (v = V.non) = isNonD d := by
      cases r1 <;> rfl
    show Q (.bl (decide (v = V.non))) H1
    rw [this]
    exact q B1 H1 n1)
theorem gc_notN {j pos'} (h : Go X Γ a d) : GoC X Γ .IsNot a (.Constant .none j pos') (!isNonD d) := .mk fun σ B H Fs E Q q =>
  toC (pc_notN sE) (h σ B H Fs E _ fun v B1 H1 n1 r1 => by
    have : decide (v = V.non) = isNonD d := by
      cases r1 <;> rfl
    show Q (.bl (!decide (v = V.non))) H1
    rw [this]
    exact q B1 H1 n1)
/-- the truth of a value -/
def truD : D → Bool
  | .none => false
  | .bool b => b
  | .int i => i != 0
  | .str y => (y.length : Int) != 0
  | .list xs => (xs.length : Int) != 0
  | .tuple xs => (xs.length : Int) != 0
  | .dict _ => false
theorem goT_tru (h : Go X Γ a d) (hd : ∀ y, d = .str y → y.length ≤ sizeLine) (hn : ∀ z, d ≠ .dict z) (he : ∀ whole, isTrue a X.env whole = (do let v ← whole; standAt a.pos; holding [v] (truthy v)) := by intro _; rfl) : GoT X Γ a (truD d) := .mk fun σ B H Fs E Q q =>
  toT (pt_truth sE he) (h σ B H Fs E _ fun v B1 H1 n1 r1 => by
    have e1 := n1.bh
    cases r1 with
    | non => exact ⟨_, rfl, q B1 H1 n1⟩
    | bl b => exact ⟨_, rfl, q B1 H1 n1⟩
    | int b => exact ⟨_, rfl, q B1 H1 n1⟩
    | str y => exact ⟨_, ⟨hd y rfl, rfl⟩, q B1 H1 n1⟩
    | lst h1 h2 =>
      refine ⟨_, .inl ⟨_, e1.sl h1, rfl⟩, ?_⟩
      cases h2 <;> exact q B1 H1 n1
    | tup h1 h2 =>
      refine ⟨_, .inr (.inl ⟨_, e1.st h1, rfl⟩), ?_⟩
      cases h2 <;> exact q B1 H1 n1)
theorem gc_in {x : D} (hu : UOk X) (ha : Go X Γ a x) (hb : Go X Γ b (.list ds)) (h1 : SeqAt.shaped x = true) (h2 : SeqAt.shaped (.list ds) = true) : GoC X Γ .In a b (hasD ds x) :=
  go_cmp2 (op_inD hu.u65) ha hb (fun v w B H hB r1 r2 Q q => ⟨x, ds, dpUp hB r1, dpUp hB r2, h1, h2, q⟩)
theorem gc_notIn {x : D} (hu : UOk X) (ha : Go X Γ a x) (hb : Go X Γ b (.list ds)) (h1 : SeqAt.shaped x = true) (h2 : SeqAt.shaped (.list ds) = true) : GoC X Γ .NotIn a b (!hasD ds x) :=
  go_cmp2 (op_notInD hu.u65) ha hb (fun v w B H hB r1 r2 Q q => ⟨x, ds, dpUp hB r1, dpUp hB r2, h1, h2, q⟩)
end

/-! ### displays, subscripts, slices -/
abbrev GoDs (X : Cx) (Γ : Ga) (es : List Expr) (ds : List D) : Prop := GoA X Γ es (ds.map datP)
def slD (ds : List D) (lo hi : Option Int) : List D := (ds.drop (HT.sIx ds.length 0 lo)).take (HT.sIx ds.length ds.length hi - HT.sIx ds.length 0 lo)
theorem dps_cut {K : PySem.W.Frag} {H : Hp} {vs : List V} {ds : List D} (h : DpAll K H vs ds) (lo hi : Option Int) : DpAll K H (cutV vs lo hi) (slD ds lo hi) := by
  unfold cutV slD
  rw [dps_len h]
  exact dps_take _ (dps_drop _ h)
theorem dps_atI {K : PySem.W.Frag} {H : Hp} {vs : List V} {ds : List D} {i : Int} {d : D} (h : DpAll K H vs ds) (e : atI ds i = some d) : ∃ v, atI vs i = some v ∧ Dp K H v d := by
  unfold atI at e ⊢
  rw [dps_len h]
  cases q : ixN ds.length i with
  | none =>
    rw [q] at e
    cases e
  | some j =>
    rw [q] at e
    exact dps_get h e
def GoO (X : Cx) (Γ : Ga) : Option Expr → Option Int → Prop
  | none, o => o = none
  | some e, o => ∃ i, o = some i ∧ Go X Γ e (.int i)
section
variable {X : Cx} {Γ : Ga} {e a b c : Expr} {es rest : List Expr} {P : Mn} {d : D} {ds : List D} {pos : Pos} {k l : Bool}
theorem god_nil : GoDs X Γ [] [] := goA_nil
theorem god_cons (he : Go X Γ e d) (ht : GoDs X Γ es ds) (hs : starEach (e :: es) X.env = (false, eval e X.env) :: starEach es X.env := by rfl) : GoDs X Γ (e :: es) (d :: ds) := goA_cons he ht hs
theorem goN_lst (h : GoDs X Γ es ds) (hl : ds.length ≤ sizeLine := by show _ ≤ _; simp only [List.length]; decide) : GoN X Γ (.List es pos) ds := .mk fun σ B H Fs E Q q =>
  toE (pe_lst sA) (h σ B H Fs E _ fun vs B1 H1 n1 r1 => by
    have r2 := r1.dps
    refine ⟨by rw [dps_len r2]; exact hl, fun p hp => ?_⟩
    exact q p vs B1 _ (n1.trans (.lay n1.bh hp)) (n1.hh.none hp) (n1.bh.none hp) upd_same r2)
theorem go_lst (h : GoDs X Γ es ds) (hl : ds.length ≤ sizeLine := by show _ ≤ _; simp only [List.length]; decide) : Go X Γ (.List es pos) (.list ds) := go_of_new (goN_lst h hl)
theorem go_tup {j} (h : GoDs X Γ es ds) (hl : ds.length ≤ sizeLine := by show _ ≤ _; simp only [List.length]; decide) : Go X Γ (.Tuple es j pos) (.tuple ds) := .mk fun σ B H Fs E Q q =>
  toE (pe_tup sA) (h σ B H Fs E _ fun vs B1 H1 n1 r1 => by
    have r2 := r1.dps
    refine ⟨by rw [dps_len r2]; exact hl, fun p hp => ?_⟩
    have n2 := Nw.new (o := .tup vs) n1.bh hp
    exact q _ _ _ (n1.trans n2) (Dp.tup (.of upd_same) (dpsUp n2.bb r2)))
theorem go_ixL {i : Int} (ha : Go X Γ a (.list ds)) (hb : Go X Γ b (.int i)) (hi : atI ds i = some d) (hs : PlainIx b := by exact fun _ _ => rfl) : Go X Γ (.Subscript a b pos) d := .mk fun σ B H Fs E Q q =>
  toE (pe_ix ix_list sE sE hs) (ha σ B H Fs E _ fun v B1 H1 n1 r1 => hb σ B1 H1 Fs (E.nw n1) _ fun w B2 H2 n2 r2 => by
    obtain ⟨p, vs, e1, e2, e3⟩ := dp_lst (dpUp n2.bb r1)
    obtain ⟨u, e4, e5⟩ := dps_atI e3 hi
    exact ⟨p, vs, i, u, e1, dp_int r2, n2.bh.sl e2, e4, q u B2 H2 (n1.trans n2) e5⟩)
theorem go_ixT {i : Int} (ha : Go X Γ a (.tuple ds)) (hb : Go X Γ b (.int i)) (hi : atI ds i = some d) (hs : PlainIx b := by exact fun _ _ => rfl) : Go X Γ (.Subscript a b pos) d := .mk fun σ B H Fs E Q q =>
  toE (pe_ix ix_tup sE sE hs) (ha σ B H Fs E _ fun v B1 H1 n1 r1 => hb σ B1 H1 Fs (E.nw n1) _ fun w B2 H2 n2 r2 => by
    obtain ⟨p, vs, e1, e2, e3⟩ := dp_tup (dpUp n2.bb r1)
    obtain ⟨u, e4, e5⟩ := dps_atI e3 hi
    exact ⟨p, vs, i, u, e1, dp_int r2, n2.bh.st e2, e4, q u B2 H2 (n1.trans n2) e5⟩)
theorem go_ixS {i : Int} {z : Str} {m : Nat} (ha : Go X Γ a (.str z)) (hb : Go X Γ b (.int i)) (hl : z.length ≤ sizeLine) (hi : atI z.cps.toList i = some m) (hs : PlainIx b := by exact fun _ _ => rfl) : Go X Γ (.Subscript a b pos) (.str ⟨#[m]⟩) := .mk fun σ B H Fs E Q q =>
  toE (pe_ix ix_str sE sE hs) (ha σ B H Fs E _ fun v B1 H1 n1 r1 => hb σ B1 H1 Fs (E.nw n1) _ fun w B2 H2 n2 r2 =>
    ⟨z, i, m, dp_str r1, dp_int r2, hl, hi, q _ B2 H2 (n1.trans n2) (Dp.str _)⟩)
def wpO (X : Cx) : Option Expr → TO
  | none => tNoPart
  | some e => tPart (wpE X e)
theorem sO : ∀ {o : Option Expr}, PO X o (wpO X o)
  | none => po_none
  | some _ => po_some sE
theorem goO_run {oe : Option Expr} {o : Option Int} (h : GoO X Γ oe o) {σ B H Fs} (E : En X.K B H σ Γ Fs) {Q : Option Int → Hp → Prop} (q : ∀ B2 H2, Nw B H B2 H2 → Q o H2) : wpO X oe σ H Q := by
  cases oe with
  | none =>
    have e : o = none := h
    subst e
    exact q B H (.same E.bh)
  | some e =>
    obtain ⟨i, rfl, h⟩ := h
    exact h σ B H Fs E _ fun v B1 H1 n1 r1 => ⟨i, dp_int r1, q B1 H1 n1⟩
theorem goO_none : GoO X Γ none none := rfl
theorem goO_some {i : Int} (h : Go X Γ e (.int i)) : GoO X Γ (some e) (some i) := ⟨i, rfl, h⟩
theorem goN_sl {lo hi : Option Expr} {x y : Option Int} {p2 : Pos} (ha : Go X Γ a (.list ds)) (hl : GoO X Γ lo x) (hh : GoO X Γ hi y) : GoN X Γ (.Subscript a (.Slice lo hi none p2) pos) (slD ds x y) := .mk fun σ B H Fs E Q q =>
  toE (pe_slice sl_list sE sO sO) (ha σ B H Fs E _ fun v B1 H1 n1 r1 => goO_run hl (E.nw n1) fun B2 H2 n2 => goO_run hh ((E.nw n1).nw n2) fun B3 H3 n3 => by
    obtain ⟨p, vs, e1, e2, e3⟩ := dp_lst (dpUp (n2.bb.trans n3.bb) r1)
    refine ⟨p, vs, e1, n3.bh.sl e2, fun l hl => ?_⟩
    have n := (n1.trans n2).trans n3
    exact q l _ B3 _ (n.trans (.lay n.bh hl)) (n.hh.none hl) (n.bh.none hl) upd_same (dps_cut e3 x y))
/-! ### calls of built-in functions -/
theorem go_callB {x : Str} {id : String} {r : List V → Hp → VK → Prop} {Ps : List Mn} {p : Pos} (hc : CallR X (.builtin id) r) (hg : Gl X x) (hm : X.mg x = none) (hv : bootBuiltins x = some (.builtin id)) (ha : GoA X Γ (e :: es) Ps)
    (hr : ∀ vs B H, Ex B H → MnAll X.K B vs Ps → ∀ Q, EQ X B H P Q → r vs H Q) (hn : x ≠ "__name__" := by decide) (hdb : (x == ("__debug__" : Str)) = false := by decide)
    (he : starEach (e :: es) X.env = (false, eval e X.env) :: starEach es X.env := by rfl) (hpl : (backTo pos (starEach es X.env)).any (·.1) = false := by rfl) : GoP X Γ (.Call (.Name x p) (e :: es) [] pos) P := .mk fun σ B H Fs E Q q =>
  toE (pe_callB hc hg hm hv sA hn hdb he hpl) (ha σ B H Fs E _ fun vs B1 H1 n1 r1 => hr vs B1 H1 n1.bh r1 Q fun v B2 H2 n2 r2 => q v B2 H2 (n1.trans n2) r2)
theorem go_callTy {x : Str} {id : String} {r : List V → Hp → VK → Prop} {Ps : List Mn} {p : Pos} (hc : CallR X (.type id) r) (hg : Gl X x) (hm : X.mg x = none) (hv : bootBuiltins x = some (.type id)) (ha : GoA X Γ (e :: es) Ps)
    (hr : ∀ vs B H, Ex B H → MnAll X.K B vs Ps → ∀ Q, EQ X B H P Q → r vs H Q) (hn : x ≠ "__name__" := by decide) (hdb : (x == ("__debug__" : Str)) = false := by decide)
    (he : starEach (e :: es) X.env = (false, eval e X.env) :: starEach es X.env := by rfl) (hpl : (backTo pos (starEach es X.env)).any (·.1) = false := by rfl) : GoP X Γ (.Call (.Name x p) (e :: es) [] pos) P := .mk fun σ B H Fs E Q q =>
  toE (pe_callTy hc hg hm hv sA hn hdb he hpl) (ha σ B H Fs E _ fun vs B1 H1 n1 r1 => hr vs B1 H1 n1.bh r1 Q fun v B2 H2 n2 r2 => q v B2 H2 (n1.trans n2) r2)
/-- a new list by a built-in function -/
theorem goN_callTy {x : Str} {id : String} {r : List V → Hp → VK → Prop} {Ps : List Mn} {p : Pos} (hc : CallR X (.type id) r) (hg : Gl X x) (hm : X.mg x = none) (hv : bootBuiltins x = some (.type id)) (ha : GoA X Γ (e :: es) Ps)
    (hr : ∀ vs B H, Ex B H → MnAll X.K B vs Ps → ∀ Q : VK, (∀ p us, H p = none → DpAll X.K B us ds → Q (.ref p) (upd H p (.lst us))) → r vs H Q) (hn : x ≠ "__name__" := by decide) (hdb : (x == ("__debug__" : Str)) = false := by decide)
    (he : starEach (e :: es) X.env = (false, eval e X.env) :: starEach es X.env := by rfl) (hpl : (backTo pos (starEach es X.env)).any (·.1) = false := by rfl) : GoN X Γ (.Call (.Name x p) (e :: es) [] pos) ds := .mk fun σ B H Fs E Q q =>
  toE (pe_callTy hc hg hm hv sA hn hdb he hpl) (ha σ B H Fs E _ fun vs B1 H1 n1 r1 => hr vs B1 H1 n1.bh r1 Q fun p us hp hd =>
    q p us B1 _ (n1.trans (.lay n1.bh hp)) (n1.hh.none hp) (n1.bh.none hp) upd_same hd)
theorem goN_callB {x : Str} {id : String} {r : List V → Hp → VK → Prop} {Ps : List Mn} {p : Pos} (hc : CallR X (.builtin id) r) (hg : Gl X x) (hm : X.mg x = none) (hv : bootBuiltins x = some (.builtin id)) (ha : GoA X Γ (e :: es) Ps)
    (hr : ∀ vs B H, Ex B H → MnAll X.K B vs Ps → ∀ Q : VK, (∀ p us, H p = none → DpAll X.K B us ds → Q (.ref p) (upd H p (.lst us))) → r vs H Q) (hn : x ≠ "__name__" := by decide) (hdb : (x == ("__debug__" : Str)) = false := by decide)
    (he : starEach (e :: es) X.env = (false, eval e X.env) :: starEach es X.env := by rfl) (hpl : (backTo pos (starEach es X.env)).any (·.1) = false := by rfl) : GoN X Γ (.Call (.Name x p) (e :: es) [] pos) ds := .mk fun σ B H Fs E Q q =>
  toE (pe_callB hc hg hm hv sA hn hdb he hpl) (ha σ B H Fs E _ fun vs B1 H1 n1 r1 => hr vs B1 H1 n1.bh r1 Q fun p us hp hd =>
    q p us B1 _ (n1.trans (.lay n1.bh hp)) (n1.hh.none hp) (n1.bh.none hp) upd_same hd)
theorem mn1 {K : PySem.W.Frag} {B : Hp} {vs : List V} {P : Mn} (h : MnAll K B vs [P]) : ∃ v, vs = [v] ∧ P.p K B v := by
  cases h with
  | cons h t =>
    cases t
    exact ⟨_, rfl, h⟩
theorem mn2 {K : PySem.W.Frag} {B : Hp} {vs : List V} {P P' : Mn} (h : MnAll K B vs [P, P']) : ∃ v w, vs = [v, w] ∧ P.p K B v ∧ P'.p K B w := by
  cases h with
  | cons h t =>
    obtain ⟨w, rfl, h2⟩ := mn1 t
    exact ⟨_, w, rfl, h, h2⟩
theorem mn3 {K : PySem.W.Frag} {B : Hp} {vs : List V} {P P' P'' : Mn} (h : MnAll K B vs [P, P', P'']) : ∃ v w u, vs = [v, w, u] ∧ P.p K B v ∧ P'.p K B w ∧ P''.p K B u := by
  cases h with
  | cons h t =>
    obtain ⟨w, u, rfl, h2, h3⟩ := mn2 t
    exact ⟨_, w, u, rfl, h, h2, h3⟩
variable {p : Pos}
theorem go_len (ha : Go X Γ e (.list ds)) (hm : X.mg "len" = none) (hg : Gl X "len" := by rfl) (he : starEach [e] X.env = (false, eval e X.env) :: starEach [] X.env := by rfl) : Go X Γ (.Call (.Name "len" p) [e] [] pos) (.int ds.length) :=
  go_callB call_len_seq hg hm PySem.boot_len (goA_cons ha goA_nil he) (fun vs B H hB r Q q => by
    obtain ⟨v, rfl, h⟩ := mn1 r
    obtain ⟨p, us, rfl, h2, h3⟩ := dp_lst h
    refine ⟨p, us, rfl, .inl (hB.sl h2), ?_⟩
    rw [dps_len h3]
    exact q _ B H (.same hB) (Dp.int _)) (by decide) (by decide) he rfl
theorem go_lenT (ha : Go X Γ e (.tuple ds)) (hm : X.mg "len" = none) (hg : Gl X "len" := by rfl) (he : starEach [e] X.env = (false, eval e X.env) :: starEach [] X.env := by rfl) : Go X Γ (.Call (.Name "len" p) [e] [] pos) (.int ds.length) :=
  go_callB call_len_seq hg hm PySem.boot_len (goA_cons ha goA_nil he) (fun vs B H hB r Q q => by
    obtain ⟨v, rfl, h⟩ := mn1 r
    obtain ⟨p, us, rfl, h2, h3⟩ := dp_tup h
    refine ⟨p, us, rfl, .inr (hB.st h2), ?_⟩
    rw [dps_len h3]
    exact q _ B H (.same hB) (Dp.int _)) (by decide) (by decide) he rfl
theorem go_lenS {z : Str} (ha : Go X Γ e (.str z)) (hl : z.length ≤ sizeLine) (hm : X.mg "len" = none) (hg : Gl X "len" := by rfl) (he : starEach [e] X.env = (false, eval e X.env) :: starEach [] X.env := by rfl) : Go X Γ (.Call (.Name "len" p) [e] [] pos) (.int z.length) :=
  go_callB call_len_str hg hm PySem.boot_len (goA_cons ha goA_nil he) (fun vs B H hB r Q q => by
    obtain ⟨v, rfl, h⟩ := mn1 r
    have e1 := dp_str h
    subst e1
    exact ⟨z, rfl, hl, q _ B H (.same hB) (Dp.int _)⟩) (by decide) (by decide) he rfl
theorem boot_abs : bootBuiltins "abs" = some (.builtin "abs") := by decide +kernel
theorem go_abs {i : Int} (ha : Go X Γ e (.int i)) (hm : X.mg "abs" = none) (hg : Gl X "abs" := by rfl) (he : starEach [e] X.env = (false, eval e X.env) :: starEach [] X.env := by rfl) : Go X Γ (.Call (.Name "abs" p) [e] [] pos) (.int (if i < 0 then -i else i)) :=
  go_callB call_abs hg hm boot_abs (goA_cons ha goA_nil he) (fun vs B H hB r Q q => by
    obtain ⟨v, rfl, h⟩ := mn1 r
    have e1 := dp_int h
    subst e1
    exact ⟨i, rfl, q _ B H (.same hB) (Dp.int _)⟩) (by decide) (by decide) he rfl
theorem go_intI {i : Int} (ha : Go X Γ e (.int i)) (hm : X.mg "int" = none) (hg : Gl X "int" := by rfl) (he : starEach [e] X.env = (false, eval e X.env) :: starEach [] X.env := by rfl) : Go X Γ (.Call (.Name "int" p) [e] [] pos) (.int i) :=
  go_callTy call_int1 hg hm PyProof.Rows.boot_int (goA_cons ha goA_nil he) (fun vs B H hB r Q q => by
    obtain ⟨v, rfl, h⟩ := mn1 r
    have e1 := dp_int h
    subst e1
    exact .inl ⟨i, rfl, q _ B H (.same hB) (Dp.int _)⟩) (by decide) (by decide) he rfl
theorem go_intB (ha : Go X Γ e (.bool k)) (hm : X.mg "int" = none) (hg : Gl X "int" := by rfl) (he : starEach [e] X.env = (false, eval e X.env) :: starEach [] X.env := by rfl) : Go X Γ (.Call (.Name "int" p) [e] [] pos) (.int (if k then 1 else 0)) :=
  go_callTy call_int1 hg hm PyProof.Rows.boot_int (goA_cons ha goA_nil he) (fun vs B H hB r Q q => by
    obtain ⟨v, rfl, h⟩ := mn1 r
    have e1 := dp_bl h
    subst e1
    exact .inr ⟨k, rfl, q _ B H (.same hB) (Dp.int _)⟩) (by decide) (by decide) he rfl
theorem go_max2 {i j : Int} (hc : X.calm = true) (ha : Go X Γ a (.int i)) (hb : Go X Γ b (.int j)) (hm : X.mg "max" = none) (hg : Gl X "max" := by rfl) (he : starEach [a, b] X.env = (false, eval a X.env) :: starEach [b] X.env := by rfl) (he2 : starEach [b] X.env = (false, eval b X.env) :: starEach [] X.env := by rfl) :
    Go X Γ (.Call (.Name "max" p) [a, b] [] pos) (.int (if j > i then j else i)) :=
  go_callB (call_max2 hc) hg hm PyProof.Rows.boot_max (goA_cons ha (goA_cons hb goA_nil he2) he) (fun vs B H hB r Q q => by
    obtain ⟨v, w, rfl, h, h2⟩ := mn2 r
    have e1 := dp_int h
    have e2 := dp_int h2
    subst e1 e2
    exact ⟨i, j, rfl, q _ B H (.same hB) (Dp.int _)⟩) (by decide) (by decide) he (by rw [he2]; rfl)
theorem go_sum {ns : List Int} (hc : X.calm = true) (ha : Go X Γ e (.list (ns.map .int))) (hm : X.mg "sum" = none) (hg : Gl X "sum" := by rfl) (he : starEach [e] X.env = (false, eval e X.env) :: starEach [] X.env := by rfl) : Go X Γ (.Call (.Name "sum" p) [e] [] pos) (.int ns.sum) :=
  go_callB (cr_sum hc) hg hm PyProof.Rows.boot_sum (goA_cons ha goA_nil he) (fun vs B H hB r Q q => by
    obtain ⟨v, rfl, h⟩ := mn1 r
    obtain ⟨p, us, rfl, h2, h3⟩ := dp_lst h
    rw [dps_ints_inv h3] at h2
    exact ⟨p, ns, rfl, hB.sl h2, q _ B H (.same hB) (Dp.int _)⟩) (by decide) (by decide) he rfl
theorem dps_bools_inv {K : PySem.W.Frag} {H : Hp} : ∀ {ns : List Bool} {vs : List V}, DpAll K H vs (ns.map PyData.bool) → vs = ns.map V.bl
  | [], _, .nil => rfl
  | n :: r, _, .cons (.bl _) t => by
    rw [dps_bools_inv t, List.map_cons]
theorem boot_all : bootBuiltins "all" = some (.builtin "all") := by decide +kernel
theorem boot_any : bootBuiltins "any" = some (.builtin "any") := by decide +kernel
theorem go_all {ns : List Bool} (hc : X.calm = true) (ha : Go X Γ e (.list (ns.map .bool))) (hm : X.mg "all" = none) (hg : Gl X "all" := by rfl) (he : starEach [e] X.env = (false, eval e X.env) :: starEach [] X.env := by rfl) : Go X Γ (.Call (.Name "all" p) [e] [] pos) (.bool (ns.all id)) :=
  go_callB (cr_all hc) hg hm boot_all (goA_cons ha goA_nil he) (fun vs B H hB r Q q => by
    obtain ⟨v, rfl, h⟩ := mn1 r
    obtain ⟨p, us, rfl, h2, h3⟩ := dp_lst h
    rw [dps_bools_inv h3] at h2
    exact ⟨p, ns, rfl, hB.sl h2, q _ B H (.same hB) (Dp.bl _)⟩) (by decide) (by decide) he rfl
theorem go_any {ns : List Bool} (hc : X.calm = true) (ha : Go X Γ e (.list (ns.map .bool))) (hm : X.mg "any" = none) (hg : Gl X "any" := by rfl) (he : starEach [e] X.env = (false, eval e X.env) :: starEach [] X.env := by rfl) : Go X Γ (.Call (.Name "any" p) [e] [] pos) (.bool (ns.any id)) :=
  go_callB (cr_any hc) hg hm boot_any (goA_cons ha goA_nil he) (fun vs B H hB r Q q => by
    obtain ⟨v, rfl, h⟩ := mn1 r
    obtain ⟨p, us, rfl, h2, h3⟩ := dp_lst h
    rw [dps_bools_inv h3] at h2
    exact ⟨p, ns, rfl, hB.sl h2, q _ B H (.same hB) (Dp.bl _)⟩) (by decide) (by decide) he rfl
theorem goN_list (ha : Go X Γ e (.list ds)) (hm : X.mg "list" = none) (hg : Gl X "list" := by rfl) (he : starEach [e] X.env = (false, eval e X.env) :: starEach [] X.env := by rfl) : GoN X Γ (.Call (.Name "list" p) [e] [] pos) ds :=
  goN_callTy call_list_of hg hm PyProof.Rows.boot_list (goA_cons ha goA_nil he) (fun vs B H hB r Q q => by
    obtain ⟨v, rfl, h⟩ := mn1 r
    obtain ⟨p, us, rfl, h2, h3⟩ := dp_lst h
    exact ⟨p, us, rfl, .inl (hB.sl h2), fun l hl => q l us hl h3⟩) (by decide) (by decide) he rfl
theorem goN_listT (ha : Go X Γ e (.tuple ds)) (hm : X.mg "list" = none) (hg : Gl X "list" := by rfl) (he : starEach [e] X.env = (false, eval e X.env) :: starEach [] X.env := by rfl) : GoN X Γ (.Call (.Name "list" p) [e] [] pos) ds :=
  goN_callTy call_list_of hg hm PyProof.Rows.boot_list (goA_cons ha goA_nil he) (fun vs B H hB r Q q => by
    obtain ⟨v, rfl, h⟩ := mn1 r
    obtain ⟨p, us, rfl, h2, h3⟩ := dp_tup h
    exact ⟨p, us, rfl, .inr (hB.st h2), fun l hl => q l us hl h3⟩) (by decide) (by decide) he rfl
theorem go_tupleL (ha : Go X Γ e (.list ds)) (hm : X.mg "tuple" = none) (hg : Gl X "tuple" := by rfl) (he : starEach [e] X.env = (false, eval e X.env) :: starEach [] X.env := by rfl) : Go X Γ (.Call (.Name "tuple" p) [e] [] pos) (.tuple ds) :=
  go_callTy call_tuple_of hg hm PyProof.Rows.boot_tuple (goA_cons ha goA_nil he) (fun vs B H hB r Q q => by
    obtain ⟨v, rfl, h⟩ := mn1 r
    obtain ⟨p, us, rfl, h2, h3⟩ := dp_lst h
    refine ⟨p, us, rfl, .inl ⟨hB.sl h2, fun l hl => ?_⟩⟩
    have n := Nw.new (o := .tup us) hB hl
    exact q _ _ _ n (Dp.tup (.of upd_same) (dpsUp n.bb h3))) (by decide) (by decide) he rfl
end
end PL

set_option maxHeartbeats 2000000
namespace PL
open PySem PySem.Spec PyProof.Rows L2

/-! ### slots changed -/
section
variable {K : PySem.W.Frag} {B H B2 H2 : Hp} {σ : L2.St} {Γ : Ga} {Fs : Nat → List Addr}
/-- the places of the slot i are let go -/
def off (Fs : Nat → List Addr) (i : Nat) (F : List Addr) : Nat → List Addr := fun j => if j = i then F else Fs j
theorem off_same {i : Nat} {F : List Addr} : off Fs i F i = F := if_pos rfl
theorem off_ne {i j : Nat} {F : List Addr} (h : j ≠ i) : off Fs i F j = Fs j := if_neg h
theorem off_sub {i j : Nat} {a : Addr} (h : a ∈ off Fs i [] j) : a ∈ Fs j := by
  by_cases e : j = i
  · subst e
    rw [off_same] at h
    cases h
  · rw [off_ne e] at h
    exact h
theorem En.setP {P : Mn} {v : V} (E : En K B H σ Γ Fs) (i : Nat) (h : P.p K B v) : En K B H (σ.set i (some v)) (Γ.set i (.pr P)) (off Fs i []) where
  bh := E.bh
  len := by rw [List.length_set, List.length_set, E.len]
  at_ := fun j s hs => by
    by_cases e : j = i
    · subst e
      have hl : j < Γ.length := by
        by_cases hl : j < Γ.length
        · exact hl
        · rw [List.getElem?_eq_none (by rw [List.length_set]; omega)] at hs
          cases hs
      rw [List.getElem?_set_self hl] at hs
      cases hs
      exact ⟨v, List.getElem?_set_self (by rw [E.len]; exact hl), h⟩
    · rw [List.getElem?_set_ne (Ne.symm e)] at hs
      rw [List.getElem?_set_ne (Ne.symm e), off_ne e]
      exact E.at_ j s hs
  fre := fun j a ha => E.fre j a (off_sub ha)
  dis := fun j k a h1 h2 => E.dis j k a (off_sub h1) (off_sub h2)
theorem En.setO {P : Ow} {v : V} {F : List Addr} (E : En K B H σ Γ Fs) (i : Nat) (h : P.p K B H v F) (hb : ∀ a ∈ F, B a = none) (hd : ∀ j a, a ∈ Fs j → a ∉ F) : En K B H (σ.set i (some v)) (Γ.set i (.ob P)) (off Fs i F) where
  bh := E.bh
  len := by rw [List.length_set, List.length_set, E.len]
  at_ := fun j s hs => by
    by_cases e : j = i
    · subst e
      have hl : j < Γ.length := by
        by_cases hl : j < Γ.length
        · exact hl
        · rw [List.getElem?_eq_none (by rw [List.length_set]; omega)] at hs
          cases hs
      rw [List.getElem?_set_self hl] at hs
      cases hs
      rw [off_same]
      exact ⟨v, List.getElem?_set_self (by rw [E.len]; exact hl), h⟩
    · rw [List.getElem?_set_ne (Ne.symm e)] at hs
      rw [List.getElem?_set_ne (Ne.symm e), off_ne e]
      exact E.at_ j s hs
  fre := fun j a ha => by
    by_cases e : j = i
    · subst e
      rw [off_same] at ha
      exact ⟨hb a ha, P.dom h a ha⟩
    · rw [off_ne e] at ha
      exact E.fre j a ha
  dis := fun j k a h1 h2 => by
    by_cases e : j = i
    · by_cases e2 : k = i
      · rw [e, e2]
      · rw [e, off_same] at h1
        rw [off_ne e2] at h2
        exact absurd h1 (hd k a h2)
    · rw [off_ne e] at h1
      by_cases e2 : k = i
      · rw [e2, off_same] at h2
        exact absurd h2 (hd j a h1)
      · rw [off_ne e2] at h2
        exact E.dis j k a h1 h2
/-- an object that no slot has is laid or changed -/
theorem En.upd {p : Addr} {o : HO} (E : En K B H σ Γ Fs) (hb : B p = none) (hf : ∀ j, p ∉ Fs j) : En K B (upd H p o) σ Γ Fs where
  bh := fun a u e => by
    rw [upd_ne (ne_of_none e hb)]
    exact E.bh a u e
  len := E.len
  at_ := fun j s hs => by
    have := E.at_ j s hs
    cases s with
    | any => trivial
    | pr P => exact this
    | ob P =>
      obtain ⟨v, h1, h2⟩ := this
      exact ⟨v, h1, P.loc (fun a ha => upd_ne fun z => hf j (z ▸ ha)) h2⟩
  fre := fun j a ha => ⟨(E.fre j a ha).1, fun z => by
    have ne : a ≠ p := fun z => hf j (z ▸ ha)
    rw [upd_ne ne] at z
    exact (E.fre j a ha).2 z⟩
  dis := E.dis
/-- the list in the slot i is changed -/
theorem En.mutL {i : Nat} {a : Addr} {vs us : List V} {ds es : List D} (E : En K B H σ Γ Fs) (hΓ : Γ[i]? = some (.own ds)) (hσ : σ[i]? = some (some (.ref a))) (hH : H a = some (.lst vs)) (hF : Fs i = [a]) (hd : DpAll K B us es) :
    En K B (L2.upd H a (.lst us)) σ (Γ.set i (.own es)) Fs := by
  have hb : B a = none := (E.fre i a (by rw [hF]; exact List.mem_cons_self)).1
  have nf : ∀ j, j ≠ i → a ∉ Fs j := fun j hj ha => hj (E.dis j i a ha (by rw [hF]; exact List.mem_cons_self))
  refine ⟨fun b u e => ?_, ?_, fun j s hs => ?_, fun j b hb' => ⟨(E.fre j b hb').1, fun z => ?_⟩, E.dis⟩
  · rw [upd_ne (ne_of_none e hb)]
    exact E.bh b u e
  · rw [List.length_set, E.len]
  · by_cases e : j = i
    · subst e
      have hl : j < Γ.length := by
        by_cases hl : j < Γ.length
        · exact hl
        · rw [List.getElem?_eq_none (by omega)] at hΓ
          cases hΓ
      rw [List.getElem?_set_self hl] at hs
      cases hs
      exact ⟨.ref a, hσ, a, us, rfl, hF, upd_same, hd⟩
    · rw [List.getElem?_set_ne (Ne.symm e)] at hs
      have := E.at_ j s hs
      cases s with
      | any => trivial
      | pr P => exact this
      | ob P =>
        obtain ⟨v, h1, h2⟩ := this
        exact ⟨v, h1, P.loc (fun b hb' => upd_ne fun z => nf j e (z ▸ hb')) h2⟩
  · by_cases e : b = a
    · rw [e, upd_same] at z
      cases z
    · rw [upd_ne e] at z
      exact (E.fre j b hb').2 z
/-- .. is frozen -/
theorem En.ice {i : Nat} {a : Addr} {vs : List V} {ds : List D} (E : En K B H σ Γ Fs) (hΓ : Γ[i]? = some (.own ds)) (hσ : σ[i]? = some (some (.ref a))) (hH : H a = some (.lst vs)) (hF : Fs i = [a]) (hd : DpAll K B vs ds) :
    En K (L2.upd B a (.lst vs)) H σ (Γ.set i (.dat (.list ds))) (off Fs i []) ∧ Ex B (L2.upd B a (.lst vs)) := by
  have hb : B a = none := (E.fre i a (by rw [hF]; exact List.mem_cons_self)).1
  obtain ⟨e1, e2⟩ := Nw.ice E.bh hb hH
  have nf : ∀ j, j ≠ i → a ∉ Fs j := fun j hj ha => hj (E.dis j i a ha (by rw [hF]; exact List.mem_cons_self))
  refine ⟨⟨e2, by rw [List.length_set, E.len], fun j s hs => ?_, fun j b hb' => ?_, fun j k b h1 h2 => E.dis j k b (off_sub h1) (off_sub h2)⟩, e1⟩
  · by_cases e : j = i
    · subst e
      have hl : j < Γ.length := by
        by_cases hl : j < Γ.length
        · exact hl
        · rw [List.getElem?_eq_none (by omega)] at hΓ
          cases hΓ
      rw [List.getElem?_set_self hl] at hs
      cases hs
      exact ⟨.ref a, hσ, show Dp _ _ _ _ from .lst (.of upd_same) (dpsUp e1 hd)⟩
    · rw [List.getElem?_set_ne (Ne.symm e)] at hs
      rw [off_ne e]
      have := E.at_ j s hs
      cases s with
      | any => trivial
      | pr P =>
        obtain ⟨v, h1, h2⟩ := this
        exact ⟨v, h1, P.up e1 h2⟩
      | ob P =>
        obtain ⟨v, h1, h2⟩ := this
        exact ⟨v, h1, P.upB e1 h2⟩
  · have hj : j ≠ i := fun e => by
      rw [e, off_same] at hb'
      cases hb'
    rw [off_ne hj] at hb'
    refine ⟨?_, (E.fre j b hb').2⟩
    have ne : b ≠ a := fun z => nf j hj (z ▸ hb')
    rw [upd_ne ne]
    exact (E.fre j b hb').1
theorem En.own {i : Nat} {ds : List D} (E : En K B H σ Γ Fs) (hΓ : Γ[i]? = some (.own ds)) : ∃ a vs, σ[i]? = some (some (.ref a)) ∧ H a = some (.lst vs) ∧ Fs i = [a] ∧ DpAll K B vs ds ∧ B a = none := by
  obtain ⟨v, h1, a, vs, rfl, h3, h4, h5⟩ := E.at_ i _ hΓ
  exact ⟨a, vs, h1, h4, h3, h5, (E.fre i a (by rw [h3]; exact List.mem_cons_self)).1⟩
def wipeG (Γ : Ga) : List Nat → Ga
  | [] => Γ
  | v :: vs => (wipeG Γ vs).set v .any
theorem En.setN (E : En K B H σ Γ Fs) (i : Nat) (o : Option V) : En K B H (σ.set i o) (Γ.set i .any) Fs where
  bh := E.bh
  len := by rw [List.length_set, List.length_set, E.len]
  at_ := fun j s hs => by
    by_cases e : j = i
    · subst e
      by_cases hl : j < Γ.length
      · rw [List.getElem?_set_self hl] at hs
        cases hs
        trivial
      · rw [List.getElem?_eq_none (by rw [List.length_set]; omega)] at hs
        cases hs
    · rw [List.getElem?_set_ne (Ne.symm e)] at hs
      rw [List.getElem?_set_ne (Ne.symm e)]
      exact E.at_ j s hs
  fre := E.fre
  dis := E.dis
theorem En.wipe (E : En K B H σ Γ Fs) : ∀ vs : List Nat, En K B H (wipe σ vs) (wipeG Γ vs) Fs
  | [] => E
  | v :: vs => (En.wipe E vs).setN v none
/-- less is known -/
inductive Wk : Ga → Ga → Prop
  | nil : Wk [] []
  | same {s : Sl} {a b : Ga} : Wk a b → Wk (s :: a) (s :: b)
  | any {s : Sl} {a b : Ga} : Wk a b → Wk (s :: a) (.any :: b)
theorem Wk.refl : ∀ a : Ga, Wk a a
  | [] => .nil
  | _ :: r => .same (Wk.refl r)
theorem Wk.len : ∀ {a b : Ga}, Wk a b → a.length = b.length
  | _, _, .nil => rfl
  | _, _, .same h => by rw [List.length_cons, List.length_cons, h.len]
  | _, _, .any h => by rw [List.length_cons, List.length_cons, h.len]
theorem Wk.get : ∀ {a b : Ga} {i : Nat} {s : Sl}, Wk a b → b[i]? = some s → s = .any ∨ a[i]? = some s
  | _, _, _, _, .nil, h => by simp at h
  | _, _, 0, _, .same _, h => .inr (by simpa using h)
  | _, _, 0, _, .any _, h => by
    simp only [List.getElem?_cons_zero, Option.some.injEq] at h
    exact .inl h.symm
  | _, _, i + 1, s, .same t, h => by
    have := Wk.get (i := i) (s := s) t (by simpa using h)
    simpa using this
  | _, _, i + 1, s, .any t, h => by
    have := Wk.get (i := i) (s := s) t (by simpa using h)
    simpa using this
theorem En.wk {Γ' : Ga} (E : En K B H σ Γ Fs) (w : Wk Γ Γ') : En K B H σ Γ' Fs where
  bh := E.bh
  len := by rw [E.len, w.len]
  at_ := fun j s hs => by
    rcases w.get hs with e | e
    · subst e
      trivial
    · exact E.at_ j s e
  fre := E.fre
  dis := E.dis
end

/-! ### the def's own story: what stood at its entry -/
structure Jd where
  H : Hp
  M : List Addr
  S : List Nat
structure Jn (J : Jd) (B0 B H : Hp) (Fs : Nat → List Addr) : Prop where
  b0 : Ex B0 B
  nb : ∀ a, B a ≠ none → B0 a = none → J.H a = none
  h0 : ∀ a o, J.H a = some o → a ∉ J.M → H a = some o
  h1 : ∀ a, J.H a ≠ none → H a ≠ none
  fm : ∀ i a, a ∈ Fs i → J.H a = none ∨ (a ∈ J.M ∧ i ∈ J.S)
section
variable {J : Jd} {B0 B H B2 H2 : Hp} {Fs Fs2 : Nat → List Addr}
theorem Jn.nw (j : Jn J B0 B H Fs) (n : Nw B H B2 H2) : Jn J B0 B2 H2 Fs where
  b0 := j.b0.trans n.bb
  nb := fun a h1 h2 => by
    cases q : B a with
    | some o => exact j.nb a (by rw [q]; exact fun z => nomatch z) h2
    | none =>
      cases r : J.H a with
      | none => rfl
      | some o => exact absurd (n.nu a q (j.h1 a (by rw [r]; exact fun z => nomatch z))) h1
  h0 := fun a o h1 h2 => n.hh a o (j.h0 a o h1 h2)
  h1 := fun a h => fun z => j.h1 a h (n.hh.none z)
  fm := j.fm
theorem Jn.trans {B' H' : Hp} {Fs' : Nat → List Addr} (j : Jn J B0 B H Fs) (j2 : Jn J B B' H' Fs') : Jn J B0 B' H' Fs' := ⟨j.b0.trans j2.b0, fun a h1 h2 => by
  cases q : B a with
  | none => exact j2.nb a h1 q
  | some o => exact j.nb a (by rw [q]; exact fun z => nomatch z) h2, j2.h0, j2.h1, j2.fm⟩
theorem Jn.fresh (j : Jn J B0 B H Fs) : Jn J B B H Fs := ⟨.refl _, fun a h1 h2 => absurd h2 h1, j.h0, j.h1, j.fm⟩
theorem Jn.sub (j : Jn J B0 B H Fs) (h : ∀ i a, a ∈ Fs2 i → a ∈ Fs i) : Jn J B0 B H Fs2 := ⟨j.b0, j.nb, j.h0, j.h1, fun i a ha => j.fm i a (h i a ha)⟩
/-- a new place -/
theorem Jn.lay {i : Nat} {F : List Addr} (j : Jn J B0 B H Fs) (h : ∀ a ∈ F, J.H a = none) : Jn J B0 B H (off Fs i F) := ⟨j.b0, j.nb, j.h0, j.h1, fun k a ha => by
  by_cases e : k = i
  · subst e
    rw [off_same] at ha
    exact .inl (h a ha)
  · rw [off_ne e] at ha
    exact j.fm k a ha⟩
theorem Jn.upd {p : Addr} {o : HO} (j : Jn J B0 B H Fs) (h : J.H p = none ∨ p ∈ J.M) : Jn J B0 B (L2.upd H p o) Fs := ⟨j.b0, j.nb, fun a u h1 h2 => by
  have : a ≠ p := fun z => by
    rcases h with h | h
    · rw [z, h] at h1
      cases h1
    · exact h2 (z ▸ h)
  rw [upd_ne this]
  exact j.h0 a u h1 h2, fun a h1 z => by
  by_cases e : a = p
  · rw [e, upd_same] at z
    cases z
  · rw [upd_ne e] at z
    exact j.h1 a h1 z, j.fm⟩
theorem Jn.ice {i : Nat} {a : Addr} {o : HO} (j : Jn J B0 B H Fs) (hb : B a = none) (h : J.H a = none) : Jn J B0 (L2.upd B a o) H Fs where
  b0 := j.b0.trans (Ex.new hb)
  nb := fun b h1 h2 => by
    by_cases q : b = a
    · rw [q]
      exact h
    · rw [upd_ne q] at h1
      exact j.nb b h1 h2
  h0 := j.h0
  h1 := j.h1
  fm := j.fm
end
/-- what a block is to reach -/
structure Nd where
  nx : Ga → Prop
  rt : Mn
  bk : Ga → Prop := fun _ => False
  ct : Ga → Prop := fun _ => False
  rG : Ga → Prop := fun _ => True
  rn : Option Ow := none
/-- what is handed back: a thing that is not changed any more, or a new one of the caller's own -/
def Rt (K : PySem.W.Frag) (J : Jd) (B H : Hp) (v : V) (P : Mn) : Option Ow → Prop
  | none => P.p K B v
  | some W => ∃ F, W.p K B H v F ∧ ∀ a ∈ F, J.H a = none ∧ B a = none
def At (X : Cx) (J : Jd) (B0 : Hp) (N : Ga → Prop) : L2.St → Hp → Prop := fun σ' H' => ∃ B' Γ' Fs', En X.K B' H' σ' Γ' Fs' ∧ Jn J B0 B' H' Fs' ∧ N Γ'
def Nd.ends (X : Cx) (J : Jd) (B0 : Hp) (N : Nd) : Ends where
  nx := At X J B0 N.nx
  bk := At X J B0 N.bk
  ct := At X J B0 N.ct
  rt := fun v H' => ∃ σ' B' Γ' Fs', En X.K B' H' σ' Γ' Fs' ∧ Jn J B0 B' H' Fs' ∧ N.rG Γ' ∧ Rt X.K J B' H' v N.rt N.rn
/-- a block (a statement) runs from the slots Γ to what is wanted -/
structure Rn (X : Cx) (J : Jd) (N : Nd) (Γ : Ga) (sts : List Stmt) : Prop where
  run : ∀ B0 σ B H Fs, En X.K B H σ Γ Fs → Jn J B0 B H Fs → wpSs X sts (N.ends X J B0) σ H
instance {X : Cx} {J : Jd} {N : Nd} {Γ : Ga} {sts : List Stmt} : CoeFun (Rn X J N Γ sts) fun _ => ∀ B0 σ B H Fs, En X.K B H σ Γ Fs → Jn J B0 B H Fs → wpSs X sts (N.ends X J B0) σ H := ⟨Rn.run⟩
structure RnS (X : Cx) (J : Jd) (N : Nd) (Γ : Ga) (st : Stmt) : Prop where
  run : ∀ B0 σ B H Fs, En X.K B H σ Γ Fs → Jn J B0 B H Fs → wpS X st (N.ends X J B0) σ H
instance {X : Cx} {J : Jd} {N : Nd} {Γ : Ga} {st : Stmt} : CoeFun (RnS X J N Γ st) fun _ => ∀ B0 σ B H Fs, En X.K B H σ Γ Fs → Jn J B0 B H Fs → wpS X st (N.ends X J B0) σ H := ⟨RnS.run⟩
abbrev Nd.thn (N : Nd) (X : Cx) (J : Jd) (rest : List Stmt) : Nd := { N with nx := fun Γ' => Rn X J N Γ' rest }
section
variable {X : Cx} {J : Jd} {N : Nd} {Γ : Ga} {e a b c : Expr} {st : Stmt} {sts rest body : List Stmt} {P : Mn} {d : D} {ds : List D} {pos : Pos} {k : Bool}
theorem wpS_mono {D1 D2 : Ends} {σ : L2.St} {H : Hp} (h : wpS X st D1 σ H) (h1 : ∀ σ H, D1.nx σ H → D2.nx σ H) (h2 : ∀ v H, D1.rt v H → D2.rt v H) (h3 : ∀ σ H, D1.bk σ H → D2.bk σ H) (h4 : ∀ σ H, D1.ct σ H → D2.ct σ H) : wpS X st D2 σ H := fun pins s I =>
  thn (h pins s I) fun f s1 q => by
    cases f with
    | next =>
      obtain ⟨σ', H', I', q⟩ := q
      exact ⟨σ', H', I', h1 _ _ q⟩
    | ret v =>
      obtain ⟨v, σ', H', I', r, q⟩ := q
      exact ⟨v, σ', H', I', r, h2 _ _ q⟩
    | brk =>
      obtain ⟨σ', H', I', q⟩ := q
      exact ⟨σ', H', I', h3 _ _ q⟩
    | cont =>
      obtain ⟨σ', H', I', q⟩ := q
      exact ⟨σ', H', I', h4 _ _ q⟩
theorem wpSs_mono {D1 D2 : Ends} {σ : L2.St} {H : Hp} (h : wpSs X sts D1 σ H) (h1 : ∀ σ H, D1.nx σ H → D2.nx σ H) (h2 : ∀ v H, D1.rt v H → D2.rt v H) (h3 : ∀ σ H, D1.bk σ H → D2.bk σ H) (h4 : ∀ σ H, D1.ct σ H → D2.ct σ H) : wpSs X sts D2 σ H := fun pins s I =>
  thn (h pins s I) fun f s1 q => by
    cases f with
    | next =>
      obtain ⟨σ', H', I', q⟩ := q
      exact ⟨σ', H', I', h1 _ _ q⟩
    | ret v =>
      obtain ⟨v, σ', H', I', r, q⟩ := q
      exact ⟨v, σ', H', I', r, h2 _ _ q⟩
    | brk =>
      obtain ⟨σ', H', I', q⟩ := q
      exact ⟨σ', H', I', h3 _ _ q⟩
    | cont =>
      obtain ⟨σ', H', I', q⟩ := q
      exact ⟨σ', H', I', h4 _ _ q⟩
theorem rn_cons (h : RnS X J (N.thn X J rest) Γ st) : Rn X J N Γ (st :: rest) := .mk fun B0 σ B H Fs E j =>
  toSs (pss_cons sS sSs) (wpS_mono (h B0 σ B H Fs E j) (fun σ' H' ⟨B', Γ', Fs', e1, e2, e3⟩ => e3 B0 σ' B' H' Fs' e1 e2) (fun _ _ z => z) (fun _ _ z => z) fun _ _ z => z)
theorem rn_nil (h : N.nx Γ) : Rn X J N Γ [] := .mk fun B0 σ B H Fs E j => toSs pss_nil ⟨B, Γ, Fs, E, j, h⟩
theorem rn_nilw {Γ' : Ga} (w : Wk Γ Γ') (h : N.nx Γ') : Rn X J N Γ [] := .mk fun B0 σ B H Fs E j => toSs pss_nil ⟨B, Γ', Fs, E.wk w, j, h⟩
theorem rn_wk {Γ' : Ga} (w : Wk Γ Γ') (h : Rn X J N Γ' sts) : Rn X J N Γ sts := .mk fun B0 σ B H Fs E j => h B0 σ B H Fs (E.wk w) j
theorem rs_wk {Γ' : Ga} (w : Wk Γ Γ') (h : RnS X J N Γ' st) : RnS X J N Γ st := .mk fun B0 σ B H Fs E j => h B0 σ B H Fs (E.wk w) j
/-- an own list is not changed any more -/
theorem rn_ice (i : Nat) (hΓ : Γ[i]? = some (.own ds)) (hi : i ∉ J.S) (h : Rn X J N (Γ.set i (.dat (.list ds))) sts) : Rn X J N Γ sts := .mk fun B0 σ B H Fs E j => by
  obtain ⟨a, vs, h1, h2, h3, h4, h5⟩ := E.own hΓ
  obtain ⟨E2, _⟩ := E.ice hΓ h1 h2 h3 h4
  have ja : J.H a = none := by
    rcases j.fm i a (by rw [h3]; exact List.mem_cons_self) with z | z
    · exact z
    · exact absurd z.2 hi
  exact h B0 σ _ H _ E2 ((j.ice (i := i) h5 ja).sub fun _ _ z => off_sub z)
theorem rs_pass : N.nx Γ → RnS X J N Γ (.Pass pos) := fun h => .mk fun B0 σ B H Fs E j => toS ps_pass ⟨B, Γ, Fs, E, j, h⟩
theorem rs_break : N.bk Γ → RnS X J N Γ (.Break pos) := fun h => .mk fun B0 σ B H Fs E j => toS ps_break ⟨B, Γ, Fs, E, j, h⟩
theorem rs_breakw {Γ' : Ga} (w : Wk Γ Γ') : N.bk Γ' → RnS X J N Γ (.Break pos) := fun h => .mk fun B0 σ B H Fs E j => toS ps_break ⟨B, Γ', Fs, E.wk w, j, h⟩
theorem rs_contw {Γ' : Ga} (w : Wk Γ Γ') : N.ct Γ' → RnS X J N Γ (.Continue pos) := fun h => .mk fun B0 σ B H Fs E j => toS ps_continue ⟨B, Γ', Fs, E.wk w, j, h⟩
theorem rs_doc {x : Str} {j pos'} : N.nx Γ → RnS X J N Γ (.Expr (.Constant (.str x) j pos) pos') := fun h => .mk fun B0 σ B H Fs E j => toS ps_doc ⟨B, Γ, Fs, E, j, h⟩
theorem rs_ret (h : GoP X Γ e N.rt) (hG : N.rG Γ := by exact trivial) (hn : N.rn = none := by rfl) : RnS X J N Γ (.Return (some e) pos) := .mk fun B0 σ B H Fs E j =>
  toS (ps_ret sE) (h σ B H Fs E _ fun v B2 H2 n r => ⟨σ, B2, Γ, Fs, E.nw n, j.nw n, hG, by rw [hn]; exact r⟩)
theorem rs_retN (h : ∀ K B, N.rt.p K B .non) (hG : N.rG Γ := by exact trivial) (hn : N.rn = none := by rfl) : RnS X J N Γ (.Return none pos) := .mk fun B0 σ B H Fs E j =>
  toS ps_retN ⟨σ, B, Γ, Fs, E, j, hG, by rw [hn]; exact h _ _⟩
theorem rs_set (i : Nat) {x : Str} {p' : Pos} (he : GoP X Γ e P) (h : N.nx (Γ.set i (.pr P))) (hN : X.N.Nodup) (hi : X.N[i]? = some x := by rfl) (hx : Loc X.env.scope x := by first | exact .inl rfl | exact .inr rfl)
    (hs : swapsWith e (some (.Name x p')) pos.line X.env = pure false := by rfl) (hf : X.fn x = true ∨ X.env.scope.names.lookup x = some .local := by first | exact .inl rfl | exact .inr rfl) : RnS X J N Γ (.Assign [.Name x p'] e pos) := .mk fun B0 σ B H Fs E j =>
  toS (ps_set hN hi hx sE hs hf) (he σ B H Fs E _ fun v B2 H2 n r => ⟨B2, _, _, (E.nw n).setP i r, (j.nw n).sub fun _ _ z => off_sub z, h⟩)
/-- a new list of our own -/
theorem rs_own (i : Nat) {x : Str} {p' : Pos} (he : GoN X Γ e ds) (h : N.nx (Γ.set i (.own ds))) (hN : X.N.Nodup) (hi : X.N[i]? = some x := by rfl) (hx : Loc X.env.scope x := by first | exact .inl rfl | exact .inr rfl)
    (hs : swapsWith e (some (.Name x p')) pos.line X.env = pure false := by rfl) (hf : X.fn x = true ∨ X.env.scope.names.lookup x = some .local := by first | exact .inl rfl | exact .inr rfl) : RnS X J N Γ (.Assign [.Name x p'] e pos) := .mk fun B0 σ B H Fs E j =>
  toS (ps_set hN hi hx sE hs hf) (he σ B H Fs E _ fun p vs B2 H2 n hp hb hH hd => ⟨B2, _, _, (E.nw n).setO (P := lstO ds) (F := [p]) i ⟨p, vs, rfl, rfl, hH, hd⟩ (fun a ha => by rw [List.mem_singleton.mp ha]; exact hb)
    (fun k a ha hm => (E.fre k a ha).2 (by rw [List.mem_singleton.mp hm]; exact hp)), (j.nw n).lay fun a ha => by
      rw [List.mem_singleton.mp ha]
      cases q : J.H p with
      | none => rfl
      | some o => exact absurd hp (j.h1 p (by rw [q]; exact fun z => nomatch z)), h⟩)
theorem rs_expr (he : GoP X Γ e P) (h : N.nx Γ) (hs : swapsWith e none pos.line X.env = pure false := by rfl) : RnS X J N Γ (.Expr e pos) := .mk fun B0 σ B H Fs E j =>
  toS (ps_expr sE hs) (he σ B H Fs E _ fun v B2 H2 n r => ⟨B2, Γ, Fs, E.nw n, j.nw n, h⟩)
theorem rs_if {th el : List Stmt} (hc : GoT X Γ c k) (h1 : k = true → Rn X J N Γ th) (h2 : k = false → Rn X J N Γ el) : RnS X J N Γ (.If c th el pos) := .mk fun B0 σ B H Fs E j =>
  toS (ps_if sT sSs sSs) (hc σ B H Fs E _ fun B2 H2 n => by
    cases k with
    | true => exact iteT (h1 rfl B0 σ B2 H2 Fs (E.nw n) (j.nw n))
    | false => exact iteF (h2 rfl B0 σ B2 H2 Fs (E.nw n) (j.nw n)))
/-- x += e, by an operator on ints -/
theorem rs_aug (i : Nat) {x : Str} {p' : Pos} {op : Operator} {ti : TIp} {d d' d2 : D} (hΓ : Γ[i]? = some (.dat d)) (he : Go X Γ e d') (ho : PIp X op ti)
    (hr : ∀ v w B H, Ex B H → Dp X.K B v d → Dp X.K B w d' → ∀ Q, EQ X B H (datP d2) Q → ti v w H Q) (h : N.nx (Γ.set i (.dat d2))) (hN : X.N.Nodup) (hi : X.N[i]? = some x := by rfl) (hx : Loc X.env.scope x := by first | exact .inl rfl | exact .inr rfl)
    (hf : X.fn x = true ∨ X.env.scope.names.lookup x = some .local := by first | exact .inl rfl | exact .inr rfl) : RnS X J N Γ (.AugAssign (.Name x p') op e pos) := .mk fun B0 σ B H Fs E j => by
  obtain ⟨v, h1, h2⟩ := E.at_ i _ hΓ
  refine toS (ps_aug hN hi hx sE ho hf) ⟨v, h1, he σ B H Fs E _ fun w B2 H2 n r => hr v w B2 H2 n.bh (dpUp n.bb h2) r _ fun z B3 H3 n3 r3 => ?_⟩
  have n' := n.trans n3
  exact ⟨B3, _, _, (E.nw n').setP i r3, (j.nw n').sub fun _ _ z => off_sub z, h⟩
/-- x.append(e) -/
theorem rs_app (i : Nat) {x : Str} {p' ap cp : Pos} (hΓ : Γ[i]? = some (.own ds)) (he : Go X Γ e d) (hl : ds.length < sizeLine) (h : N.nx (Γ.set i (.own (ds ++ [d])))) (hN : X.N[i]? = some x := by rfl) (hv : Vis X.env.scope x := by first | exact Or.inl rfl | exact Or.inr (Or.inl rfl) | exact Or.inr (Or.inr rfl))
    (hd : (x == ("__debug__" : Str)) = false := by decide) (hcd : (x == ("__classdict__" : Str)) = false := by decide)
    (hbase : attributeBase (.Name x p') "append" X.env (eval (.Name x p') X.env) = eval (.Name x p') X.env := by rfl)
    (hfew : ((backTo cp (starEach [e] X.env)).all (fun x => !x.1) && (backToKw cp (keywordEach [] X.env)).all (fun x => x.1.isSome)
      && decide ([e].length + ([] : List Keyword).length + (if ([] : List Keyword).isEmpty then 0 else 1) < 30)) = true := by rfl)
    (hline : (ap.endLine == cp.line) = true := by rfl) (hs : starEach [e] X.env = (false, eval e X.env) :: starEach [] X.env := by rfl) (hplain : (backTo cp (starEach [] X.env)).any (·.1) = false := by rfl)
    (hsw : swapsWith (.Call (.Attribute (.Name x p') "append" ap) [e] [] cp) none pos.line X.env = pure false := by rfl) : RnS X J N Γ (.Expr (.Call (.Attribute (.Name x p') "append" ap) [e] [] cp) pos) := .mk fun B0 σ B H Fs E j => by
  obtain ⟨a, vs, h1, h2, h3, h4, h5⟩ := E.own hΓ
  refine toS (ps_expr (pe_bm PySem.F.plainAttrs_list PySem.F.slot_list_append PySem.F.type_list_append mt_append (pe_var hN hv hd hcd) (pa_cons sE pa_nil hs) hbase hfew hline hs hplain) hsw) ⟨.ref a, h1, .inl ⟨rfl, vs, .of h2⟩, he σ B H Fs E _ fun v B2 H2 n r => ?_⟩
  have E2 := E.nw n
  have e2 : H2 a = some (.lst vs) := n.hh a _ h2
  refine ⟨a, vs, v, rfl, rfl, e2, by rw [dps_len h4]; exact hl, B2, _, _, E2.mutL hΓ h1 e2 h3 (dps_app (dpsUp n.bb h4) (.cons r .nil)), (j.nw n).upd ?_, h⟩
  rcases j.fm i a (by rw [h3]; exact List.mem_cons_self) with z | z
  · exact .inl z
  · exact .inr z.1
end
end PL

set_option maxHeartbeats 2000000
namespace PL
open PySem PySem.Spec PyProof.Rows L2

/-! ### targets -/
def wpG (X : Cx) (tg : Expr) : TG := fun v σ H Q => ∀ pins s u, Inv X pins σ H s → RelV v u → wpAny (model X.prog X.w) X.A (assign tg X.env u) (fun _ s' => ∃ σ' H', Inv X pins σ' H' s' ∧ Q σ' H') X.xe s
def wpGs (X : Cx) (ts : List Expr) : TGs := fun vs σ H Q => ∀ pins s us, Inv X pins σ H s → Vals vs us → wpAny (model X.prog X.w) X.A (assignInOrder ((assignEach ts X.env).map (·.2)) us) (fun _ s' => ∃ σ' H', Inv X pins σ' H' s' ∧ Q σ' H') X.xe s
/-- the target tg takes d: the slots are then Γ'; ts are its places -/
structure GoG (X : Cx) (Γ : Ga) (tg : Expr) (d : D) (Γ' : Ga) (ts : List Nat) : Prop where
  run : ∀ σ B H Fs v, En X.K B H σ Γ Fs → Dp X.K B v d → ∀ Q : L2.St → Hp → Prop,
  (∀ σ' Fs', En X.K B H σ' Γ' Fs' → (∀ i a, a ∈ Fs' i → a ∈ Fs i) → (∀ vs, (∀ t ∈ ts, t ∈ vs) → wipe σ' vs = wipe σ vs) → Q σ' H) → wpG X tg v σ H Q
instance {X : Cx} {Γ : Ga} {tg : Expr} {d : D} {Γ' : Ga} {ts : List Nat} : CoeFun (GoG X Γ tg d Γ' ts) fun _ => ∀ σ B H Fs v, En X.K B H σ Γ Fs → Dp X.K B v d → ∀ Q : L2.St → Hp → Prop,
    (∀ σ' Fs', En X.K B H σ' Γ' Fs' → (∀ i a, a ∈ Fs' i → a ∈ Fs i) → (∀ vs, (∀ t ∈ ts, t ∈ vs) → wipe σ' vs = wipe σ vs) → Q σ' H) → wpG X tg v σ H Q := ⟨GoG.run⟩
structure GoGs (X : Cx) (Γ : Ga) (tg : List Expr) (ds : List D) (Γ' : Ga) (ts : List Nat) : Prop where
  run : ∀ σ B H Fs vs, En X.K B H σ Γ Fs → DpAll X.K B vs ds → ∀ Q : L2.St → Hp → Prop,
  (∀ σ' Fs', En X.K B H σ' Γ' Fs' → (∀ i a, a ∈ Fs' i → a ∈ Fs i) → (∀ vs, (∀ t ∈ ts, t ∈ vs) → wipe σ' vs = wipe σ vs) → Q σ' H) → wpGs X tg vs σ H Q
instance {X : Cx} {Γ : Ga} {tg : List Expr} {ds : List D} {Γ' : Ga} {ts : List Nat} : CoeFun (GoGs X Γ tg ds Γ' ts) fun _ => ∀ σ B H Fs vs, En X.K B H σ Γ Fs → DpAll X.K B vs ds → ∀ Q : L2.St → Hp → Prop,
    (∀ σ' Fs', En X.K B H σ' Γ' Fs' → (∀ i a, a ∈ Fs' i → a ∈ Fs i) → (∀ vs, (∀ t ∈ ts, t ∈ vs) → wipe σ' vs = wipe σ vs) → Q σ' H) → wpGs X tg vs σ H Q := ⟨GoGs.run⟩
theorem wipe_set {σ : L2.St} {i : Nat} {o : Option V} : ∀ {vs : List Nat}, i ∈ vs → wipe (σ.set i o) vs = wipe σ vs
  | v :: vs, h => by
    have com : ∀ (vs : List Nat), (wipe (σ.set i o) vs).set i none = (wipe σ vs).set i none := fun vs => by
      induction vs with
      | nil => exact List.set_set o
      | cons w ws ih =>
        show ((wipe (σ.set i o) ws).set w none).set i none = ((wipe σ ws).set w none).set i none
        by_cases e : w = i
        · rw [e, List.set_set, List.set_set]
          exact ih
        · rw [List.set_comm _ _ e, ih, List.set_comm _ _ (Ne.symm e)]
    show (wipe (σ.set i o) vs).set v none = (wipe σ vs).set v none
    rcases List.mem_cons.mp h with e | e
    · rw [← e]
      exact com vs
    · rw [wipe_set e]
section
variable {X : Cx} {J : Jd} {N : Nd} {Γ Γ1 Γ2 : Ga} {e a b c tg iter : Expr} {es : List Expr} {st : Stmt} {sts rest body : List Stmt} {P : Mn} {d : D} {ds : List D} {pos : Pos} {k : Bool} {ts us : List Nat}
theorem sG : PG X tg (wpG X tg) := ⟨fun pins s _ _ _ u _ I r h => h pins s u I r⟩
theorem sGs : PGs X es (wpGs X es) := ⟨fun pins s _ _ _ u _ I r h => h pins s u I r⟩
theorem toG {t : TG} {v : V} {σ : L2.St} {H : Hp} {Q : L2.St → Hp → Prop} (p : PG X tg t) (h : t v σ H Q) : wpG X tg v σ H Q := fun pins s u I r => p.run pins s σ H v u Q I r h
theorem toGs {t : TGs} {v : List V} {σ : L2.St} {H : Hp} {Q : L2.St → Hp → Prop} (p : PGs X es t) (h : t v σ H Q) : wpGs X es v σ H Q := fun pins s u I r => p.run pins s σ H v u Q I r h
theorem gog_name (i : Nat) {x : Str} (hN : X.N.Nodup) (hi : X.N[i]? = some x := by rfl) (hx : Loc X.env.scope x := by first | exact .inl rfl | exact .inr rfl) (hf : X.fn x = true ∨ X.env.scope.names.lookup x = some .local := by first | exact .inl rfl | exact .inr rfl) :
    GoG X Γ (.Name x pos) d (Γ.set i (.dat d)) [i] := .mk fun σ B H Fs v E r Q q =>
  toG (pg_name hN hi hx hf) (q _ _ (E.setP (P := datP d) i r) (fun _ _ z => off_sub z) fun vs hv => wipe_set (hv i List.mem_cons_self))
theorem gogs_nil : GoGs X Γ [] [] Γ [] := .mk fun σ B H Fs vs E r Q q => by
  cases r
  exact toGs pgs_nil ⟨rfl, q σ Fs E (fun _ _ z => z) fun _ _ => rfl⟩
theorem gogs_cons (h1 : GoG X Γ e d Γ1 ts) (h2 : GoGs X Γ1 es ds Γ2 us) (hs : (assignEach (e :: es) X.env).map (·.2) = assign e X.env :: (assignEach es X.env).map (·.2) := by rfl) : GoGs X Γ (e :: es) (d :: ds) Γ2 (ts ++ us) := .mk fun σ B H Fs vs E r Q q => by
  cases r with
  | cons r rr =>
    refine toGs (pgs_cons sG sGs hs) ⟨_, _, rfl, h1 σ B H Fs _ E r _ fun σ1 F1 E1 s1 w1 => h2 σ1 B H F1 _ E1 rr _ fun σ2 F2 E2 s2 w2 => q σ2 F2 E2 (fun i a z => s1 i a (s2 i a z)) fun vs hv => ?_⟩
    rw [w2 vs fun t ht => hv t (List.mem_append_right _ ht), w1 vs fun t ht => hv t (List.mem_append_left _ ht)]
theorem gog_tup {j : Nat} {n : Nat} (hc : X.calm = true) (h : GoGs X Γ es ds Γ2 ts) (hl : ds.length = n := by rfl) (hn : (assignEach es X.env).length = n := by rfl) (hst : (assignEach es X.env).findIdx? (·.1) = none := by rfl) : GoG X Γ (.Tuple es j pos) (.tuple ds) Γ2 ts := .mk fun σ B H Fs v E r Q q => by
  obtain ⟨a, vs, rfl, h2, h3⟩ := dp_tup r
  exact toG (pg_tup hc sGs hn hst) ⟨a, vs, rfl, E.bh.st h2, by rw [dps_len h3]; exact hl, h σ B H Fs vs E h3 Q q⟩
/-- a, b = e -/
theorem rs_unp (he : Go X Γ e d) (hg : GoG X Γ tg d Γ2 ts) (h : N.nx Γ2) (hs : swapsWithSole [tg] e pos.line X.env = pure false := by rfl) (hw : swappedStores [tg] e X.env = pure none := by rfl)
    (h1 : (assignEach [tg] X.env).map (·.2) = [assign tg X.env] := by rfl) : RnS X J N Γ (.Assign [tg] e pos) := .mk fun B0 σ B H Fs E j =>
  toS (ps_asg sE sG hs hw h1) (he σ B H Fs E _ fun v B2 H2 n r => hg σ B2 H2 Fs v (E.nw n) r _ fun σ' Fs' E' sb _ => ⟨B2, Γ2, Fs', E', (j.nw n).sub sb, h⟩)

/-! ### what is walked -/
structure IsIt (K : PySem.W.Frag) (I : It) (B : Hp) (ds : List D) : Prop where
  go : ∀ i H, i < ds.length → Ex B H → I.go i H
  stop : ∀ H, Ex B H → I.stop ds.length H
  yld : ∀ i H x H' Bc d, ds[i]? = some d → Ex B Bc → Ex Bc H → I.yld i H x H' → ∃ B', Nw Bc H B' H' ∧ Dp K B' x d
def wpI (X : Cx) (tg iter : Expr) : TI := fun σ H R => ∀ pins s, Inv X pins σ H s → wpAny (model X.prog X.w) X.A (eval iter X.env) (fun v s1 => wpAny (model X.prog X.w) X.A (pyIter v) (PIE X pins σ tg R) X.xe s1) X.xe s
theorem sI : PI X tg iter (wpI X tg iter) := ⟨fun pins s _ _ _ I h => h pins s I⟩
theorem toI {t : TI} {σ : L2.St} {H : Hp} {R : It → Hp → Prop} (p : PI X tg iter t) (h : t σ H R) : wpI X tg iter σ H R := fun pins s I => p.run pins s σ H R I h
structure GoI (X : Cx) (Γ : Ga) (tg iter : Expr) (ds : List D) : Prop where
  run : ∀ σ B H Fs, En X.K B H σ Γ Fs → ∀ R : It → Hp → Prop, (∀ I B2 H2, Nw B H B2 H2 → IsIt X.K I B2 ds → R I H2) → wpI X tg iter σ H R
instance {X : Cx} {Γ : Ga} {tg iter : Expr} {ds : List D} : CoeFun (GoI X Γ tg iter ds) fun _ => ∀ σ B H Fs, En X.K B H σ Γ Fs → ∀ R : It → Hp → Prop, (∀ I B2 H2, Nw B H B2 H2 → IsIt X.K I B2 ds → R I H2) → wpI X tg iter σ H R := ⟨GoI.run⟩
theorem goi_list (h : Go X Γ iter (.list ds)) : GoI X Γ tg iter ds := .mk fun σ B H Fs E R q =>
  toI (pi_list sE) (h σ B H Fs E _ fun v B2 H2 n r => by
    obtain ⟨a, vs, rfl, h2, h3⟩ := dp_lst r
    refine ⟨a, rfl, ⟨vs, n.bh.sl h2⟩, q _ B2 H2 n ⟨fun i H' hi hB => ?_, fun H' hB => ⟨vs, hB.sl h2, by rw [dps_len h3]; exact Nat.le_refl _⟩, fun i H' x H2 Bc d hd hB hC y => ?_⟩⟩
    · obtain ⟨u, e1, _⟩ := dps_get h3 (List.getElem?_eq_getElem hi)
      exact ⟨vs, u, hB.sl h2, e1⟩
    · obtain ⟨e1, y⟩ := y
      subst e1
      obtain ⟨d', e3, e4⟩ := dps_getv h3 (y vs ((hB.trans hC).sl h2))
      rw [hd] at e3
      cases e3
      exact ⟨Bc, .same hC, dpUp hB e4⟩)
theorem goi_tup (h : Go X Γ iter (.tuple ds)) : GoI X Γ tg iter ds := .mk fun σ B H Fs E R q =>
  toI (pi_tup sE) (h σ B H Fs E _ fun v B2 H2 n r => by
    obtain ⟨a, vs, rfl, h2, h3⟩ := dp_tup r
    refine ⟨a, rfl, ⟨vs, n.bh.st h2⟩, q _ B2 H2 n ⟨fun i H' hi hB => ?_, fun H' hB => ⟨vs, hB.st h2, by rw [dps_len h3]; exact Nat.le_refl _⟩, fun i H' x H2 Bc d hd hB hC y => ?_⟩⟩
    · obtain ⟨u, e1, _⟩ := dps_get h3 (List.getElem?_eq_getElem hi)
      exact ⟨vs, u, hB.st h2, e1⟩
    · obtain ⟨e1, y⟩ := y
      subst e1
      obtain ⟨d', e3, e4⟩ := dps_getv h3 (y vs ((hB.trans hC).st h2))
      rw [hd] at e3
      cases e3
      exact ⟨Bc, .same hC, dpUp hB e4⟩)
/-- lo, lo + 1, .. -/
def rngI (lo hi : Int) : List Int := (List.range (hi - lo).toNat).map fun i => lo + (i : Nat)
theorem isIt_rng {K : PySem.W.Frag} {B : Hp} {lo : Int} {n : Nat} : IsIt K (Itr lo n) B (((List.range n).map fun i => lo + (i : Nat)).map PyData.int) := by
  have hl : (((List.range n).map fun i => lo + (i : Nat)).map PyData.int).length = n := by
    rw [List.length_map, List.length_map, List.length_range]
  refine ⟨fun i H hi _ => ?_, fun H _ => ?_, fun i H x H' Bc d hd _ hC y => ?_⟩
  · rw [hl] at hi
    exact hi
  · show n ≤ _
    rw [hl]
    exact Nat.le_refl _
  · obtain ⟨e1, e2⟩ := y
    subst e1 e2
    refine ⟨Bc, .same hC, ?_⟩
    have hi : i < n := by
      by_cases hi : i < n
      · exact hi
      · rw [List.getElem?_eq_none (by omega)] at hd
        cases hd
    simp only [List.map_map, List.getElem?_map, List.getElem?_range hi, Option.map_some, Option.some.injEq, Function.comp] at hd
    subst hd
    exact Dp.int _
theorem goi_rng1 {j : Int} {p : Pos} (ha : Go X Γ a (.int j)) (h1 : -(2 ^ 62) ≤ j) (h2 : j < 2 ^ 62) (hm : X.mg "range" = none) (hg : Gl X "range" := by rfl) (hs : starEach [a] X.env = [(false, eval a X.env)] := by rfl) :
    GoI X Γ tg (.Call (.Name "range" p) [a] [] pos) ((rngI 0 j).map PyData.int) := .mk fun σ B H Fs E R q =>
  toI (pi_range1 hg hm (pa_cons sE pa_nil hs) hs) (ha σ B H Fs E _ fun v B2 H2 n r => ⟨j, by rw [dp_int r], h1, h2, q _ B2 H2 n (by
    unfold rngI
    rw [show j - 0 = j by omega]
    exact isIt_rng)⟩)
theorem goi_rng2 {i j : Int} {p : Pos} (ha : Go X Γ a (.int i)) (hb : Go X Γ b (.int j)) (h1 : -(2 ^ 62) ≤ i) (h2 : i < 2 ^ 62) (h3 : -(2 ^ 62) ≤ j) (h4 : j < 2 ^ 62) (hm : X.mg "range" = none) (hg : Gl X "range" := by rfl)
    (hs : starEach [a, b] X.env = [(false, eval a X.env), (false, eval b X.env)] := by rfl) (hs2 : starEach [b] X.env = [(false, eval b X.env)] := by rfl) :
    GoI X Γ tg (.Call (.Name "range" p) [a, b] [] pos) ((rngI i j).map PyData.int) := .mk fun σ B H Fs E R q =>
  toI (pi_range2 hg hm (pa_cons sE (pa_cons sE pa_nil hs2) (by rw [hs2]; exact hs)) hs hs2) (ha σ B H Fs E _ fun v B1 H1 n1 r1 => hb σ B1 H1 Fs (E.nw n1) _ fun w B2 H2 n2 r2 => ⟨i, j, by rw [dp_int r1, dp_int r2], ⟨h1, h2, h3, h4⟩, q _ B2 H2 (n1.trans n2) isIt_rng⟩)
/-- the pairs of enumerate -/
def enumD (ds : List D) : List D := ds.zipIdx.map fun p => .tuple [.int (p.2 : Nat), p.1]
theorem goi_enum {elts : List Expr} {kk : Nat} {tpos p : Pos} (ha : Go X Γ a (.list ds)) (hm : X.mg "enumerate" = none) (hg : Gl X "enumerate" := by rfl) (hs : starEach [a] X.env = [(false, eval a X.env)] := by rfl) :
    GoI X Γ (.Tuple elts kk tpos) (.Call (.Name "enumerate" p) [a] [] pos) (enumD ds) := .mk fun σ B H Fs E R q =>
  toI (pi_enum hg hm (pa_cons sE pa_nil hs) hs) (ha σ B H Fs E _ fun v B2 H2 n r => by
    obtain ⟨l, vs, rfl, h2, h3⟩ := dp_lst r
    have hl : (enumD ds).length = ds.length := by
      unfold enumD
      rw [List.length_map, List.length_zipIdx]
    refine ⟨l, vs, rfl, n.bh.sl h2, q _ B2 H2 n ⟨fun i H' hi hB => ?_, fun H' hB => ⟨vs, hB.sl h2, by rw [dps_len h3, hl]; exact Nat.le_refl _⟩, fun i H' x H2 Bc d hd hB hC y => ?_⟩⟩
    · rw [hl] at hi
      obtain ⟨u, e1, _⟩ := dps_get h3 (List.getElem?_eq_getElem hi)
      exact ⟨vs, u, hB.sl h2, e1⟩
    · obtain ⟨T, u, e1, e2, e3, e4⟩ := y
      subst e1 e3
      obtain ⟨d', e5, e6⟩ := dps_getv h3 (e4 vs ((hB.trans hC).sl h2))
      have hd2 : d = .tuple [.int (i : Nat), d'] := by
        unfold enumD at hd
        rw [List.getElem?_map, List.getElem?_zipIdx, e5] at hd
        simpa using hd.symm
      subst hd2
      have nn := Nw.new (o := .tup [.int (i : Nat), u]) hC e2
      exact ⟨_, nn, .tup (.of upd_same) (.cons (.int _) (.cons (dpUp (hB.trans nn.bb) e6) .nil))⟩)
/-- the pairs of zip -/
def zipD (ds es : List D) : List D := (ds.zip es).map fun p => .tuple [p.1, p.2]
theorem goi_zip {elts : List Expr} {kk : Nat} {tpos p : Pos} {es : List D} (ha : Go X Γ a (.list ds)) (hb : Go X Γ b (.list es)) (hm : X.mg "zip" = none) (hg : Gl X "zip" := by rfl) (hs : starEach [a, b] X.env = (false, eval a X.env) :: starEach [b] X.env := by rfl) (hs2 : starEach [b] X.env = (false, eval b X.env) :: starEach [] X.env := by rfl) :
    GoI X Γ (.Tuple elts kk tpos) (.Call (.Name "zip" p) [a, b] [] pos) (zipD ds es) := .mk fun σ B H Fs E R q =>
  toI (pi_zip hg hm (pa_cons sE (pa_cons sE pa_nil hs2) hs) hs (by rw [hs2]; rfl)) (ha σ B H Fs E _ fun v B1 H1 n1 r1 => hb σ B1 H1 Fs (E.nw n1) _ fun w B2 H2 n2 r2 => by
    obtain ⟨l, vs, rfl, h2, h3⟩ := dp_lst (dpUp n2.bb r1)
    obtain ⟨m, ws, rfl, h4, h5⟩ := dp_lst r2
    have n := n1.trans n2
    have hl : (zipD ds es).length = min ds.length es.length := by
      unfold zipD
      rw [List.length_map, List.length_zip]
    refine ⟨l, m, vs, ws, rfl, n.bh.sl h2, n.bh.sl h4, q _ B2 H2 n ⟨fun i H' hi hB => ?_, fun H' hB => ⟨vs, ws, hB.sl h2, hB.sl h4, by rw [dps_len h3, dps_len h5, hl]; omega⟩, fun i H' x H2 Bc d hd hB hC y => ?_⟩⟩
    · rw [hl] at hi
      obtain ⟨u, e1, _⟩ := dps_get h3 (List.getElem?_eq_getElem (show i < ds.length by omega))
      obtain ⟨u2, e2, _⟩ := dps_get h5 (List.getElem?_eq_getElem (show i < es.length by omega))
      exact ⟨vs, ws, u, u2, hB.sl h2, hB.sl h4, e1, e2⟩
    · obtain ⟨T, u, u2, e1, e2, e3, e4, e5⟩ := y
      subst e1 e3
      obtain ⟨d1, f1, g1⟩ := dps_getv h3 (e4 vs ((hB.trans hC).sl h2))
      obtain ⟨d2, f2, g2⟩ := dps_getv h5 (e5 ws ((hB.trans hC).sl h4))
      have hd2 : d = .tuple [d1, d2] := by
        unfold zipD at hd
        have hz : (ds.zip es)[i]? = some (d1, d2) := by
          rw [List.getElem?_zip_eq_some]
          exact ⟨f1, f2⟩
        rw [List.getElem?_map, hz] at hd
        simpa using hd.symm
      subst hd2
      have nn := Nw.new (o := .tup [u, u2]) hC e2
      exact ⟨_, nn, .tup (.of upd_same) (.cons (dpUp (hB.trans nn.bb) g1) (.cons (dpUp (hB.trans nn.bb) g2) .nil))⟩)
def signsD (z : Str) : List D := z.cps.toList.map fun c => .str ⟨#[c]⟩
theorem goi_str {z : Str} (h : Go X Γ iter (.str z)) : GoI X Γ tg iter (signsD z) := .mk fun σ B H Fs E R q =>
  toI (pi_str sE) (h σ B H Fs E _ fun v B2 H2 n r => by
    have hl : (signsD z).length = z.cps.size := by
      unfold signsD
      rw [List.length_map, Array.length_toList]
    refine ⟨z, dp_str r, q _ B2 H2 n ⟨fun i H' hi hB => by rw [hl] at hi; exact hi, fun H' hB => by rw [hl]; exact Nat.le_refl _, fun i H' x H2 Bc d hd hB hC y => ?_⟩⟩
    obtain ⟨e1, c, e2, e3⟩ := y
    subst e1 e3
    have hd2 : d = .str ⟨#[c]⟩ := by
      unfold signsD at hd
      rw [List.getElem?_map, Array.getElem?_toList, e2] at hd
      simpa using hd.symm
    subst hd2
    exact ⟨Bc, .same hC, .str _⟩)

/-! ### loops -/
structure GoIx (X : Cx) (Γ : Ga) (tg iter : Expr) (p : List D → Prop) : Prop where
  run : ∀ σ B H Fs, En X.K B H σ Γ Fs → ∀ R : It → Hp → Prop, (∀ I B2 H2 ds, p ds → Nw B H B2 H2 → IsIt X.K I B2 ds → R I H2) → wpI X tg iter σ H R
instance {X : Cx} {Γ : Ga} {tg iter : Expr} {p : List D → Prop} : CoeFun (GoIx X Γ tg iter p) fun _ => ∀ σ B H Fs, En X.K B H σ Γ Fs → ∀ R : It → Hp → Prop, (∀ I B2 H2 ds, p ds → Nw B H B2 H2 → IsIt X.K I B2 ds → R I H2) → wpI X tg iter σ H R := ⟨GoIx.run⟩
/-- for: Iv by the turn -/
theorem rs_forX {p : List D → Prop} (Iw : List D → Nat → Ga → Prop) (hi : GoIx X Γ tg iter p) (h0 : ∀ ds, p ds → Iw ds 0 Γ)
    (hb : ∀ ds, p ds → ∀ k d Γ', ds[k]? = some d → Iw ds k Γ' → ∃ Γ2 ts, GoG X Γ' tg d Γ2 ts ∧ Rn X J { N with nx := Iw ds (k + 1), ct := Iw ds (k + 1), bk := N.nx } Γ2 body)
    (hd : ∀ ds, p ds → ∀ Γ', Iw ds ds.length Γ' → N.nx Γ') (hc : X.calm = true) (hp : PassesOwn (model X.prog X.w) X.A X.env X.xe := by exact PassesOwn.never) (hs : ∀ x, foldedSetIterable iter X.env x = pure x := by intro _; rfl) :
    RnS X J N Γ (.For tg iter body [] pos) := .mk fun B0 σ B H Fs E j =>
  toS (ps_for hp hc sI sG sSs hs) (hi σ B H Fs E _ fun I B2 H2 ds pd n it => by
    have h0 := h0 ds pd
    have hb := hb ds pd
    have hd := hd ds pd
    revert h0 hb hd
    generalize Iw ds = Iv
    intro h0 hb hd
    refine ⟨fun i m σ' H' => m = ds.length - i ∧ i ≤ ds.length ∧ ∃ B' Γ' Fs', Ex B2 B' ∧ En X.K B' H' σ' Γ' Fs' ∧ Jn J B0 B' H' Fs' ∧ Iv i Γ', ⟨ds.length, by omega, Nat.zero_le _, B2, Γ, Fs, .refl _, E.nw n, j.nw n, h0⟩, ?_⟩
    rintro i m σ' H' ⟨rfl, hi, B', Γ', Fs', e1, E', j', v⟩
    by_cases hlt : i < ds.length
    · refine .inr ⟨it.go i H' hlt (e1.trans E'.bh), fun σ' H' => ∃ B' Γ' Fs', Ex B2 B' ∧ En X.K B' H' σ' Γ' Fs' ∧ Jn J B0 B' H' Fs' ∧ Iv (i + 1) Γ', fun σ' H' p => ⟨ds.length - (i + 1), by omega, rfl, hlt, p⟩, fun x H'' y => ?_⟩
      obtain ⟨B'', n2, r2⟩ := it.yld i H' x H'' B' _ (List.getElem?_eq_getElem hlt) e1 E'.bh y
      obtain ⟨Γ2, ts, g, rb⟩ := hb i _ Γ' (List.getElem?_eq_getElem hlt) v
      refine g σ' B'' H'' Fs' x (E'.nw n2) r2 _ fun σ2 F2 E2 sb _ => ?_
      have j2 : Jn J B0 B'' H'' F2 := (j'.nw n2).sub sb
      have e2 : Ex B2 B'' := e1.trans n2.bb
      refine wpSs_mono (rb B'' σ2 B'' H'' F2 E2 j2.fresh) ?_ ?_ ?_ ?_
      · exact fun σ3 H3 ⟨B3, Γ3, F3, p1, p2, p3⟩ => ⟨B3, Γ3, F3, e2.trans p2.b0, p1, j2.trans p2, p3⟩
      · exact fun v H3 ⟨σ3, B3, Γ3, F3, p1, p2, p3⟩ => ⟨σ3, B3, Γ3, F3, p1, j2.trans p2, p3⟩
      · exact fun σ3 H3 ⟨B3, Γ3, F3, p1, p2, p3⟩ => ⟨B3, Γ3, F3, p1, j2.trans p2, p3⟩
      · exact fun σ3 H3 ⟨B3, Γ3, F3, p1, p2, p3⟩ => ⟨B3, Γ3, F3, e2.trans p2.b0, p1, j2.trans p2, p3⟩
    · have e : i = ds.length := by omega
      subst e
      exact .inl ⟨it.stop H' (e1.trans E'.bh), B', Γ', Fs', E', j', hd Γ' v⟩)
theorem rs_for (Iv : Nat → Ga → Prop) (hi : GoI X Γ tg iter ds) (h0 : Iv 0 Γ)
    (hb : ∀ k d Γ', ds[k]? = some d → Iv k Γ' → ∃ Γ2 ts, GoG X Γ' tg d Γ2 ts ∧ Rn X J { N with nx := Iv (k + 1), ct := Iv (k + 1), bk := N.nx } Γ2 body)
    (hd : ∀ Γ', Iv ds.length Γ' → N.nx Γ') (hc : X.calm = true) (hp : PassesOwn (model X.prog X.w) X.A X.env X.xe := by exact PassesOwn.never) (hs : ∀ x, foldedSetIterable iter X.env x = pure x := by intro _; rfl) :
    RnS X J N Γ (.For tg iter body [] pos) :=
  rs_forX (p := fun es => es = ds) (fun _ => Iv) (.mk fun σ B H Fs E R q => hi σ B H Fs E R fun I B2 H2 n it => q I B2 H2 ds rfl n it) (fun _ _ => h0) (fun es e k d Γ' g v => hb k d Γ' (e ▸ g) v) (fun es e Γ' v => hd Γ' (e ▸ v)) hc hp hs
/-- while: Iv by a number that falls -/
theorem rs_while (Iv : Nat → Ga → Prop) (m : Nat) (h0 : Iv m Γ)
    (hb : ∀ m Γ', Iv m Γ' → ∃ k, GoT X Γ' c k ∧ (k = true → Rn X J { N with nx := fun Γ2 => ∃ m', m' < m ∧ Iv m' Γ2, ct := fun Γ2 => ∃ m', m' < m ∧ Iv m' Γ2, bk := N.nx } Γ' body) ∧ (k = false → N.nx Γ'))
    (hp : PassesOwn (model X.prog X.w) X.A X.env X.xe := by exact PassesOwn.never) : RnS X J N Γ (.While c body [] pos) := .mk fun B0 σ B H Fs E j =>
  toS (ps_while hp sT sSs) (by
    refine ⟨fun m σ' H' => ∃ B' Γ' Fs', En X.K B' H' σ' Γ' Fs' ∧ Jn J B0 B' H' Fs' ∧ Iv m Γ', ⟨m, B, Γ, Fs, E, j, h0⟩, ?_⟩
    rintro m σ' H' ⟨B', Γ', Fs', E', j', v⟩
    obtain ⟨k, ht, h1, h2⟩ := hb m Γ' v
    refine ht σ' B' H' Fs' E' _ fun B2 H2 n => ?_
    cases k with
    | true =>
      refine iteT ⟨fun σ' H' => ∃ m', m' < m ∧ ∃ B' Γ' Fs', En X.K B' H' σ' Γ' Fs' ∧ Jn J B0 B' H' Fs' ∧ Iv m' Γ', fun σ' H' ⟨m', q1, q2⟩ => ⟨m', q1, q2⟩, ?_⟩
      refine wpSs_mono (h1 rfl B0 σ' B2 H2 Fs' (E'.nw n) (j'.nw n)) ?_ ?_ ?_ ?_
      · exact fun σ3 H3 ⟨B3, Γ3, F3, p1, p2, m', p3, p4⟩ => ⟨m', p3, B3, Γ3, F3, p1, p2, p4⟩
      · exact fun v H3 p => p
      · exact fun σ3 H3 p => p
      · exact fun σ3 H3 ⟨B3, Γ3, F3, p1, p2, m', p3, p4⟩ => ⟨m', p3, B3, Γ3, F3, p1, p2, p4⟩
    | false => exact iteF ⟨B2, Γ', Fs', E'.nw n, j'.nw n, h2 rfl⟩)
end
end PL

set_option maxHeartbeats 2000000
namespace PL
open PySem PySem.Spec PyProof.Rows L2

/-! ### an own list read on the way -/
section
variable {X : Cx} {J : Jd} {N : Nd} {Γ Γ1 Γ2 : Ga} {e a b c tg iter : Expr} {es : List Expr} {st : Stmt} {sts rest body : List Stmt} {P : Mn} {d : D} {ds : List D} {pos : Pos} {k : Bool}
theorem thaw_run {i : Nat} (hΓ : Γ[i]? = some (.own ds)) {σ B H Fs} (E : En X.K B H σ Γ Fs) : ∃ B' Fs', En X.K B' H σ (Γ.set i (.dat (.list ds))) Fs' := by
  obtain ⟨a, vs, h1, h2, h3, h4, h5⟩ := E.own hΓ
  exact ⟨_, _, (E.ice hΓ h1 h2 h3 h4).1⟩
theorem go_thawI (i : Nat) {n : Int} (h : Go X (Γ.set i (.dat (.list ds))) e (.int n)) (hΓ : Γ[i]? = some (.own ds) := by rfl) : Go X Γ e (.int n) := .mk fun σ B H Fs E Q q => by
  obtain ⟨B', Fs', E'⟩ := thaw_run hΓ E
  exact h σ B' H Fs' E' Q fun v B2 H2 n r => by
    rw [dp_int r]
    exact q _ B H2 ⟨.refl _, E.bh.trans n.hh, n.hh, fun _ h _ => h⟩ (Dp.int _)
theorem go_thawS (i : Nat) {n : Str} (h : Go X (Γ.set i (.dat (.list ds))) e (.str n)) (hΓ : Γ[i]? = some (.own ds) := by rfl) : Go X Γ e (.str n) := .mk fun σ B H Fs E Q q => by
  obtain ⟨B', Fs', E'⟩ := thaw_run hΓ E
  exact h σ B' H Fs' E' Q fun v B2 H2 n r => by
    rw [dp_str r]
    exact q _ B H2 ⟨.refl _, E.bh.trans n.hh, n.hh, fun _ h _ => h⟩ (Dp.str _)
theorem goT_thaw (i : Nat) (h : GoT X (Γ.set i (.dat (.list ds))) e k) (hΓ : Γ[i]? = some (.own ds) := by rfl) : GoT X Γ e k := .mk fun σ B H Fs E Q q => by
  obtain ⟨B', Fs', E'⟩ := thaw_run hΓ E
  exact h σ B' H Fs' E' Q fun B2 H2 n => q B H2 ⟨.refl _, E.bh.trans n.hh, n.hh, fun _ h _ => h⟩

/-! ### comprehensions -/
def wpTs (X : Cx) (ifs : List Expr) : TT := fun σ H Q => ∀ pins s, Inv X pins σ H s → wpAny (model X.prog X.w) X.A (forIn ifs true fun c r => if r = true then do let ok ← isTrue c X.env (eval c X.env); pure (ForInStep.yield ok) else pure (ForInStep.yield r)) (TP X pins σ Q) X.xe s
theorem sTs {ifs : List Expr} : PTs X ifs (wpTs X ifs) := ⟨fun pins s _ _ _ I h => h pins s I⟩
theorem toTs {ifs : List Expr} {t : TT} {σ : L2.St} {H : Hp} {Q : Bool → Hp → Prop} (p : PTs X ifs t) (h : t σ H Q) : wpTs X ifs σ H Q := fun pins s I => p.run pins s σ H Q I h
structure GoTs (X : Cx) (Γ : Ga) (ifs : List Expr) (b : Bool) : Prop where
  run : ∀ σ B H Fs, En X.K B H σ Γ Fs → ∀ Q : Bool → Hp → Prop, (∀ B2 H2, Nw B H B2 H2 → Q b H2) → wpTs X ifs σ H Q
instance {X : Cx} {Γ : Ga} {ifs : List Expr} {b : Bool} : CoeFun (GoTs X Γ ifs b) fun _ => ∀ σ B H Fs, En X.K B H σ Γ Fs → ∀ Q : Bool → Hp → Prop, (∀ B2 H2, Nw B H B2 H2 → Q b H2) → wpTs X ifs σ H Q := ⟨GoTs.run⟩
theorem goTs_nil : GoTs X Γ [] true := .mk fun σ B H Fs E Q q => toTs pts_nil (q B H (.same E.bh))
theorem goTs_one (h : GoT X Γ c k) : GoTs X Γ [c] k := .mk fun σ B H Fs E Q q => toTs (pts_one sT) (h σ B H Fs E Q q)
/-- in every block -/
def Blk (X : Cx) (scope : Scope) (R : Cx → Prop) : Prop := ∀ (s : Shared) (H : Hp) (C : Addr) (cl : List (Str × Addr)) (fp : List Addr), R (X.blk s H scope (compEnvC scope cl C X.env) fp)
/-- what the reading of a comprehension asks -/
abbrev lcRd (X : Cx) (scope : Scope) (tg : Expr) (ifs : List Expr) (elt : Expr) (iter : Expr) (vs : List Nat) : TE :=
  tLc (wpI X tg iter) (fun v σ H Q => Blk X scope fun X' => wpG X' tg v σ H Q) (fun σ H Q => Blk X scope fun X' => wpTs X' ifs σ H Q) (fun σ H Q => Blk X scope fun X' => wpE X' elt σ H Q) vs
theorem wipe_wipe {σ : L2.St} : ∀ vs : List Nat, wipe (wipe σ vs) vs = wipe σ vs := fun vs => by
  have sw : ∀ (ws : List Nat) (τ : L2.St), (∀ w ∈ ws, w ∈ vs) → wipe (wipe τ ws) vs = wipe τ vs := fun ws => by
    induction ws with
    | nil => intro τ _; rfl
    | cons w ws ih =>
      intro τ h
      show wipe ((wipe τ ws).set w none) vs = wipe τ vs
      rw [wipe_set (h w List.mem_cons_self)]
      exact ih τ fun x hx => h x (List.mem_cons_of_mem _ hx)
  exact sw vs σ fun _ h => h
theorem lc_run {elt : Expr} {ifs : List Expr} {scope : Scope} {vs : List Nat} {α : Type} {xs : List α} {enc : α → D} (p : α → Bool) (f : α → D) (hi : GoI X Γ tg iter (xs.map enc)) (hz : xs.length < sizeLine)
    (body : ∀ (k : Nat) x, xs[k]? = some x → ∃ Γ' ts, (∀ t ∈ ts, t ∈ vs) ∧ (Blk X scope fun X' => GoG X' (wipeG Γ vs) tg (enc x) Γ' ts) ∧ (Blk X scope fun X' => GoTs X' Γ' ifs (p x)) ∧ (p x = true → Blk X scope fun X' => Go X' Γ' elt (f x)))
    {σ B H Fs} (E : En X.K B H σ Γ Fs) (Q : VK)
    (q : ∀ l us B2 H2, Nw B H B2 H2 → H l = none → B2 l = none → H2 l = some (.lst us) → DpAll X.K B2 us ((xs.filter p).map f) → Q (.ref l) H2) : lcRd X scope tg ifs elt iter vs σ H Q := by
  refine hi σ B H Fs E _ fun I B1 H1 n1 it => ?_
  intro Dl hDl
  have E1 := E.nw n1
  have hl : (xs.map enc).length = xs.length := List.length_map _
  refine ⟨fun i m H' => m = xs.length - i ∧ i ≤ xs.length ∧ ∃ B' acc, Nw B1 H1 B' H' ∧ B' Dl = none ∧ H' Dl = some (.lst acc) ∧ DpAll X.K B' acc (((xs.take i).filter p).map f),
    ⟨xs.length, by omega, Nat.zero_le _, B1, [], .lay n1.bh hDl, n1.bh.none hDl, upd_same, by rw [List.take_zero]; exact .nil⟩, ?_⟩
  rintro i m H' ⟨rfl, hi', B', acc, n', hb, hH, hd⟩
  have nDl : ∀ {j : Nat}, Dl ∉ Fs j := fun {j} ha => (E1.fre j Dl ha).2 hDl
  by_cases hlt : i < xs.length
  · refine .inr ⟨it.go i H' (by rw [hl]; exact hlt) (n'.bb.trans n'.bh), fun H' => i + 1 ≤ xs.length ∧ ∃ B' acc, Nw B1 H1 B' H' ∧ B' Dl = none ∧ H' Dl = some (.lst acc) ∧ DpAll X.K B' acc (((xs.take (i + 1)).filter p).map f), fun H' pp => ⟨xs.length - (i + 1), by omega, rfl, pp⟩, fun x H'' y => ?_⟩
    have ge : (xs.map enc)[i]? = some (enc xs[i]) := by
      rw [List.getElem?_map, List.getElem?_eq_getElem hlt]
      rfl
    obtain ⟨B2, n2, r2⟩ := it.yld i H' x H'' B' _ ge n'.bb n'.bh y
    obtain ⟨Γ', ts, hts, hg, ht, he⟩ := body i xs[i] (List.getElem?_eq_getElem hlt)
    have E2 : En X.K B2 H'' (wipe σ vs) (wipeG Γ vs) Fs := ((E1.nw n').nw n2).wipe vs
    have acl : acc.length ≤ xs.length := by
      rw [dps_len hd, List.length_map]
      refine Nat.le_trans (List.length_filter_le _ _) ?_
      rw [List.length_take]
      omega
    have eT : xs.take (i + 1) = xs.take i ++ [xs[i]] := by rw [List.take_succ_eq_append_getElem hlt]
    intro s0 H0 C0 cl0 fp0
    refine hg s0 H0 C0 cl0 fp0 (wipe σ vs) B2 H'' Fs x E2 r2 _ fun σ2 F2 E3 sb hw => ⟨(hw vs hts).trans (wipe_wipe vs), ?_⟩
    intro s1 H1' C1 cl1 fp1
    refine ht s1 H1' C1 cl1 fp1 σ2 B2 H'' F2 E3 _ fun B4 H4 n4 => ?_
    have dk : B4 Dl = none := n4.nu Dl (n2.nu Dl hb (by rw [hH]; exact fun z => nomatch z)) (by rw [n2.hh Dl _ hH]; exact fun z => nomatch z)
    have dH : H4 Dl = some (.lst acc) := n4.hh Dl _ (n2.hh Dl _ hH)
    have nAll := (n'.trans n2).trans n4
    cases hp : p xs[i] with
    | false =>
      refine iteF ⟨hlt, B4, acc, nAll, dk, dH, ?_⟩
      rw [eT, List.filter_append, List.filter_cons_of_neg (by rw [hp]; exact Bool.false_ne_true), List.filter_nil, List.append_nil]
      exact dpsUp (n2.bb.trans n4.bb) hd
    | true =>
      refine iteT ?_
      intro s2 H2' C2 cl2 fp2
      refine he hp s2 H2' C2 cl2 fp2 σ2 B4 H4 F2 (E3.nw n4) _ fun y' B5 H5 n5 r5 => ?_
      have d5 : B5 Dl = none := n5.nu Dl dk (by rw [dH]; exact fun z => nomatch z)
      have dH5 : H5 Dl = some (.lst acc) := n5.hh Dl _ dH
      have n6 := nAll.trans n5
      refine ⟨acc, dH5, Nat.lt_of_le_of_lt acl hz, hlt, B5, acc ++ [y'], ⟨n6.bb, fun a u e => ?_, fun a u e => ?_, n6.nu⟩, d5, upd_same, ?_⟩
      · rw [upd_ne (ne_of_none e d5)]
        exact n6.bh a u e
      · rw [upd_ne (ne_of_none e hDl)]
        exact n6.hh a u e
      · rw [eT, List.filter_append, List.filter_cons_of_pos hp, List.filter_nil, List.map_append]
        exact dps_app (dpsUp ((n2.bb.trans n4.bb).trans n5.bb) hd) (.cons r5 .nil)
  · have e : i = xs.length := by omega
    subst e
    rw [List.take_length] at hd
    refine .inl ⟨by rw [← hl]; exact it.stop H' (n'.bb.trans n'.bh), q Dl acc B' H' (n1.trans n') (n1.hh.none hDl) hb hH hd⟩
theorem goN_lc {elt : Expr} {ifs : List Expr} {scope : Scope} {own : List (Str × Nat)} {α : Type} {xs : List α} {enc : α → D} (p : α → Bool) (f : α → D) (hi : GoI X Γ tg iter (xs.map enc)) (hz : xs.length < sizeLine)
    (body : ∀ (k : Nat) x, xs[k]? = some x → ∃ Γ' ts, (∀ t ∈ ts, t ∈ own.map (·.2)) ∧ (Blk X scope fun X' => GoG X' (wipeG Γ (own.map (·.2))) tg (enc x) Γ' ts) ∧ (Blk X scope fun X' => GoTs X' Γ' ifs (p x)) ∧ (p x = true → Blk X scope fun X' => Go X' Γ' elt (f x)))
    (hc : X.calm = true) (hN : X.N.Nodup) (ok : BlkOk X.N X.env.scope scope own) (hs : ∀ x, foldedSetIterable iter X.env x = pure x := by intro _; rfl) :
    GoN X Γ (.ListComp elt [⟨tg, iter, ifs, 0⟩] scope pos) ((xs.filter p).map f) := .mk fun σ B H Fs E Q q =>
  toE (pe_lc (own := own) hc hN sI ok (fun s H C cl fp => ⟨fun pins s' σ H v u Q I r h => (h s _ C cl fp) pins s' u I r⟩) (fun s H C cl fp => ⟨fun pins s' σ H Q I h => (h s _ C cl fp) pins s' I⟩) (fun s H C cl fp => ⟨fun pins s' σ H Q I h => (h s _ C cl fp) pins s' I⟩) hs) (lc_run p f hi hz body E Q q)
/-- name = [..] in one line -/
theorem rs_ownLc (i : Nat) {x : Str} {p' : Pos} {elt : Expr} {ifs : List Expr} {scope : Scope} {own : List (Str × Nat)} {lpos : Pos} {α : Type} {xs : List α} {enc : α → D} (p : α → Bool) (f : α → D) (hi : GoI X Γ tg iter (xs.map enc)) (hz : xs.length < sizeLine)
    (body : ∀ (k : Nat) x, xs[k]? = some x → ∃ Γ' ts, (∀ t ∈ ts, t ∈ own.map (·.2)) ∧ (Blk X scope fun X' => GoG X' (wipeG Γ (own.map (·.2))) tg (enc x) Γ' ts) ∧ (Blk X scope fun X' => GoTs X' Γ' ifs (p x)) ∧ (p x = true → Blk X scope fun X' => Go X' Γ' elt (f x)))
    (h : N.nx (Γ.set i (.own ((xs.filter p).map f)))) (hc : X.calm = true) (hN : X.N.Nodup) (ok : BlkOk X.N X.env.scope scope own) (hx : X.N[i]? = some x := by rfl) (hyl : X.env.scope.names.lookup x = some .local := by rfl)
    (hsw : swapsWith (.ListComp elt [⟨tg, iter, ifs, 0⟩] scope lpos) (some (.Name x p')) pos.line X.env = pure true) (hs : ∀ x, foldedSetIterable iter X.env x = pure x := by intro _; rfl) :
    RnS X J N Γ (.Assign [.Name x p'] (.ListComp elt [⟨tg, iter, ifs, 0⟩] scope lpos) pos) := .mk fun B0 σ B H Fs E j =>
  toS (ps_setLc (own := own) hc hN hx hyl hsw sI ok (fun s H C cl fp => ⟨fun pins s' σ H v u Q I r h => (h s _ C cl fp) pins s' u I r⟩) (fun s H C cl fp => ⟨fun pins s' σ H Q I h => (h s _ C cl fp) pins s' I⟩) (fun s H C cl fp => ⟨fun pins s' σ H Q I h => (h s _ C cl fp) pins s' I⟩) hs)
    (lc_run p f hi hz body E (fun x H1 => gName i x σ H1 (N.ends X J B0).nx) fun l us B2 H2 n hl hb hH hd => ⟨B2, _, _, (E.nw n).setO (P := lstO ((xs.filter p).map f)) (F := [l]) i ⟨l, us, rfl, rfl, hH, hd⟩ (fun a ha => by rw [List.mem_singleton.mp ha]; exact hb)
    (fun k a ha hm => (E.fre k a ha).2 (by rw [List.mem_singleton.mp hm]; exact hl)), (j.nw n).lay fun a ha => by
      rw [List.mem_singleton.mp ha]
      cases q : J.H l with
      | none => rfl
      | some o => exact absurd hl (j.h1 l (by rw [q]; exact fun z => nomatch z)), h⟩)

/-! ### defs -/
/-- a def of data: from ar i it gives rs i, nothing that stood is changed -/
def spF {ι : Type} (K : PySem.W.Frag) (pre : ι → Prop) (ar : ι → List Mn) (rs : ι → Mn) : Sp := fun vs H Q _ => ∃ (i : ι) (B : Hp), pre i ∧ Ex B H ∧ MnAll K B vs (ar i) ∧ ∀ v B2 H2, Nw B H B2 H2 → (rs i).p K B2 v → Q v H2
theorem mn_len {K : PySem.W.Frag} {B : Hp} : ∀ {vs : List V} {Ps : List Mn}, MnAll K B vs Ps → vs.length = Ps.length
  | _, _, .nil => rfl
  | _, _, .cons _ t => by rw [List.length_cons, List.length_cons, mn_len t]
theorem mn_get {K : PySem.W.Frag} {B : Hp} : ∀ {vs : List V} {Ps : List Mn} {i : Nat} {P : Mn}, MnAll K B vs Ps → Ps[i]? = some P → ∃ v, vs[i]? = some v ∧ P.p K B v
  | _, _, _, _, .nil, e => by simp at e
  | _, _, 0, _, .cons h _, e => by
    simp only [List.getElem?_cons_zero, Option.some.injEq] at e
    subst e
    exact ⟨_, rfl, h⟩
  | _, _, i + 1, P, .cons _ t, e => by
    obtain ⟨v, h1, h2⟩ := mn_get (i := i) (P := P) t (by simpa using e)
    exact ⟨v, by simpa using h1, h2⟩
/-- the slots at a def's entry: n of them -/
def entry (Ps : List Mn) (n : Nat) : Ga := Ps.map Sl.pr ++ List.replicate (n - Ps.length) .any
theorem en_entry {K : PySem.W.Frag} {B H : Hp} {vs : List V} {Ps : List Mn} {L : List Str} (hB : Ex B H) (h : MnAll K B vs Ps) : En K B H (L2.start L vs) (entry Ps L.length) fun _ => [] where
  bh := hB
  len := by
    unfold L2.start entry
    rw [List.length_append, List.length_append, List.length_map, List.length_map, List.length_replicate, List.length_replicate, mn_len h]
  at_ := fun i s hs => by
    unfold L2.start
    unfold entry at hs
    by_cases hi : i < Ps.length
    · rw [List.getElem?_append_left (by rw [List.length_map]; exact hi), List.getElem?_map, List.getElem?_eq_getElem hi] at hs
      cases hs
      obtain ⟨v, e1, e2⟩ := mn_get h (List.getElem?_eq_getElem hi)
      refine ⟨v, ?_, e2⟩
      rw [List.getElem?_append_left (by rw [List.length_map, mn_len h]; exact hi), List.getElem?_map, e1]
      rfl
    · rw [List.getElem?_append_right (by rw [List.length_map]; omega), List.getElem?_replicate] at hs
      split at hs
      · cases hs
        trivial
      · cases hs
  fre := fun _ _ z => nomatch z
  dis := fun _ _ _ z _ => nomatch z
end
section
variable {P : Program} {w : World} {K : PySem.W.Frag} {mg : Str → Option Value} {base : Heap}
/-- THE RULE for a def of data -/
theorem def_ok {x qual : Str} {st : Stmt} {f : Addr} {fd : FuncData} {L ps : List Str} {k : Nat} {ι : Type} {pre : ι → Prop} {ar : ι → List Mn} {rs : ι → Mn} (F : Fun K x qual st f fd) (S : FnScope L ps (defScope st)) (hl : ∀ i, (ar i).length = ps.length)
    (body : ∀ (i : ι), pre i → ∀ (cdv : Value) (A : Around) (outer : List Env) (s : Shared) (H : Hp) (E : XK), Room k (A.deeper (envOfC qual (defScope st) s.heap.objs.size f cdv)) → ∀ J : Jd, J.S = [] →
      Rn (cxOf CX0 P w K mg base L qual (defScope st) f cdv A outer s H E).nox J { nx := fun _ => ∀ K B, (rs i).p K B .non, rt := rs i } (entry (ar i) L.length) (defBody st)) :
    FnOk P w K mg base CX0 (k + 1) f fd ps (spF K pre ar rs) := by
  refine F.ok S (fun vs H Q E h => ?_) fun cdv A outer s H vs Q E hr h => ?_
  · obtain ⟨i, B, _, _, h, _⟩ := h
    rw [mn_len h, hl]
  · obtain ⟨i, B, hp, hB, hv, q⟩ := h
    refine ⟨_, sSs, wpSs_mono (body i hp cdv A outer s H E hr ⟨H, [], []⟩ rfl B (L2.start L vs) B H (fun _ => []) (en_entry hB hv) ⟨.refl _, fun a h1 h2 => absurd h2 h1, fun a o h _ => h, fun a h => h, fun _ _ z => nomatch z⟩) ?_ ?_ ?_ ?_⟩
    · exact fun σ' H' ⟨B', Γ', Fs', e, j, n⟩ => q _ B' H' ⟨j.b0, e.bh, fun a o h => j.h0 a o h (by simp), fun a h1 h2 => by
        cases r : B' a with
        | none => rfl
        | some o => exact absurd (j.nb a (by rw [r]; exact fun z => nomatch z) h1) h2⟩ (n K B')
    · exact fun v H' ⟨σ', B', Γ', Fs', e, j, _, r⟩ => q v B' H' ⟨j.b0, e.bh, fun a o h => j.h0 a o h (by simp), fun a h1 h2 => by
        cases r : B' a with
        | none => rfl
        | some o => exact absurd (j.nb a (by rw [r]; exact fun z => nomatch z) h1) h2⟩ r
    · exact fun σ' H' ⟨B', Γ', Fs', e, j, n⟩ => n.elim
    · exact fun σ' H' ⟨B', Γ', Fs', e, j, n⟩ => n.elim
end
section
variable {X : Cx} {Γ : Ga} {e : Expr} {es : List Expr} {pos p : Pos}
/-- its call -/
theorem go_call {x : Str} {f : Addr} {fd : FuncData} {ps : List Str} {k : Nat} {ι : Type} {pre : ι → Prop} {ar : ι → List Mn} {rs : ι → Mn} {R : Mn} (i : ι) (F : FnOk X.prog X.w X.K X.mg X.base CX0 k f fd ps (spF X.K pre ar rs)) (hr : Room k X.A) (hm : X.mg x = some (.ref f)) (hk : PySem.W.keepIn X.K (.ref f) = true) (hb : Binds X.K fd ps [])
    (hp : pre i) (ha : GoA X Γ (e :: es) (ar i)) (hg : Gl X x := by rfl) (hdb : (x == ("__debug__" : Str)) = false := by decide) (he : starEach (e :: es) X.env = (false, eval e X.env) :: starEach es X.env := by rfl) (hpl : (backTo pos (starEach es X.env)).any (·.1) = false := by rfl) (hR : rs i = R := by rfl) :
    GoP X Γ (.Call (.Name x p) (e :: es) [] pos) R := .mk fun σ B H Fs E Q q =>
  toE (pe_call F hr hg hm hk hb .nil pass0 sA hdb he hpl) (ha σ B H Fs E _ fun vs B1 H1 n1 r1 => ⟨i, B1, hp, n1.bh, by rw [List.append_nil]; exact r1, fun v B2 H2 n2 r2 => q v B2 H2 (n1.trans n2) (hR ▸ r2)⟩)
end
end PL

set_option maxHeartbeats 2000000
namespace PL
open PySem PySem.Spec PyProof.Rows L2
/-! ### list + list, list * int -/
section
variable {X : Cx} {Γ : Ga} {a b : Expr} {ds es : List D} {pos : Pos}
def rCatL (K : PySem.W.Frag) : V → V → Hp → VK → Prop := fun x y H Q => ∃ l b xs zs, x = .ref l ∧ y = .ref b ∧ SqL K H l xs ∧ SqL K H b zs ∧ xs.length + zs.length ≤ sizeLine ∧ ∀ p, H p = none → Q (.ref p) (upd H p (.lst (xs ++ zs)))
theorem op_catL : OpR X (binaryOp .Add) (rCatL X.K) := by
  intro pins s σ H x y v u Q I rx ry h
  obtain ⟨l, b, xs, zs, rfl, rfl, hH, hB, hz, q⟩ := h
  cases rx
  cases ry
  obtain ⟨its, r, ⟨⟨cls, dd, data, sl⟩, n, ho, hc, _, hd⟩, _⟩ := I.list hH
  obtain ⟨its2, r2, ⟨⟨cls2, dd2, data2, sl2⟩, n2, ho2, hc2, _, hd2⟩, _⟩ := I.list hB
  simp only at hc hd hc2 hd2
  subst hc hd hc2 hd2
  have l1 := r.length
  have l2 := r2.length
  have ea : its.toArray ++ its2.toArray = (its ++ its2).toArray := by simp
  refine PySem.concat_meets ⟨_, ho, rfl⟩ ⟨_, ho2, rfl⟩ PySem.noFill_list_add PySem.seq_list_add PySem.F.slot_list_add PySem.F.entry_list_add (PySem.F.args_list_add_2 _ _) (PyProof.Rows.list_addW l b its.toArray its2.toArray n n2 dd dd2 sl sl2 (by rw [List.size_toArray, List.size_toArray]; omega)) ⟨ho, ho2, ?_⟩
  rw [ea]
  exact ⟨.ref _, _, I.lnew (t' := s.toks) (r.append r2) (by rw [List.length_append]; omega), rfl, q _ I.fresh⟩
theorem goN_cat (ha : Go X Γ a (.list ds)) (hb : Go X Γ b (.list es)) (hl : ds.length + es.length ≤ sizeLine) : GoN X Γ (.BinOp a .Add b pos) (ds ++ es) := .mk fun σ B H Fs E Q q =>
  toE (pe_op op_catL sE sE) (ha σ B H Fs E _ fun v B1 H1 n1 r1 => hb σ B1 H1 Fs (E.nw n1) _ fun w B2 H2 n2 r2 => by
    obtain ⟨l, vs, rfl, h2, h3⟩ := dp_lst (dpUp n2.bb r1)
    obtain ⟨m, ws, rfl, h4, h5⟩ := dp_lst r2
    have n := n1.trans n2
    exact ⟨l, m, vs, ws, rfl, rfl, n2.bh.sl h2, n2.bh.sl h4, by rw [dps_len h3, dps_len h5]; exact hl, fun p hp => q p _ B2 _ (n.trans (.lay n.bh hp)) (n.hh.none hp) (n.bh.none hp) upd_same (dps_app h3 h5)⟩)
theorem dps_flat {K : PySem.W.Frag} {H : Hp} {vs : List V} {ds : List D} (h : DpAll K H vs ds) : ∀ n : Nat, DpAll K H (List.replicate n vs).flatten (List.replicate n ds).flatten
  | 0 => .nil
  | n + 1 => by
    rw [List.replicate_succ, List.replicate_succ, List.flatten_cons, List.flatten_cons]
    exact dps_app h (dps_flat h n)
theorem goN_rep {k : Int} (ha : GoN X Γ a ds) (hb : Go X Γ b (.int k)) (h1 : -(2 ^ 63) ≤ k) (h2 : k < 2 ^ 63) (hl : ds.length * k.toNat ≤ sizeLine) : GoN X Γ (.BinOp a .Mult b pos) (List.replicate k.toNat ds).flatten := .mk fun σ B H Fs E Q q =>
  toE (pe_op op_rep sE sE) (ha σ B H Fs E _ fun l vs B1 H1 n1 hp1 hb1 hH1 hd1 => hb σ B1 H1 Fs (E.nw n1) _ fun w B2 H2 n2 r2 => by
    have n := n1.trans n2
    exact ⟨l, k, vs, rfl, dp_int r2, n2.hh _ _ hH1, h1, h2, by rw [dps_len hd1]; exact hl, fun p hp => q p _ B2 _ (n.trans (.lay n.bh hp)) (n.hh.none hp) (n.bh.none hp) upd_same (dps_flat (dpsUp n2.bb hd1) _)⟩)
end
/-! ### some x -/
def exP {α : Type} (p : α → Prop) (R : α → Mn) : Mn := ⟨fun K H v => ∃ x, p x ∧ (R x).p K H v, fun e ⟨x, h, r⟩ => ⟨x, h, (R x).up e r⟩⟩
section
variable {X : Cx} {J : Jd} {N : Nd} {Γ Γ1 Γ2 : Ga} {e a b c tg iter : Expr} {es : List Expr} {st : Stmt} {sts rest body : List Stmt} {P : Mn} {d : D} {ds : List D} {pos : Pos} {k : Bool}
theorem go_ex {α : Type} {p : α → Prop} {R : α → Mn} (x : α) (hx : p x) (h : GoP X Γ e (R x)) : GoP X Γ e (exP p R) := goP_imp h fun _ _ _ r => ⟨x, hx, r⟩
theorem goix_list {α : Type} {p : α → Prop} {enc : α → List D} (h : GoP X Γ iter (exP p fun x => datP (.list (enc x)))) : GoIx X Γ tg iter fun ds => ∃ x, p x ∧ ds = enc x := .mk fun σ B H Fs E R q =>
  toI (pi_list sE) (h σ B H Fs E _ fun v B2 H2 n r => by
    obtain ⟨x, hx, r⟩ := r
    obtain ⟨a, vs, rfl, h2, h3⟩ := dp_lst r
    refine ⟨a, rfl, ⟨vs, n.bh.sl h2⟩, q _ B2 H2 _ ⟨x, hx, rfl⟩ n ⟨fun i H' hi hB => ?_, fun H' hB => ⟨vs, hB.sl h2, by rw [dps_len h3]; exact Nat.le_refl _⟩, fun i H' x H2 Bc d hd hB hC y => ?_⟩⟩
    · obtain ⟨u, e1, _⟩ := dps_get h3 (List.getElem?_eq_getElem hi)
      exact ⟨vs, u, hB.sl h2, e1⟩
    · obtain ⟨e1, y⟩ := y
      subst e1
      obtain ⟨d', e3, e4⟩ := dps_getv h3 (y vs ((hB.trans hC).sl h2))
      rw [hd] at e3
      cases e3
      exact ⟨Bc, .same hC, dpUp hB e4⟩)
theorem goix_list' {p : List D → Prop} (h : GoP X Γ iter (exP p fun ds => datP (.list ds))) : GoIx X Γ tg iter p := .mk fun σ B H Fs E R q =>
  goix_list (enc := id) h σ B H Fs E R fun I B2 H2 ds ⟨x, hx, e⟩ n it => q I B2 H2 ds (e ▸ hx) n it
theorem en_ex {α : Type} {p : α → Prop} {R : α → Mn} {K B H σ Fs} {i : Nat} (hΓ : Γ[i]? = some (.pr (exP p R))) (E : En K B H σ Γ Fs) : ∃ x, p x ∧ En K B H σ (Γ.set i (.pr (R x))) Fs := by
  obtain ⟨v, h1, x, hx, r⟩ := E.at_ i _ hΓ
  refine ⟨x, hx, E.bh, by rw [List.length_set]; exact E.len, fun j s hs => ?_, E.fre, E.dis⟩
  by_cases e : j = i
  · subst e
    have hl : j < Γ.length := by
      by_cases hl : j < Γ.length
      · exact hl
      · rw [List.getElem?_eq_none (by omega)] at hΓ
        cases hΓ
    rw [List.getElem?_set_self hl] at hs
    cases hs
    exact ⟨v, h1, r⟩
  · rw [List.getElem?_set_ne (Ne.symm e)] at hs
    exact E.at_ j s hs
theorem rn_ex {α : Type} {p : α → Prop} {R : α → Mn} (i : Nat) (hΓ : Γ[i]? = some (.pr (exP p R))) (h : ∀ x, p x → Rn X J N (Γ.set i (.pr (R x))) sts) : Rn X J N Γ sts := .mk fun B0 σ B H Fs E j => by
  obtain ⟨x, hx, E'⟩ := en_ex hΓ E
  exact h x hx B0 σ B H Fs E' j
/-- a set of slots between two statements -/
theorem rs_cut (M : Ga → Prop) (h : RnS X J { N with nx := M } Γ st) (h2 : ∀ Γ', M Γ' → N.nx Γ') : RnS X J N Γ st := .mk fun B0 σ B H Fs E j =>
  wpS_mono (h B0 σ B H Fs E j) (fun σ' H' ⟨B', Γ', Fs', p1, p2, p3⟩ => ⟨B', Γ', Fs', p1, p2, h2 Γ' p3⟩) (fun _ _ z => z) (fun _ _ z => z) fun _ _ z => z
theorem rng_get {lo hi : Int} {k : Nat} {d : D} (h : ((rngI lo hi).map PyData.int)[k]? = some d) : k < (hi - lo).toNat ∧ d = .int (lo + (k : Nat)) := by
  unfold rngI at h
  by_cases hk : k < (hi - lo).toNat
  · simp only [List.map_map, List.getElem?_map, List.getElem?_range hk, Option.map_some, Option.some.injEq, Function.comp] at h
    exact ⟨hk, h.symm⟩
  · rw [List.getElem?_eq_none (by rw [List.length_map, List.length_map, List.length_range]; omega)] at h
    cases h
theorem rng_len {lo hi : Int} : ((rngI lo hi).map PyData.int).length = (hi - lo).toNat := by
  unfold rngI
  rw [List.length_map, List.length_map, List.length_range]
theorem ltZ {n : Nat} (h : n < 1000000) : n < sizeLine := Nat.lt_of_lt_of_le h (by decide)
theorem leZ {n : Nat} (h : n ≤ 1000000) : n ≤ sizeLine := Nat.le_trans h (by decide)
theorem cut63 (ns : List Int) : slD (ns.map PyData.int) none (some 63) = (ns.take 63).map .int := by
  have h : HT.sIx (ns.map PyData.int).length (ns.map PyData.int).length (some 63) = min 63 (ns.map PyData.int).length := HT.sIx_nat _ _ 63
  unfold slD
  rw [h, HT.sIx_none, List.drop_zero, Nat.sub_zero, List.map_take, List.take_eq_take_iff]
  omega
theorem cutHi (ns : List D) (n : Nat) : slD ns none (some (n : Int)) = ns.take n := by
  have h : HT.sIx ns.length ns.length (some (n : Int)) = min n ns.length := HT.sIx_nat _ _ n
  unfold slD
  rw [h, HT.sIx_none, List.drop_zero, Nat.sub_zero, List.take_eq_take_iff]
  omega
/-- the list ds is of k ints that p has -/
def IntsD (p : Int → Prop) (k : Nat) (ds : List D) : Prop := ∃ ns : List Int, ds = ns.map .int ∧ ns.length = k ∧ ∀ x ∈ ns, p x
theorem IntsD.nil {p : Int → Prop} : IntsD p 0 [] := ⟨[], rfl, rfl, fun _ h => nomatch h⟩
theorem IntsD.len {p : Int → Prop} {k : Nat} {ds : List D} (h : IntsD p k ds) : ds.length = k := by
  obtain ⟨ns, h1, h2, _⟩ := h
  rw [h1, List.length_map, h2]
theorem IntsD.push {p : Int → Prop} {k : Nat} {ds : List D} {z : Int} (h : IntsD p k ds) (hz : p z) : IntsD p (k + 1) (ds ++ [.int z]) := by
  obtain ⟨ns, h1, h2, h3⟩ := h
  refine ⟨ns ++ [z], by rw [h1, List.map_append]; rfl, by rw [List.length_append, h2, List.length_singleton], fun x hx => ?_⟩
  rcases List.mem_append.mp hx with hx | hx
  · exact h3 x hx
  · rw [List.mem_singleton.mp hx]
    exact hz
theorem IntsD.get {p : Int → Prop} {k i : Nat} {ds : List D} {d : D} (h : IntsD p k ds) (hd : ds[i]? = some d) : ∃ z, d = .int z ∧ p z ∧ i < k := by
  obtain ⟨ns, h1, h2, h3⟩ := h
  rw [h1, List.getElem?_map] at hd
  cases q : ns[i]? with
  | none =>
    rw [q] at hd
    cases hd
  | some z =>
    rw [q] at hd
    cases hd
    exact ⟨z, rfl, h3 z (List.mem_of_getElem? q), by
      rw [← h2]
      exact (List.getElem?_eq_some_iff.mp q).1⟩
/-- calm: which built-in names are still the built-in ones -/
structure Bt (mg : Str → Option Value) : Prop where
  abs : mg "abs" = none
  int : mg "int" = none
  len : mg "len" = none
  max : mg "max" = none
  range : mg "range" = none
  list : mg "list" = none
  all : mg "all" = none
  any : mg "any" = none
  sum : mg "sum" = none
  tuple : mg "tuple" = none
  sorted : mg "sorted" = none
  set : mg "set" = none
  enumerate : mg "enumerate" = none
  zip : mg "zip" = none
  isinstance : mg "isinstance" = none
  str : mg "str" = none
  bool : mg "bool" = none
  min : mg "min" = none
end
end PL

set_option maxHeartbeats 2000000
namespace PL
open PySem PySem.Spec PyProof.Rows L2
/-! ### the shape of data -/
def Shp (n : Nat) (d : D) : Prop := d.canLay0 = true ∧ d.depth ≤ n
theorem Shp.ok {n : Nat} {d : D} (h : Shp n d) (hn : n ≤ 64 := by decide) : SeqAt.shaped d = true := by
  unfold SeqAt.shaped
  rw [h.1, Bool.true_and]
  exact decide_eq_true (Nat.le_trans h.2 hn)
theorem Shp.up {n m : Nat} {d : D} (h : Shp n d) (hm : n ≤ m) : Shp m d := ⟨h.1, Nat.le_trans h.2 hm⟩
theorem Shp.int (i : Int) (n : Nat) : Shp n (.int i) := ⟨rfl, Nat.zero_le _⟩
theorem Shp.bool (i : Bool) (n : Nat) : Shp n (.bool i) := ⟨rfl, Nat.zero_le _⟩
theorem Shp.non (n : Nat) : Shp n .none := ⟨rfl, Nat.zero_le _⟩
theorem shp_all {n : Nat} : ∀ {ds : List D}, (∀ d ∈ ds, Shp n d) → PyData.canLayAll0 ds = true ∧ PyData.depthAll ds ≤ n
  | [], _ => ⟨rfl, Nat.zero_le _⟩
  | d :: r, h => by
    have h1 := h d List.mem_cons_self
    have h2 := shp_all fun x hx => h x (List.mem_cons_of_mem _ hx)
    refine ⟨?_, ?_⟩
    · show (d.canLay0 && PyData.canLayAll0 r) = true
      rw [h1.1, h2.1]
      rfl
    · show max d.depth (PyData.depthAll r) ≤ n
      exact Nat.max_le.mpr ⟨h1.2, h2.2⟩
theorem Shp.list {n : Nat} {ds : List D} (h : ∀ d ∈ ds, Shp n d) : Shp (n + 1) (.list ds) := ⟨(shp_all h).1, Nat.succ_le_succ (shp_all h).2⟩
theorem Shp.tup {n : Nat} {ds : List D} (h : ∀ d ∈ ds, Shp n d) : Shp (n + 1) (.tuple ds) := ⟨(shp_all h).1, Nat.succ_le_succ (shp_all h).2⟩
theorem Shp.ints (ns : List Int) (n : Nat) : Shp (n + 1) (.list (ns.map .int)) := Shp.list fun d hd => by
  obtain ⟨i, _, rfl⟩ := List.mem_map.mp hd
  exact Shp.int i n
theorem Shp.all2 {n : Nat} {a b : D} (ha : Shp n a) (hb : Shp n b) : ∀ d ∈ [a, b], Shp n d := fun d hd => by
  rcases List.mem_cons.mp hd with e | hd
  · rw [e]
    exact ha
  · rw [List.mem_singleton.mp hd]
    exact hb
/-! ### == of data -/
theorem eqv_int (i j : Int) : PyData.eqv (.int i) (.int j) = (i == j) := by simp [PyData.eqv]
theorem eqv_str (i j : Str) : PyData.eqv (.str i) (.str j) = (i == j) := by simp [PyData.eqv]
theorem eqv_bool (i j : Bool) : PyData.eqv (.bool i) (.bool j) = (i == j) := by simp [PyData.eqv]
theorem eqv_list (xs ys : List D) : PyData.eqv (.list xs) (.list ys) = PyData.eqvAll xs ys := by simp [PyData.eqv]
theorem eqv_tup (xs ys : List D) : PyData.eqv (.tuple xs) (.tuple ys) = PyData.eqvAll xs ys := by simp [PyData.eqv]
theorem eqvAll_nil : PyData.eqvAll [] [] = true := by simp [PyData.eqvAll]
theorem eqvAll_cons (x y : D) (xs ys : List D) : PyData.eqvAll (x :: xs) (y :: ys) = (PyData.eqv x y && PyData.eqvAll xs ys) := by simp [PyData.eqvAll]
mutual
/-- data without dicts is equal to itself -/
theorem eqv_refl : ∀ {d : D}, d.canLay0 = true → PyData.eqv d d = true
  | .none, _ => by simp [PyData.eqv]
  | .bool b, _ => by simp [PyData.eqv]
  | .int i, _ => by simp [PyData.eqv]
  | .str x, _ => by simp [PyData.eqv]
  | .list xs, h => by
    rw [eqv_list]
    exact eqvAll_refl h
  | .tuple xs, h => by
    rw [eqv_tup]
    exact eqvAll_refl h
  | .dict _, h => by cases h
theorem eqvAll_refl : ∀ {ds : List D}, PyData.canLayAll0 ds = true → PyData.eqvAll ds ds = true
  | [], _ => eqvAll_nil
  | d :: r, h => by
    have h : (d.canLay0 && PyData.canLayAll0 r) = true := h
    rw [Bool.and_eq_true] at h
    rw [eqvAll_cons, eqv_refl h.1, eqvAll_refl h.2]
    rfl
end
theorem hasD_ints (ns : List Int) (i : Int) : hasD (ns.map .int) (.int i) = ns.contains i := by
  unfold hasD
  induction ns with
  | nil => rfl
  | cons n r ih =>
    rw [List.map_cons, List.any_cons, ih, eqv_int, List.contains_cons]
    congr 1
    exact Bool.eq_iff_iff.mpr ⟨fun h => by simpa using (beq_iff_eq.mp h).symm, fun h => by simpa using (beq_iff_eq.mp h).symm⟩
theorem eqvAll_ints : ∀ ns ms : List Int, PyData.eqvAll (ns.map .int) (ms.map .int) = (ns == ms)
  | [], [] => eqvAll_nil
  | [], _ :: _ => by simp [PyData.eqvAll]
  | _ :: _, [] => by simp [PyData.eqvAll]
  | n :: r, m :: s => by
    rw [List.map_cons, List.map_cons, eqvAll_cons, eqv_int, eqvAll_ints r s]
    rfl
theorem atI_intsLast (ns : List Int) (z : Int) : atI ((ns ++ [z]).map PyData.int) (-1) = some (.int z) := by
  rw [List.map_append]
  exact atI_last _ _
theorem atI_get' {ds : List D} {k : Nat} {d : D} (h : ds[k]? = some d) {i : Int} (hi : i = (k : Int)) : atI ds i = some d := by
  rw [hi]
  exact atI_nat h
end PL

set_option maxHeartbeats 2000000
namespace PL
open PySem PySem.Spec PyProof.Rows L2
/-! ### things of our own, at large -/
def ovl (B H : Hp) (F : List Addr) : Hp := fun a => if a ∈ F then H a else B a
theorem ovl_in {B H : Hp} {F : List Addr} {a : Addr} (h : a ∈ F) : ovl B H F a = H a := if_pos h
theorem ovl_out {B H : Hp} {F : List Addr} {a : Addr} (h : a ∉ F) : ovl B H F a = B a := if_neg h
theorem ovl_ex {B H : Hp} {F : List Addr} (hF : ∀ a ∈ F, B a = none) : Ex B (ovl B H F) := fun a o e => by
  rw [ovl_out fun z => by rw [hF a z] at e; cases e]
  exact e
theorem ovl_exH {B H : Hp} {F : List Addr} (hB : Ex B H) : Ex (ovl B H F) H := fun a o e => by
  by_cases h : a ∈ F
  · rw [ovl_in h] at e
    exact e
  · rw [ovl_out h] at e
    exact hB a o e
/-- P frozen is the data d -/
def Fz (P : Ow) (d : D) : Prop := ∀ K B H v F, P.p K B H v F → (∀ a ∈ F, B a = none) → Dp K (ovl B H F) v d
theorem fz_lst (ds : List D) : Fz (lstO ds) (.list ds) := fun K B H v F h hF => by
  obtain ⟨a, vs, rfl, h2, h3, h4⟩ := h
  exact .lst (.of (by rw [ovl_in (by rw [h2]; exact List.mem_cons_self)]; exact h3)) (dpsUp (ovl_ex hF) h4)
section
variable {K : PySem.W.Frag} {B H B2 H2 : Hp} {σ : L2.St} {Γ : Ga} {Fs : Nat → List Addr} {P : Ow} {d : D}
theorem En.iceO {i : Nat} (E : En K B H σ Γ Fs) (hΓ : Γ[i]? = some (.ob P)) (hz : Fz P d) : En K (ovl B H (Fs i)) H σ (Γ.set i (.dat d)) (off Fs i []) := by
  obtain ⟨v, h1, h2⟩ := E.at_ i _ hΓ
  have e1 : Ex B (ovl B H (Fs i)) := ovl_ex fun a ha => (E.fre i a ha).1
  refine ⟨ovl_exH E.bh, by rw [List.length_set, E.len], fun j s hs => ?_, fun j b hb' => ?_, fun j k b h1 h2 => E.dis j k b (off_sub h1) (off_sub h2)⟩
  · by_cases e : j = i
    · subst e
      have hl : j < Γ.length := by
        by_cases hl : j < Γ.length
        · exact hl
        · rw [List.getElem?_eq_none (by omega)] at hΓ
          cases hΓ
      rw [List.getElem?_set_self hl] at hs
      cases hs
      exact ⟨v, h1, hz _ _ _ _ _ h2 fun a ha => (E.fre j a ha).1⟩
    · rw [List.getElem?_set_ne (Ne.symm e)] at hs
      rw [off_ne e]
      have := E.at_ j s hs
      cases s with
      | any => trivial
      | pr P =>
        obtain ⟨v, h1, h2⟩ := this
        exact ⟨v, h1, P.up e1 h2⟩
      | ob P =>
        obtain ⟨v, h1, h2⟩ := this
        exact ⟨v, h1, P.upB e1 h2⟩
  · have hj : j ≠ i := fun e => by
      rw [e, off_same] at hb'
      cases hb'
    rw [off_ne hj] at hb'
    refine ⟨?_, (E.fre j b hb').2⟩
    have ne : b ∉ Fs i := fun z => hj (E.dis j i b hb' z)
    rw [ovl_out ne]
    exact (E.fre j b hb').1
end
/-- an expression that gives a new thing -/
structure GoU (X : Cx) (Γ : Ga) (e : Expr) (P : Ow) : Prop where
  run : ∀ σ B H Fs, En X.K B H σ Γ Fs → ∀ Q : VK,
  (∀ v F B2 H2, Nw B H B2 H2 → P.p X.K B2 H2 v F → (∀ a ∈ F, H a = none ∧ B2 a = none) → Q v H2) → wpE X e σ H Q
instance {X : Cx} {Γ : Ga} {e : Expr} {P : Ow} : CoeFun (GoU X Γ e P) fun _ => ∀ σ B H Fs, En X.K B H σ Γ Fs → ∀ Q : VK,
    (∀ v F B2 H2, Nw B H B2 H2 → P.p X.K B2 H2 v F → (∀ a ∈ F, H a = none ∧ B2 a = none) → Q v H2) → wpE X e σ H Q := ⟨GoU.run⟩
section
variable {X : Cx} {J : Jd} {N : Nd} {Γ Γ1 Γ2 : Ga} {e a b c tg iter : Expr} {es : List Expr} {st : Stmt} {sts rest body : List Stmt} {P : Ow} {d : D} {ds : List D} {pos : Pos} {k : Bool}
theorem goU_of_N (h : GoN X Γ e ds) : GoU X Γ e (lstO ds) := .mk fun σ B H Fs E Q q => h σ B H Fs E Q fun p vs B2 H2 n hp hb hH hd => q _ [p] B2 H2 n ⟨p, vs, rfl, rfl, hH, hd⟩ fun a ha => by
  rw [List.mem_singleton.mp ha]
  exact ⟨hp, hb⟩
theorem goN_of_U (h : GoU X Γ e (lstO ds)) : GoN X Γ e ds := .mk fun σ B H Fs E Q q => h σ B H Fs E Q fun v F B2 H2 n ⟨p, vs, e1, e2, e3, e4⟩ hF => by
  subst e1
  obtain ⟨h1, h2⟩ := hF p (by rw [e2]; exact List.mem_cons_self)
  exact q p vs B2 H2 n h1 h2 e3 e4
theorem go_of_U (h : GoU X Γ e P) (hz : Fz P d) : Go X Γ e d := .mk fun σ B H Fs E Q q => h σ B H Fs E Q fun v F B2 H2 n hv hF => by
  refine q v (ovl B2 H2 F) H2 ⟨n.bb.trans (ovl_ex fun a ha => (hF a ha).2), ovl_exH n.bh, n.hh, fun a h1 h2 => ?_⟩ (hz _ _ _ _ _ hv fun a ha => (hF a ha).2)
  rw [ovl_out fun z => h2 (hF a z).1]
  exact n.nu a h1 h2
theorem rs_ownU (i : Nat) {x : Str} {p' : Pos} (he : GoU X Γ e P) (h : N.nx (Γ.set i (.ob P))) (hN : X.N.Nodup) (hi : X.N[i]? = some x := by rfl) (hx : Loc X.env.scope x := by first | exact .inl rfl | exact .inr rfl)
    (hs : swapsWith e (some (.Name x p')) pos.line X.env = pure false := by rfl) (hf : X.fn x = true ∨ X.env.scope.names.lookup x = some .local := by first | exact .inl rfl | exact .inr rfl) : RnS X J N Γ (.Assign [.Name x p'] e pos) := .mk fun B0 σ B H Fs E j =>
  toS (ps_set hN hi hx sE hs hf) (he σ B H Fs E _ fun v F B2 H2 n hv hF => ⟨B2, _, _, (E.nw n).setO (P := P) (F := F) i hv (fun a ha => (hF a ha).2)
    (fun k a ha hm => (E.fre k a ha).2 (hF a hm).1), (j.nw n).lay fun a ha => by
      cases q : J.H a with
      | none => rfl
      | some o => exact absurd (hF a ha).1 (j.h1 a (by rw [q]; exact fun z => nomatch z)), h⟩)
theorem rn_iceO (i : Nat) (hΓ : Γ[i]? = some (.ob P)) (hz : Fz P d) (hi : i ∉ J.S) (h : Rn X J N (Γ.set i (.dat d)) sts) : Rn X J N Γ sts := .mk fun B0 σ B H Fs E j => by
  have E2 := E.iceO hΓ hz
  have e1 : Ex B (ovl B H (Fs i)) := ovl_ex fun a ha => (E.fre i a ha).1
  refine h B0 σ _ H _ E2 ⟨j.b0.trans e1, fun b h1 h2 => ?_, j.h0, j.h1, fun k a ha => j.fm k a (off_sub ha)⟩
  by_cases q : b ∈ Fs i
  · rcases j.fm i b q with z | z
    · exact z
    · exact absurd z.2 hi
  · rw [ovl_out q] at h1
    exact j.nb b h1 h2
theorem th_run {i : Nat} (hΓ : Γ[i]? = some (.ob P)) (hz : Fz P d) {σ B H Fs} (E : En X.K B H σ Γ Fs) : ∃ B' Fs', En X.K B' H σ (Γ.set i (.dat d)) Fs' := ⟨_, _, E.iceO hΓ hz⟩
theorem go_thI (i : Nat) {n : Int} (hΓ : Γ[i]? = some (.ob P)) (hz : Fz P d) (h : Go X (Γ.set i (.dat d)) e (.int n)) : Go X Γ e (.int n) := .mk fun σ B H Fs E Q q => by
  obtain ⟨B', Fs', E'⟩ := th_run hΓ hz E
  exact h σ B' H Fs' E' Q fun v B2 H2 n r => by
    rw [dp_int r]
    exact q _ B H2 ⟨.refl _, E.bh.trans n.hh, n.hh, fun _ h _ => h⟩ (Dp.int _)
theorem go_thB (i : Nat) {n : Bool} (hΓ : Γ[i]? = some (.ob P)) (hz : Fz P d) (h : Go X (Γ.set i (.dat d)) e (.bool n)) : Go X Γ e (.bool n) := .mk fun σ B H Fs E Q q => by
  obtain ⟨B', Fs', E'⟩ := th_run hΓ hz E
  exact h σ B' H Fs' E' Q fun v B2 H2 n r => by
    rw [dp_bl r]
    exact q _ B H2 ⟨.refl _, E.bh.trans n.hh, n.hh, fun _ h _ => h⟩ (Dp.bl _)
theorem goT_th (i : Nat) (hΓ : Γ[i]? = some (.ob P)) (hz : Fz P d) (h : GoT X (Γ.set i (.dat d)) e k) : GoT X Γ e k := .mk fun σ B H Fs E Q q => by
  obtain ⟨B', Fs', E'⟩ := th_run hΓ hz E
  exact h σ B' H Fs' E' Q fun B2 H2 n => q B H2 ⟨.refl _, E.bh.trans n.hh, n.hh, fun _ h _ => h⟩
/-- handed back: the new thing of the slot i -/
theorem rs_retO (i : Nat) {x : Str} {p' : Pos} (hΓ : Γ[i]? = some (.ob P)) (hn : N.rn = some P) (hi : i ∉ J.S) (hN : X.N[i]? = some x := by rfl) (hv : Vis X.env.scope x := by first | exact Or.inl rfl | exact Or.inr (Or.inl rfl) | exact Or.inr (Or.inr rfl))
    (hd : (x == ("__debug__" : Str)) = false := by decide) (hcd : (x == ("__classdict__" : Str)) = false := by decide) (hG : N.rG Γ := by exact trivial) : RnS X J N Γ (.Return (some (.Name x p')) pos) := .mk fun B0 σ B H Fs E j => by
  obtain ⟨v, h1, h2⟩ := E.at_ i _ hΓ
  refine toS (ps_ret (pe_var hN hv hd hcd)) ⟨v, h1, σ, B, Γ, Fs, E, j, hG, ?_⟩
  rw [hn]
  refine ⟨Fs i, h2, fun a ha => ⟨?_, (E.fre i a ha).1⟩⟩
  rcases j.fm i a ha with z | z
  · exact z
  · exact absurd z.2 hi
/-- handed back: a new thing -/
theorem rs_retU (h : GoU X Γ e P) (hn : N.rn = some P := by rfl) (hG : N.rG Γ := by exact trivial) : RnS X J N Γ (.Return (some e) pos) := .mk fun B0 σ B H Fs E j =>
  toS (ps_ret sE) (h σ B H Fs E _ fun v F B2 H2 n hv hF => ⟨σ, B2, Γ, Fs, E.nw n, j.nw n, hG, by
    rw [hn]
    refine ⟨F, hv, fun a ha => ⟨?_, (hF a ha).2⟩⟩
    cases q : J.H a with
    | none => rfl
    | some o => exact absurd (hF a ha).1 (j.h1 a (by rw [q]; exact fun z => nomatch z))⟩)

/-! ### a list of lists of our own -/
inductive LLs (K : PySem.W.Frag) (B H : Hp) : List Addr → List (List D) → Prop
  | nil : LLs K B H [] []
  | cons {p : Addr} {us : List V} {ps : List Addr} {ds : List D} {dss : List (List D)} : H p = some (.lst us) → DpAll K B us ds → LLs K B H ps dss → LLs K B H (p :: ps) (ds :: dss)
theorem LLs.mono {K : PySem.W.Frag} {B B' H H' : Hp} (eB : Ex B B') : ∀ {ps : List Addr} {dss : List (List D)}, LLs K B H ps dss → (∀ a ∈ ps, H' a = H a) → LLs K B' H' ps dss
  | _, _, .nil, _ => .nil
  | _, _, .cons h1 h2 t, h => .cons ((h _ List.mem_cons_self).trans h1) (dpsUp eB h2) (LLs.mono eB t fun a ha => h a (List.mem_cons_of_mem _ ha))
theorem LLs.dom {K : PySem.W.Frag} {B H : Hp} : ∀ {ps : List Addr} {dss : List (List D)}, LLs K B H ps dss → ∀ a ∈ ps, H a ≠ none
  | _, _, .cons h1 h2 t, a, ha => by
    rcases List.mem_cons.mp ha with e | e
    · rw [e, h1]
      exact fun z => nomatch z
    · exact t.dom a e
theorem LLs.dps {K : PySem.W.Frag} {B H : Hp} {B' : Hp} (eB : Ex B B') : ∀ {ps : List Addr} {dss : List (List D)}, LLs K B H ps dss → (∀ a ∈ ps, B' a = H a) → DpAll K B' (ps.map .ref) (dss.map .list)
  | _, _, .nil, _ => .nil
  | _, _, .cons h1 h2 t, h => .cons (.lst (.of ((h _ List.mem_cons_self).trans h1)) (dpsUp eB h2)) (LLs.dps eB t fun a ha => h a (List.mem_cons_of_mem _ ha))
theorem LLs.get {K : PySem.W.Frag} {B H : Hp} : ∀ {ps : List Addr} {dss : List (List D)} {i : Nat} {ds : List D}, LLs K B H ps dss → dss[i]? = some ds → ∃ p us, ps[i]? = some p ∧ H p = some (.lst us) ∧ DpAll K B us ds
  | _, _, 0, _, .cons h1 h2 _, e => by
    simp only [List.getElem?_cons_zero, Option.some.injEq] at e
    subst e
    exact ⟨_, _, rfl, h1, h2⟩
  | _, _, i + 1, ds, .cons _ _ t, e => by
    obtain ⟨p, us, h1, h2⟩ := t.get (i := i) (ds := ds) (by simpa using e)
    exact ⟨p, us, by simpa using h1, h2⟩
theorem LLs.set {K : PySem.W.Frag} {B H : Hp} {us : List V} {es : List D} (hd : DpAll K B us es) : ∀ {ps : List Addr} {dss : List (List D)} {i : Nat} {p : Addr}, LLs K B H ps dss → ps.Nodup → ps[i]? = some p → LLs K B (upd H p (.lst us)) ps (dss.set i es)
  | _, _, 0, _, .cons h1 h2 t, hn, e => by
    simp only [List.getElem?_cons_zero, Option.some.injEq] at e
    subst e
    exact .cons upd_same hd (t.mono (.refl _) fun a ha => upd_ne fun z => (List.nodup_cons.mp hn).1 (z ▸ ha))
  | _, _, i + 1, p, .cons h1 h2 t, hn, e => by
    have e' := by simpa using e
    have ne := List.mem_of_getElem? e'
    refine .cons ?_ h2 (LLs.set hd t (List.nodup_cons.mp hn).2 e')
    refine (upd_ne ?_).trans h1
    intro z
    rw [← z] at ne
    exact (List.nodup_cons.mp hn).1 ne
def llO (dss : List (List D)) : Ow where
  p := fun K B H v F => ∃ a ps, v = .ref a ∧ F = a :: ps ∧ H a = some (.lst (ps.map .ref)) ∧ F.Nodup ∧ LLs K B H ps dss
  upB := fun e ⟨a, ps, h1, h2, h3, h4, h5⟩ => ⟨a, ps, h1, h2, h3, h4, h5.mono e fun _ _ => rfl⟩
  loc := fun e ⟨a, ps, h1, h2, h3, h4, h5⟩ => ⟨a, ps, h1, h2, (e a (by rw [h2]; exact List.mem_cons_self)).trans h3, h4, h5.mono (.refl _) fun b hb => e b (by rw [h2]; exact List.mem_cons_of_mem _ hb)⟩
  dom := fun ⟨a, ps, h1, h2, h3, h4, h5⟩ b hb => by
    rw [h2] at hb
    rcases List.mem_cons.mp hb with e | e
    · rw [e, h3]
      exact fun z => nomatch z
    · exact h5.dom b e
theorem fz_ll (dss : List (List D)) : Fz (llO dss) (.list (dss.map .list)) := fun K B H v F h hF => by
  obtain ⟨a, ps, rfl, h2, h3, h4, h5⟩ := h
  exact .lst (.of (by rw [ovl_in (by rw [h2]; exact List.mem_cons_self)]; exact h3)) (h5.dps (ovl_ex hF) fun b hb => ovl_in (by rw [h2]; exact List.mem_cons_of_mem _ hb))
/-- arguments that are new lists -/
structure GoNs (X : Cx) (Γ : Ga) (es : List Expr) (dss : List (List D)) : Prop where
  run : ∀ σ B H Fs, En X.K B H σ Γ Fs → ∀ Q : List V → Hp → Prop,
  (∀ ps B2 H2, Nw B H B2 H2 → (∀ a ∈ ps, H a = none ∧ B2 a = none) → ps.Nodup → LLs X.K B2 H2 ps dss → Q (ps.map .ref) H2) → wpA X es σ H Q
instance {X : Cx} {Γ : Ga} {es : List Expr} {dss : List (List D)} : CoeFun (GoNs X Γ es dss) fun _ => ∀ σ B H Fs, En X.K B H σ Γ Fs → ∀ Q : List V → Hp → Prop,
    (∀ ps B2 H2, Nw B H B2 H2 → (∀ a ∈ ps, H a = none ∧ B2 a = none) → ps.Nodup → LLs X.K B2 H2 ps dss → Q (ps.map .ref) H2) → wpA X es σ H Q := ⟨GoNs.run⟩
theorem gons_nil : GoNs X Γ [] [] := .mk fun σ B H Fs E Q q => toA pa_nil (q [] B H (.same E.bh) (fun _ z => nomatch z) List.nodup_nil .nil)
theorem gons_cons {dss : List (List D)} (he : GoN X Γ e ds) (ht : GoNs X Γ es dss) (hs : starEach (e :: es) X.env = (false, eval e X.env) :: starEach es X.env := by rfl) : GoNs X Γ (e :: es) (ds :: dss) := .mk fun σ B H Fs E Q q =>
  toA (pa_cons sE sA hs) (he σ B H Fs E _ fun p vs B1 H1 n1 hp hb hH hd => ht σ B1 H1 Fs (E.nw n1) _ fun ps B2 H2 n2 hps nd ll => by
    refine q (p :: ps) B2 H2 (n1.trans n2) (fun a ha => ?_) (List.nodup_cons.mpr ⟨fun z => ?_, nd⟩) (.cons (n2.hh _ _ hH) (dpsUp n2.bb hd) ll)
    · rcases List.mem_cons.mp ha with e | e
      · rw [e]
        exact ⟨hp, n2.nu p hb (by rw [hH]; exact fun z => nomatch z)⟩
      · exact ⟨n1.hh.none (hps a e).1, (hps a e).2⟩
    · have := (hps p z).1
      rw [hH] at this
      cases this)
theorem goU_ll {dss : List (List D)} (h : GoNs X Γ es dss) (hl : dss.length ≤ sizeLine := by show _ ≤ _; simp only [List.length]; decide) : GoU X Γ (.List es pos) (llO dss) := .mk fun σ B H Fs E Q q =>
  toE (pe_lst sA) (h σ B H Fs E _ fun ps B1 H1 n1 hps nd ll => by
    have len : ∀ {ps : List Addr} {dss : List (List D)}, LLs X.K B1 H1 ps dss → ps.length = dss.length := fun {ps dss} h => by
      induction h with
      | nil => rfl
      | cons _ _ _ ih => rw [List.length_cons, List.length_cons, ih]
    refine ⟨by rw [List.length_map, len ll]; exact hl, fun p hp => ?_⟩
    have np : p ∉ ps := fun z => ll.dom p z hp
    refine q _ (p :: ps) B1 _ (n1.trans (.lay n1.bh hp)) ⟨p, ps, rfl, rfl, upd_same, List.nodup_cons.mpr ⟨np, nd⟩, ll.mono (.refl _) fun a ha => upd_ne fun z => np (z ▸ ha)⟩ fun a ha => ?_
    rcases List.mem_cons.mp ha with e | e
    · rw [e]
      exact ⟨n1.hh.none hp, n1.bh.none hp⟩
    · exact hps a e)

/-! ### a list within a thing of our own, changed by a method -/
/-- e is a list ds within the thing P of the slot i; W: the thing with another list there -/
structure GoL (X : Cx) (Γ : Ga) (e : Expr) (i : Nat) (ds : List D) (W : List D → Ow) : Prop where
  run : ∀ σ B H Fs, En X.K B H σ Γ Fs → ∀ Q : VK,
  (∀ p vs v B2 H2, Nw B H B2 H2 → σ[i]? = some (some v) → p ∈ Fs i → H2 p = some (.lst vs) → DpAll X.K B2 vs ds →
    (∀ B' H', Ex B2 B' → (∀ a ∈ Fs i, H' a = H2 a) → ∀ us es, DpAll X.K B' us es → (W es).p X.K B' (upd H' p (.lst us)) v (Fs i)) → Q (.ref p) H2) → wpE X e σ H Q
instance {X : Cx} {Γ : Ga} {e : Expr} {i : Nat} {ds : List D} {W : List D → Ow} : CoeFun (GoL X Γ e i ds W) fun _ => ∀ σ B H Fs, En X.K B H σ Γ Fs → ∀ Q : VK,
    (∀ p vs v B2 H2, Nw B H B2 H2 → σ[i]? = some (some v) → p ∈ Fs i → H2 p = some (.lst vs) → DpAll X.K B2 vs ds →
      (∀ B' H', Ex B2 B' → (∀ a ∈ Fs i, H' a = H2 a) → ∀ us es, DpAll X.K B' us es → (W es).p X.K B' (upd H' p (.lst us)) v (Fs i)) → Q (.ref p) H2) → wpE X e σ H Q := ⟨GoL.run⟩
theorem gol_name (i : Nat) {x : Str} (hΓ : Γ[i]? = some (.own ds) := by rfl) (hN : X.N[i]? = some x := by rfl) (hv : Vis X.env.scope x := by first | exact Or.inl rfl | exact Or.inr (Or.inl rfl) | exact Or.inr (Or.inr rfl))
    (hd : (x == ("__debug__" : Str)) = false := by decide) (hcd : (x == ("__classdict__" : Str)) = false := by decide) : GoL X Γ (.Name x pos) i ds lstO := .mk fun σ B H Fs E Q q => by
  obtain ⟨a, vs, h1, h2, h3, h4, h5⟩ := E.own hΓ
  exact toE (pe_var hN hv hd hcd) ⟨_, h1, q a vs _ B H (.same E.bh) h1 (by rw [h3]; exact List.mem_cons_self) h2 h4 fun B' H' _ _ us es hu => ⟨a, us, rfl, h3, upd_same, hu⟩⟩
theorem gol_ix (i : Nat) {x : Str} {dss : List (List D)} {k : Nat} {j p2 p3} (hk : dss[k]? = some ds) (hΓ : Γ[i]? = some (.ob (llO dss)) := by rfl) (hN : X.N[i]? = some x := by rfl) (hv : Vis X.env.scope x := by first | exact Or.inl rfl | exact Or.inr (Or.inl rfl) | exact Or.inr (Or.inr rfl))
    (hd : (x == ("__debug__" : Str)) = false := by decide) (hcd : (x == ("__classdict__" : Str)) = false := by decide) : GoL X Γ (.Subscript (.Name x p2) (.Constant (.int (k : Nat)) j p3) pos) i ds fun es => llO (dss.set k es) := .mk fun σ B H Fs E Q q => by
  obtain ⟨v, h1, a, ps, e1, e2, e3, e4, e5⟩ := E.at_ i _ hΓ
  subst e1
  obtain ⟨p, us, f1, f2, f3⟩ := e5.get hk
  have hp : p ∈ ps := List.mem_of_getElem? f1
  have np : p ≠ a := fun z => by
    rw [e2] at e4
    exact (List.nodup_cons.mp e4).1 (z ▸ hp)
  refine toE (pe_ix ix_list (pe_var hN hv hd hcd) pe_int fun _ _ => rfl) ⟨_, h1, a, ps.map .ref, (k : Nat), .ref p, rfl, rfl, .of e3, atI_nat (by rw [List.getElem?_map, f1]; rfl), ?_⟩
  refine q p us _ B H (.same E.bh) h1 (by rw [e2]; exact List.mem_cons_of_mem _ hp) f2 f3 fun B' H' hB hH us es hu => ⟨a, ps, rfl, e2, ?_, e4, ?_⟩
  · rw [upd_ne (Ne.symm np), hH a (by rw [e2]; exact List.mem_cons_self)]
    exact e3
  · rw [e2] at e4
    exact (e5.mono hB fun b hb => hH b (by rw [e2]; exact List.mem_cons_of_mem _ hb)).set hu (List.nodup_cons.mp e4).2 f1
theorem En.chg {K B H σ Γ Fs} {i : Nat} {v : V} {p : Addr} {us : List V} {W : Ow} (E : En K B H σ Γ Fs) (hi : i < Γ.length) (hσ : σ[i]? = some (some v)) (hp : p ∈ Fs i) (hW : W.p K B (L2.upd H p (.lst us)) v (Fs i)) : En K B (L2.upd H p (.lst us)) σ (Γ.set i (.ob W)) Fs := by
  have hb : B p = none := (E.fre i p hp).1
  have nf : ∀ j, j ≠ i → p ∉ Fs j := fun j hj ha => hj (E.dis j i p ha hp)
  refine ⟨fun b u e => ?_, by rw [List.length_set, E.len], fun j s hs => ?_, fun j b hb' => ⟨(E.fre j b hb').1, fun z => ?_⟩, E.dis⟩
  · rw [upd_ne (ne_of_none e hb)]
    exact E.bh b u e
  · by_cases e : j = i
    · subst e
      rw [List.getElem?_set_self hi] at hs
      cases hs
      exact ⟨v, hσ, hW⟩
    · rw [List.getElem?_set_ne (Ne.symm e)] at hs
      have := E.at_ j s hs
      cases s with
      | any => trivial
      | pr P => exact this
      | ob P =>
        obtain ⟨v, h1, h2⟩ := this
        exact ⟨v, h1, P.loc (fun b hb' => upd_ne (show b ≠ p from fun z => nf j e (z ▸ hb'))) h2⟩
  · by_cases e : b = p
    · rw [e, upd_same] at z
      cases z
    · rw [upd_ne e] at z
      exact (E.fre j b hb').2 z
theorem rs_appL {i : Nat} {W : List D → Ow} {o : Expr} {ap cp : Pos} (ho : GoL X Γ o i ds W) (he : Go X Γ e d) (hl : ds.length < sizeLine) (h : N.nx (Γ.set i (.ob (W (ds ++ [d]))))) (hi : i < Γ.length)
    (hbase : attributeBase o "append" X.env (eval o X.env) = eval o X.env := by rfl)
    (hfew : ((backTo cp (starEach [e] X.env)).all (fun x => !x.1) && (backToKw cp (keywordEach [] X.env)).all (fun x => x.1.isSome)
      && decide ([e].length + ([] : List Keyword).length + (if ([] : List Keyword).isEmpty then 0 else 1) < 30)) = true := by rfl)
    (hline : (ap.endLine == cp.line) = true := by rfl) (hs : starEach [e] X.env = (false, eval e X.env) :: starEach [] X.env := by rfl) (hplain : (backTo cp (starEach [] X.env)).any (·.1) = false := by rfl)
    (hsw : swapsWith (.Call (.Attribute o "append" ap) [e] [] cp) none pos.line X.env = pure false := by rfl) : RnS X J N Γ (.Expr (.Call (.Attribute o "append" ap) [e] [] cp) pos) := .mk fun B0 σ B H Fs E j =>
  toS (ps_expr (pe_bm PySem.F.plainAttrs_list PySem.F.slot_list_append PySem.F.type_list_append mt_append sE (pa_cons sE pa_nil hs) hbase hfew hline hs hplain) hsw) (ho σ B H Fs E _ fun p vs v B1 H1 n1 hσ hp hH hd up => by
    refine ⟨.inl ⟨rfl, vs, .of hH⟩, he σ B1 H1 Fs (E.nw n1) _ fun w B2 H2 n2 r => ?_⟩
    have n := n1.trans n2
    have sm : ∀ a ∈ Fs i, H2 a = H1 a := fun a ha => by
      cases q : H1 a with
      | none => exact absurd q ((E.nw n1).fre i a ha).2
      | some o => exact n2.hh a o q
    refine ⟨p, vs, w, rfl, rfl, n2.hh _ _ hH, by rw [dps_len hd]; exact hl, B2, _, _, (E.nw n).chg hi hσ hp (up B2 H2 n2.bb sm _ _ (dps_app (dpsUp n2.bb hd) (.cons r .nil))), (j.nw n).upd ?_, h⟩
    rcases j.fm i p hp with z | z
    · exact .inl z
    · exact .inr z.1)
theorem rs_clearL {i : Nat} {W : List D → Ow} {o : Expr} {ap cp : Pos} (ho : GoL X Γ o i ds W) (h : N.nx (Γ.set i (.ob (W [])))) (hi : i < Γ.length)
    (hbase : attributeBase o "clear" X.env (eval o X.env) = eval o X.env := by rfl) (hline : (ap.endLine == cp.line) = true := by rfl)
    (hsw : swapsWith (.Call (.Attribute o "clear" ap) [] [] cp) none pos.line X.env = pure false := by rfl) : RnS X J N Γ (.Expr (.Call (.Attribute o "clear" ap) [] [] cp) pos) := .mk fun B0 σ B H Fs E j =>
  toS (ps_expr (pe_bm0 PySem.F.plainAttrs_list PySem.F.slot_list_clear PySem.F.type_list_clear mt_clear sE hbase hline) hsw) (ho σ B H Fs E _ fun p vs v B1 H1 n1 hσ hp hH hd up => by
    refine ⟨.inl ⟨rfl, vs, .of hH⟩, p, vs, rfl, rfl, hH, B1, _, _, (E.nw n1).chg hi hσ hp (up B1 H1 (.refl _) (fun _ _ => rfl) _ _ .nil), (j.nw n1).upd ?_, h⟩
    rcases j.fm i p hp with z | z
    · exact .inl z
    · exact .inr z.1)

/-! ### isinstance of data -/
def tyD : D → String
  | .none => "NoneType"
  | .bool _ => "bool"
  | .int _ => "int"
  | .str _ => "str"
  | .list _ => "list"
  | .tuple _ => "tuple"
  | .dict _ => "dict"
theorem dp_ty {K : PySem.W.Frag} {H : Hp} {v : V} {d : D} (h : Dp K H v d) : TyX K H v (.type (tyD d)) := by
  cases h with
  | non => exact .base .non
  | bl b => exact .base (.bl b)
  | int i => exact .base (.int i)
  | str x => exact .base (.str x)
  | lst h _ =>
    rcases h with (h | ⟨o, h⟩) | ⟨o, its, n, h1, h2, _⟩
    · exact .base (.lst h)
    · exact .base (.frz h)
    · exact .kList h1 h2
  | tup h _ =>
    rcases h with (h | ⟨o, h⟩) | ⟨o, its, n, h1, h2, _⟩
    · exact .base (.tup h)
    · exact .fTuple h
    · exact .kTuple h1 h2
theorem kit_list : kitB "list" "list" = some true := by decide +kernel
theorem kit_tup : kitB "tuple" "tuple" = some true := by decide +kernel
def tyP (n : String) : Mn := ⟨fun _ _ v => v = .ty n, fun _ h => h⟩
theorem go_ty {x : Str} {n : String} (hm : X.mg x = none) (hv : bootBuiltins x = some (.type n)) (hg : Gl X x := by rfl) (hn : x ≠ "__name__" := by decide) (hd : (x == ("__debug__" : Str)) = false := by decide) : GoP X Γ (.Name x pos) (tyP n) := .mk fun σ B H Fs E Q q =>
  toE (pe_bltn hg hm hv (v := .ty n) rfl hn hd) (q _ B H (.same E.bh) rfl)
theorem go_isi {x : Str} {n : String} {r : Bool} {p p2 : Pos} (ha : Go X Γ a d) (hmi : X.mg "isinstance" = none) (hm : X.mg x = none) (hv : bootBuiltins x = some (.type n)) (hr : kitB (tyD d) n = some r) (hgi : Gl X "isinstance" := by rfl) (hg : Gl X x := by rfl)
    (hn : x ≠ "__name__" := by decide) (hd : (x == ("__debug__" : Str)) = false := by decide) (he : starEach [a, .Name x p2] X.env = (false, eval a X.env) :: starEach [.Name x p2] X.env := by rfl) (he2 : starEach [.Name x p2] X.env = (false, eval (.Name x p2) X.env) :: starEach [] X.env := by rfl) :
    Go X Γ (.Call (.Name "isinstance" p) [a, .Name x p2] [] pos) (.bool r) :=
  go_callB call_isi hgi hmi PyProof.Rows.boot_isinstance (goA_cons ha (goA_cons (go_ty hm hv hg hn hd) goA_nil he2) he) (fun vs B H hB rr Q q => by
    obtain ⟨v, w, rfl, h, h2⟩ := mn2 rr
    have h2 : w = .ty n := h2
    subst h2
    exact ⟨v, .ty n, _, _, r, rfl, .ty n, dp_ty (dpUp hB h), kit_ty hr, q _ B H (.same hB) (Dp.bl _)⟩) (by decide) (by decide) he (by rw [he2]; rfl)
end
/-! ### a def that hands back a new thing -/
def spU {ι : Type} (K : PySem.W.Frag) (pre : ι → Prop) (ar : ι → List Mn) (rs : ι → Ow) : Sp := fun vs H Q _ => ∃ (i : ι) (B : Hp), pre i ∧ Ex B H ∧ MnAll K B vs (ar i) ∧ ∀ v F B2 H2, Nw B H B2 H2 → (rs i).p K B2 H2 v F → (∀ a ∈ F, H a = none ∧ B2 a = none) → Q v H2
section
variable {P : Program} {w : World} {K : PySem.W.Frag} {mg : Str → Option Value} {base : Heap}
theorem def_okU {x qual : Str} {st : Stmt} {f : Addr} {fd : FuncData} {L ps : List Str} {k : Nat} {ι : Type} {pre : ι → Prop} {ar : ι → List Mn} {rs : ι → Ow} (F : Fun K x qual st f fd) (S : FnScope L ps (defScope st)) (hl : ∀ i, (ar i).length = ps.length)
    (body : ∀ (i : ι), pre i → ∀ (cdv : Value) (A : Around) (outer : List Env) (s : Shared) (H : Hp) (E : XK), Room k (A.deeper (envOfC qual (defScope st) s.heap.objs.size f cdv)) → ∀ J : Jd, J.S = [] →
      Rn (cxOf CX0 P w K mg base L qual (defScope st) f cdv A outer s H E).nox J { nx := fun _ => False, rt := datP .none, rn := some (rs i) } (entry (ar i) L.length) (defBody st)) :
    FnOk P w K mg base CX0 (k + 1) f fd ps (spU K pre ar rs) := by
  refine F.ok S (fun vs H Q E h => ?_) fun cdv A outer s H vs Q E hr h => ?_
  · obtain ⟨i, B, _, _, h, _⟩ := h
    rw [mn_len h, hl]
  · obtain ⟨i, B, hp, hB, hv, q⟩ := h
    refine ⟨_, sSs, wpSs_mono (body i hp cdv A outer s H E hr ⟨H, [], []⟩ rfl B (L2.start L vs) B H (fun _ => []) (en_entry hB hv) ⟨.refl _, fun a h1 h2 => absurd h2 h1, fun a o h _ => h, fun a h => h, fun _ _ z => nomatch z⟩) ?_ ?_ ?_ ?_⟩
    · exact fun σ' H' ⟨B', Γ', Fs', e, j, n⟩ => n.elim
    · exact fun v H' ⟨σ', B', Γ', Fs', e, j, _, F, r1, r2⟩ => q v F B' H' ⟨j.b0, e.bh, fun a o h => j.h0 a o h (by simp), fun a h1 h2 => by
        cases r : B' a with
        | none => rfl
        | some o => exact absurd (j.nb a (by rw [r]; exact fun z => nomatch z) h1) h2⟩ r1 r2
    · exact fun σ' H' ⟨B', Γ', Fs', e, j, n⟩ => n.elim
    · exact fun σ' H' ⟨B', Γ', Fs', e, j, n⟩ => n.elim
end
section
variable {X : Cx} {Γ : Ga} {e : Expr} {es : List Expr} {pos p : Pos}
theorem goU_call {x : Str} {f : Addr} {fd : FuncData} {ps : List Str} {k : Nat} {ι : Type} {pre : ι → Prop} {ar : ι → List Mn} {rs : ι → Ow} {R : Ow} (i : ι) (F : FnOk X.prog X.w X.K X.mg X.base CX0 k f fd ps (spU X.K pre ar rs)) (hr : Room k X.A) (hm : X.mg x = some (.ref f)) (hk : PySem.W.keepIn X.K (.ref f) = true) (hb : Binds X.K fd ps [])
    (hp : pre i) (ha : GoA X Γ (e :: es) (ar i)) (hg : Gl X x := by rfl) (hdb : (x == ("__debug__" : Str)) = false := by decide) (he : starEach (e :: es) X.env = (false, eval e X.env) :: starEach es X.env := by rfl) (hpl : (backTo pos (starEach es X.env)).any (·.1) = false := by rfl) (hR : rs i = R := by rfl) :
    GoU X Γ (.Call (.Name x p) (e :: es) [] pos) R := .mk fun σ B H Fs E Q q =>
  toE (pe_call F hr hg hm hk hb .nil pass0 sA hdb he hpl) (ha σ B H Fs E _ fun vs B1 H1 n1 r1 => ⟨i, B1, hp, n1.bh, by rw [List.append_nil]; exact r1, fun v F B2 H2 n2 r2 r3 => q v F B2 H2 (n1.trans n2) (hR ▸ r2) fun a ha => ⟨n1.hh.none (r3 a ha).1, (r3 a ha).2⟩⟩)
end
end PL

set_option maxHeartbeats 2000000
namespace PL
open PySem PySem.Spec PyProof.Rows L2
/-! ### one rule a construct, whatever the kinds of data -/
local macro_rules | `(tactic| walk_at "pside") => `(tactic| first | exact True.intro | assumption | omega | decide | (refine ⟨?_, ?_⟩ <;> walk_at "pside") | walk_at "pshp" | (simp only [List.length_map, List.length_cons, List.length_nil, List.length_append]; omega))
local macro_rules | `(tactic| walk_at "pshp") => `(tactic| first | exact Shp.ok (by walk_at "psh"))
local macro_rules | `(tactic| walk_at "psh") => `(tactic| first | exact Shp.int _ 0 | exact Shp.bool _ 0 | exact Shp.non 0 | assumption | exact Shp.ints _ 0)
/-- ints that are small enough for a product -/
def MulOk (i j : Int) : Prop := (-(2 ^ 64) < i ∧ i < 2 ^ 64) ∨ (-(2 ^ 64) < j ∧ j < 2 ^ 64)
def BinOk (op : Operator) (x y d : D) : Prop := match op, x, y with
  | .Add, .int i, .int j => d = .int (i + j) ∧ True
  | .Add, .str a, .str b => d = .str (a ++ b) ∧ a.length + b.length ≤ sizeLine
  | .Add, .list a, .list b => d = .list (a ++ b) ∧ a.length + b.length ≤ sizeLine
  | .Add, .tuple a, .tuple b => d = .tuple (a ++ b) ∧ a.length + b.length ≤ sizeLine
  | .Sub, .int i, .int j => d = .int (i - j) ∧ True
  | .Mult, .int i, .int j => d = .int (i * j) ∧ ((-(2 ^ 64) < i ∧ i < 2 ^ 64) ∨ (-(2 ^ 64) < j ∧ j < 2 ^ 64))
  | .FloorDiv, .int i, .int j => d = .int (i / j) ∧ (0 < j ∧ j < 1073741824)
  | .Mod, .int i, .int j => d = .int (i % j) ∧ 0 < j
  | .Pow, .int i, .int j => d = .int (i ^ j.toNat) ∧ (0 ≤ j ∧ j ≤ 1000000 ∧ i.natAbs < 2 ^ 64)
  | .LShift, .int i, .int j => d = .int (i * 2 ^ j.toNat) ∧ (0 ≤ j ∧ j ≤ 1000000 ∧ i.natAbs < 2 ^ 64)
  | .RShift, .int i, .int j => d = .int (i / 2 ^ j.toNat) ∧ 0 ≤ j
  | .BitAnd, .int i, .int j => d = .int (Builtin.bitAnd i j) ∧ True
  | .BitOr, .int i, .int j => d = .int (Builtin.bitOr i j) ∧ True
  | .BitXor, .int i, .int j => d = .int (Builtin.bitXor i j) ∧ True
  | _, _, _ => False
section
variable {X : Cx} {J : Jd} {N : Nd} {Γ Γ1 Γ2 : Ga} {e a b c tg iter : Expr} {es rest : List Expr} {st : Stmt} {sts body : List Stmt} {P : Mn} {d x y z : D} {ds : List D} {pos p : Pos} {k l : Bool} {i : Nat}
theorem go_addT {us ws : List D} (ha : Go X Γ a (.tuple us)) (hb : Go X Γ b (.tuple ws)) (hl : us.length + ws.length ≤ sizeLine) : Go X Γ (.BinOp a .Add b pos) (.tuple (us ++ ws)) := go_op2 op_catA ha hb fun v w B H hB r1 r2 Q q => by
  obtain ⟨l, vs, rfl, h2, h3⟩ := dp_tup r1
  obtain ⟨m, zs, rfl, h4, h5⟩ := dp_tup r2
  refine ⟨l, m, vs, zs, rfl, rfl, hB.st h2, hB.st h4, by rw [dps_len h3, dps_len h5]; exact hl, fun e => ?_, fun e1 e2 => ?_, fun e1 e2 p hp => ?_⟩
  · subst e
    have e : us = [] := by
      cases h3
      rfl
    subst e
    exact q _ B H (.same hB) r2
  · subst e2
    have e : ws = [] := by
      cases h5
      rfl
    subst e
    rw [List.append_nil] at q
    exact q _ B H (.same hB) r1
  · have nn := Nw.new (o := .tup (vs ++ zs)) hB hp
    exact q _ _ _ nn (Dp.tup (.of upd_same) (dpsUp nn.bb (dps_app h3 h5)))
theorem gx_bin {op : Operator} (ha : Go X Γ a x) (hb : Go X Γ b y) (h : BinOk op x y d := by exact ⟨rfl, by walk_at "pside"⟩) : Go X Γ (.BinOp a op b pos) d := by
  cases op <;> cases x <;> cases y <;> (try exact h.elim) <;> obtain ⟨rfl, h⟩ := h
  · exact go_add ha hb
  · exact go_addS ha hb h
  · exact go_of_new (goN_cat ha hb h)
  · exact go_addT ha hb h
  · exact go_sub ha hb
  · exact go_mul ha hb h
  all_goals first
    | exact go_mod ha hb h
    | exact go_pow ha hb h
    | exact go_shl ha hb h
    | exact go_shr ha hb h
    | exact go_or ha hb
    | exact go_xor ha hb
    | exact go_and ha hb
    | exact go_fdiv ha hb h

/-! comparisons -/
def flatD : D → Bool
  | .none => true
  | .bool _ => true
  | .int _ => true
  | .str _ => true
  | _ => false
def CmpOk (op : CmpOp) (x y : D) (k : Bool) : Prop := match op, x, y with
  | .Lt, .int i, .int j => k = decide (i < j) ∧ True
  | .LtE, .int i, .int j => k = decide (i ≤ j) ∧ True
  | .Gt, .int i, .int j => k = decide (j < i) ∧ True
  | .GtE, .int i, .int j => k = decide (j ≤ i) ∧ True
  | .Lt, .str i, .str j => k = decide (i.cps.toList < j.cps.toList) ∧ True
  | .Eq, .int i, .int j => k = decide (i = j) ∧ True
  | .NotEq, .int i, .int j => k = (!decide (i = j)) ∧ True
  | .Eq, .str i, .str j => k = decide (i = j) ∧ True
  | .NotEq, .str i, .str j => k = (!decide (i = j)) ∧ True
  | .Eq, .bool i, .bool j => k = (i == j) ∧ True
  | .NotEq, .bool i, .bool j => k = (i != j) ∧ True
  | .Eq, x, y => k = PyData.eqv x y ∧ (SeqAt.shaped x = true ∧ SeqAt.shaped y = true)
  | .NotEq, x, y => k = (!PyData.eqv x y) ∧ (SeqAt.shaped x = true ∧ SeqAt.shaped y = true)
  | .In, x, .list ds => k = hasD ds x ∧ (SeqAt.shaped x = true ∧ SeqAt.shaped (.list ds) = true)
  | .NotIn, x, .list ds => k = (!hasD ds x) ∧ (SeqAt.shaped x = true ∧ SeqAt.shaped (.list ds) = true)
  | .In, x, .tuple ds => k = hasD ds x ∧ (flatD x = true ∧ ds.all flatD = true)
  | .NotIn, x, .tuple ds => k = (!hasD ds x) ∧ (flatD x = true ∧ ds.all flatD = true)
  | _, _, _ => False
theorem gc_ltS {i j : Str} (ha : Go X Γ a (.str i)) (hb : Go X Γ b (.str j)) : GoC X Γ .Lt a b (decide (i.cps.toList < j.cps.toList)) := go_cmp2 op_lt_str ha hb (fun v w B H hB r1 r2 Q q => by
  rw [dp_str r1, dp_str r2]
  exact ⟨i, j, rfl, rfl, q⟩)
theorem flat_eq {K : PySem.W.Frag} {H : Hp} {v w : V} {x y : D} (hv : Dp K H v x) (hw : Dp K H w y) (h1 : flatD x = true) (h2 : flatD y = true) : eqV v w = PyData.eqv x y ∧ flatV v = true ∧ flatV w = true := by
  cases hv <;> cases hw <;> first | (cases h1; done) | (cases h2; done) | (refine ⟨?_, rfl, rfl⟩; simp [eqV, PyData.eqv])
theorem flat_in {K : PySem.W.Frag} {H : Hp} {v : V} {x : D} (hv : Dp K H v x) (h1 : flatD x = true) : ∀ {vs : List V} {ds : List D}, DpAll K H vs ds → ds.all flatD = true → inV v vs = hasD ds x ∧ vs.all flatV = true
  | _, _, .nil, _ => ⟨rfl, rfl⟩
  | _, _, .cons (v := u) (d := d) h t, h2 => by
    rw [List.all_cons, Bool.and_eq_true] at h2
    obtain ⟨e1, e2⟩ := flat_in hv h1 t h2.2
    obtain ⟨f1, f2, f3⟩ := flat_eq h hv h2.1 h1
    unfold inV at e1 ⊢
    unfold hasD at e1 ⊢
    rw [List.any_cons, List.any_cons, e1, f1, List.all_cons, f2, e2]
    exact ⟨rfl, rfl⟩
theorem flat_v {K : PySem.W.Frag} {H : Hp} {v : V} {x : D} (hv : Dp K H v x) (h1 : flatD x = true) : flatV v = true := by
  cases hv <;> first | rfl | cases h1
theorem gc_inT (ha : Go X Γ a x) (hb : Go X Γ b (.tuple ds)) (h1 : flatD x = true) (h2 : ds.all flatD = true) : GoC X Γ .In a b (hasD ds x) := go_cmp2 op_in_seq ha hb fun v w B H hB r1 r2 Q q => by
  obtain ⟨l, vs, rfl, h3, h4⟩ := dp_tup r2
  obtain ⟨e1, e2⟩ := flat_in r1 h1 h4 h2
  refine ⟨l, vs, rfl, .inr (hB.st h3), flat_v r1 h1, e2, ?_⟩
  rw [e1]
  exact q
theorem gc_notInT (ha : Go X Γ a x) (hb : Go X Γ b (.tuple ds)) (h1 : flatD x = true) (h2 : ds.all flatD = true) : GoC X Γ .NotIn a b (!hasD ds x) := go_cmp2 op_notIn_seq ha hb fun v w B H hB r1 r2 Q q => by
  obtain ⟨l, vs, rfl, h3, h4⟩ := dp_tup r2
  obtain ⟨e1, e2⟩ := flat_in r1 h1 h4 h2
  refine ⟨l, vs, rfl, .inr (hB.st h3), flat_v r1 h1, e2, ?_⟩
  rw [e1]
  exact q
theorem gx_c {op : CmpOp} (hu : UOk X) (ha : Go X Γ a x) (hb : Go X Γ b y) (h : CmpOk op x y k := by exact ⟨rfl, by walk_at "pside"⟩) : GoC X Γ op a b k := by
  cases op <;> cases x <;> cases y <;> (try exact h.elim) <;> obtain ⟨rfl, h⟩ := h <;> first
    | exact gc_lt ha hb
    | exact gc_le ha hb
    | exact gc_gt ha hb
    | exact gc_ge ha hb
    | exact gc_ltS ha hb
    | exact gc_eqI ha hb
    | exact gc_neI ha hb
    | exact gc_eqS ha hb
    | exact gc_neS ha hb
    | exact gc_eqB ha hb
    | exact gc_neB ha hb
    | exact gc_eqD hu ha hb h.1 h.2
    | exact gc_neD hu ha hb h.1 h.2
    | exact gc_in hu ha hb h.1 h.2
    | exact gc_notIn hu ha hb h.1 h.2
    | exact gc_inT ha hb h.1 h.2
    | exact gc_notInT ha hb h.1 h.2
/-! index, len, truth -/
def IxOk (x y d : D) : Prop := match x, y with
  | .list ds, .int i => atI ds i = some d
  | .tuple ds, .int i => atI ds i = some d
  | .str z, .int i => z.length ≤ sizeLine ∧ ∃ m, atI z.cps.toList i = some m ∧ d = .str ⟨#[m]⟩
  | _, _ => False
theorem gx_ix (ha : Go X Γ a x) (hb : Go X Γ b y) (h : IxOk x y d := by walk_at "pix") (hs : PlainIx b := by exact fun _ _ => rfl) : Go X Γ (.Subscript a b pos) d := by
  cases x <;> cases y <;> first
    | exact h.elim
    | exact go_ixL ha hb h hs
    | exact go_ixT ha hb h hs
    | (obtain ⟨h1, m, h2, rfl⟩ := h; exact go_ixS ha hb h1 h2 hs)
def LenOk (x : D) (n : Int) : Prop := match x with
  | .list ds => n = ds.length ∧ True
  | .tuple ds => n = ds.length ∧ True
  | .str z => n = z.length ∧ z.length ≤ sizeLine
  | _ => False
theorem gx_len {n : Int} (hm : X.mg "len" = none) (ha : Go X Γ e x) (h : LenOk x n := by exact ⟨rfl, by walk_at "pside"⟩) (hg : Gl X "len" := by rfl) (he : starEach [e] X.env = (false, eval e X.env) :: starEach [] X.env := by rfl) : Go X Γ (.Call (.Name "len" p) [e] [] pos) (.int n) := by
  cases x <;> first
    | exact h.elim
    | (obtain ⟨rfl, h⟩ := h; exact go_len ha hm hg he)
    | (obtain ⟨rfl, h⟩ := h; exact go_lenT ha hm hg he)
    | (obtain ⟨rfl, h⟩ := h; exact go_lenS ha h hm hg he)
/-- a value's test -/
theorem gx_t (ha : Go X Γ a x) (h : (∀ y, x = .str y → y.length ≤ sizeLine) ∧ (∀ z, x ≠ .dict z) := by walk_at "ptru") (he : ∀ whole, isTrue a X.env whole = (do let v ← whole; standAt a.pos; holding [v] (truthy v)) := by intro _; rfl) : GoT X Γ a (truD x) := goT_tru ha h.1 h.2 he
/-! what is walked -/
def IterOk (x : D) (ds : List D) : Prop := match x with
  | .list es => ds = es
  | .tuple es => ds = es
  | .str z => ds = signsD z
  | _ => False
theorem gx_it (ha : Go X Γ iter x) (h : IterOk x ds := by exact rfl) : GoI X Γ tg iter ds := by
  cases x <;> first
    | exact h.elim
    | exact h ▸ goi_list ha
    | exact h ▸ goi_tup ha
    | exact h ▸ goi_str ha
theorem gx_rng1 {j : Int} (hm : X.mg "range" = none) (ha : Go X Γ a (.int j)) (h : -(2 ^ 62) ≤ j ∧ j < 2 ^ 62 := by walk_at "pside") (hg : Gl X "range" := by rfl) (hs : starEach [a] X.env = [(false, eval a X.env)] := by rfl) :
    GoI X Γ tg (.Call (.Name "range" p) [a] [] pos) ((rngI 0 j).map PyData.int) := goi_rng1 ha h.1 h.2 hm hg hs
theorem gx_rng2 {i j : Int} (hm : X.mg "range" = none) (ha : Go X Γ a (.int i)) (hb : Go X Γ b (.int j)) (h : (-(2 ^ 62) ≤ i ∧ i < 2 ^ 62) ∧ -(2 ^ 62) ≤ j ∧ j < 2 ^ 62 := by walk_at "pside") (hg : Gl X "range" := by rfl)
    (hs : starEach [a, b] X.env = [(false, eval a X.env), (false, eval b X.env)] := by rfl) (hs2 : starEach [b] X.env = [(false, eval b X.env)] := by rfl) :
    GoI X Γ tg (.Call (.Name "range" p) [a, b] [] pos) ((rngI i j).map PyData.int) := goi_rng2 ha hb h.1.1 h.1.2 h.2.1 h.2.2 hm hg hs hs2
/-- a comprehension -/
theorem gx_lc {elt : Expr} {ifs : List Expr} {scope : Scope} {α : Type} {xs : List α} {enc : α → D} {q : α → Bool} {f : α → D} (own : List (Str × Nat)) (hc : X.calm = true) (hN : X.N.Nodup) (hi : GoI X Γ tg iter (xs.map enc))
    (body : ∀ (k : Nat) x, xs[k]? = some x → ∃ Γ' ts, (Blk X scope fun X' => GoG X' (wipeG Γ (own.map (·.2))) tg (enc x) Γ' ts) ∧ (Blk X scope fun X' => GoTs X' Γ' ifs (q x)) ∧ (q x = true → Blk X scope fun X' => Go X' Γ' elt (f x)) ∧ (∀ t ∈ ts, t ∈ own.map (·.2)))
    (ok : blkC X.N X.env.scope scope own = true) (hz : xs.length < 1000000 := by walk_at "pside") (hs : ∀ x, foldedSetIterable iter X.env x = pure x := by intro _; rfl) :
    GoN X Γ (.ListComp elt [⟨tg, iter, ifs, 0⟩] scope pos) ((xs.filter q).map f) :=
  goN_lc q f hi (ltZ hz) (fun k x hx => let ⟨Γ', ts, h1, h2, h3, h4⟩ := body k x hx; ⟨Γ', ts, h4, h1, h2, h3⟩) hc hN (blkOk_by ok) hs
theorem gx_lcM {elt : Expr} {scope : Scope} {α : Type} {xs : List α} {enc : α → D} {f : α → D} (own : List (Str × Nat)) (hc : X.calm = true) (hN : X.N.Nodup) (hi : GoI X Γ tg iter (xs.map enc))
    (body : ∀ (k : Nat) x, xs[k]? = some x → ∃ Γ' ts, (Blk X scope fun X' => GoG X' (wipeG Γ (own.map (·.2))) tg (enc x) Γ' ts) ∧ (Blk X scope fun X' => Go X' Γ' elt (f x)) ∧ (∀ t ∈ ts, t ∈ own.map (·.2)))
    (ok : blkC X.N X.env.scope scope own = true) (hz : xs.length < 1000000 := by walk_at "pside") (hs : ∀ x, foldedSetIterable iter X.env x = pure x := by intro _; rfl) :
    GoN X Γ (.ListComp elt [⟨tg, iter, [], 0⟩] scope pos) (xs.map f) := by
  have h := goN_lc (pos := pos) (fun _ => true) f hi (ltZ hz) (fun k x hx => let ⟨Γ', ts, h1, h2, h4⟩ := body k x hx; ⟨Γ', ts, h4, h1, fun _ _ _ _ _ => goTs_nil, fun _ => h2⟩) hc hN (blkOk_by ok) hs
  rw [List.filter_eq_self.mpr fun _ _ => rfl] at h
  exact h
/-! built-in functions -/
def IntOk (x : D) (n : Int) : Prop := match x with
  | .int i => n = i
  | .bool k => n = if k then 1 else 0
  | _ => False
theorem gx_int {n : Int} (hm : X.mg "int" = none) (ha : Go X Γ e x) (h : IntOk x n := by exact rfl) (hg : Gl X "int" := by rfl) (he : starEach [e] X.env = (false, eval e X.env) :: starEach [] X.env := by rfl) : Go X Γ (.Call (.Name "int" p) [e] [] pos) (.int n) := by
  cases x <;> first
    | exact h.elim
    | exact h ▸ go_intI ha hm hg he
    | exact h ▸ go_intB ha hm hg he
def sumI : List D → Int
  | [] => 0
  | .int z :: r => z + sumI r
  | _ :: r => sumI r
def IsInts (ds : List D) : Prop := ∀ d ∈ ds, ∃ z, d = .int z
theorem ints_of : ∀ {ds : List D}, IsInts ds → ∃ ns : List Int, ds = ns.map .int ∧ sumI ds = ns.sum
  | [], _ => ⟨[], rfl, rfl⟩
  | d :: r, h => by
    obtain ⟨z, rfl⟩ := h d List.mem_cons_self
    obtain ⟨ns, h1, h2⟩ := ints_of fun x hx => h x (List.mem_cons_of_mem _ hx)
    exact ⟨z :: ns, by rw [h1]; rfl, by rw [List.sum_cons, ← h2]; rfl⟩
theorem gx_sum (hc : X.calm = true) (hm : X.mg "sum" = none) (ha : Go X Γ e (.list ds)) (h : IsInts ds := by walk_at "pints") (hg : Gl X "sum" := by rfl) (he : starEach [e] X.env = (false, eval e X.env) :: starEach [] X.env := by rfl) : Go X Γ (.Call (.Name "sum" p) [e] [] pos) (.int (sumI ds)) := by
  obtain ⟨ns, rfl, h2⟩ := ints_of h
  rw [h2]
  exact go_sum hc ha hm hg he
def IsBools (ds : List D) : Prop := ∀ d ∈ ds, ∃ z, d = .bool z
def truB : D → Bool
  | .bool b => b
  | _ => false
theorem bools_of : ∀ {ds : List D}, IsBools ds → ∃ ns : List Bool, ds = ns.map .bool ∧ ds.all truB = ns.all id ∧ ds.any truB = ns.any id
  | [], _ => ⟨[], rfl, rfl, rfl⟩
  | d :: r, h => by
    obtain ⟨z, rfl⟩ := h d List.mem_cons_self
    obtain ⟨ns, h1, h2, h3⟩ := bools_of fun x hx => h x (List.mem_cons_of_mem _ hx)
    exact ⟨z :: ns, by rw [h1]; rfl, by rw [List.all_cons, List.all_cons, h2]; rfl, by rw [List.any_cons, List.any_cons, h3]; rfl⟩
theorem gx_all (hc : X.calm = true) (hm : X.mg "all" = none) (ha : Go X Γ e (.list ds)) (h : IsBools ds := by walk_at "pints") (hg : Gl X "all" := by rfl) (he : starEach [e] X.env = (false, eval e X.env) :: starEach [] X.env := by rfl) : Go X Γ (.Call (.Name "all" p) [e] [] pos) (.bool (ds.all truB)) := by
  obtain ⟨ns, rfl, h2, _⟩ := bools_of h
  rw [h2]
  exact go_all hc ha hm hg he
theorem gx_any (hc : X.calm = true) (hm : X.mg "any" = none) (ha : Go X Γ e (.list ds)) (h : IsBools ds := by walk_at "pints") (hg : Gl X "any" := by rfl) (he : starEach [e] X.env = (false, eval e X.env) :: starEach [] X.env := by rfl) : Go X Γ (.Call (.Name "any" p) [e] [] pos) (.bool (ds.any truB)) := by
  obtain ⟨ns, rfl, _, h2⟩ := bools_of h
  rw [h2]
  exact go_any hc ha hm hg he
theorem ints_map {α : Type} {f : α → Int} {xs : List α} : IsInts (xs.map fun x => .int (f x)) := fun d hd => by
  obtain ⟨x, _, rfl⟩ := List.mem_map.mp hd
  exact ⟨_, rfl⟩
theorem bools_map {α : Type} {f : α → Bool} {xs : List α} : IsBools (xs.map fun x => .bool (f x)) := fun d hd => by
  obtain ⟨x, _, rfl⟩ := List.mem_map.mp hd
  exact ⟨_, rfl⟩
theorem sumI_map {α : Type} {f : α → Int} : ∀ {xs : List α}, sumI (xs.map fun x => .int (f x)) = (xs.map f).sum
  | [] => rfl
  | x :: r => by rw [List.map_cons, List.map_cons, List.sum_cons, ← sumI_map]; rfl
def SeqOk (x : D) (ds : List D) : Prop := match x with
  | .list es => ds = es
  | .tuple es => ds = es
  | _ => False
theorem gx_list (hm : X.mg "list" = none) (ha : Go X Γ e x) (h : SeqOk x ds := by exact rfl) (hg : Gl X "list" := by rfl) (he : starEach [e] X.env = (false, eval e X.env) :: starEach [] X.env := by rfl) : GoN X Γ (.Call (.Name "list" p) [e] [] pos) ds := by
  cases x <;> first
    | exact h.elim
    | exact h ▸ goN_list ha hm hg he
    | exact h ▸ goN_listT ha hm hg he
theorem go_tupleT (ha : Go X Γ e (.tuple ds)) (hm : X.mg "tuple" = none) (hg : Gl X "tuple" := by rfl) (he : starEach [e] X.env = (false, eval e X.env) :: starEach [] X.env := by rfl) : Go X Γ (.Call (.Name "tuple" p) [e] [] pos) (.tuple ds) :=
  go_callTy call_tuple_of hg hm PyProof.Rows.boot_tuple (goA_cons ha goA_nil he) (fun vs B H hB r Q q => by
    obtain ⟨v, rfl, h⟩ := mn1 r
    obtain ⟨p, us, rfl, h2, h3⟩ := dp_tup h
    exact ⟨p, us, rfl, .inr ⟨hB.st h2, q _ B H (.same hB) h⟩⟩) (by decide) (by decide) he rfl
theorem gx_tuple (hm : X.mg "tuple" = none) (ha : Go X Γ e x) (h : SeqOk x ds := by exact rfl) (hg : Gl X "tuple" := by rfl) (he : starEach [e] X.env = (false, eval e X.env) :: starEach [] X.env := by rfl) : Go X Γ (.Call (.Name "tuple" p) [e] [] pos) (.tuple ds) := by
  cases x <;> first
    | exact h.elim
    | exact h ▸ go_tupleL ha hm hg he
    | exact h ▸ go_tupleT ha hm hg he
theorem go_min2 {i j : Int} (hc : X.calm = true) (ha : Go X Γ a (.int i)) (hb : Go X Γ b (.int j)) (hm : X.mg "min" = none) (hg : Gl X "min" := by rfl) (he : starEach [a, b] X.env = (false, eval a X.env) :: starEach [b] X.env := by rfl) (he2 : starEach [b] X.env = (false, eval b X.env) :: starEach [] X.env := by rfl) :
    Go X Γ (.Call (.Name "min" p) [a, b] [] pos) (.int (if j < i then j else i)) :=
  go_callB (call_min2 hc) hg hm PyProof.Rows.boot_min (goA_cons ha (goA_cons hb goA_nil he2) he) (fun vs B H hB r Q q => by
    obtain ⟨v, w, rfl, h, h2⟩ := mn2 r
    have e1 := dp_int h
    have e2 := dp_int h2
    subst e1 e2
    exact ⟨i, j, rfl, q _ B H (.same hB) (Dp.int _)⟩) (by decide) (by decide) he (by rw [he2]; rfl)
/-- e.bit_length() -/
theorem go_bits {i : Int} {ap : Pos} (ha : Go X Γ e (.int i)) (hbase : attributeBase e "bit_length" X.env (eval e X.env) = eval e X.env := by rfl) (hline : (ap.endLine == pos.line) = true := by rfl) : Go X Γ (.Call (.Attribute e "bit_length" ap) [] [] pos) (.int (Builtin.Int.intBits i : Nat)) := .mk fun σ B H Fs E Q q =>
  toE (pe_bits sE hbase hline) (ha σ B H Fs E _ fun v B1 H1 n1 r1 => ⟨i, dp_int r1, q _ B1 H1 n1 (Dp.int _)⟩)
end
theorem rngI_len {lo hi : Int} : (rngI lo hi).length = (hi - lo).toNat := by
  unfold rngI
  rw [List.length_map, List.length_range]
theorem rng_nodup (lo hi : Int) : (rngI lo hi).Nodup := List.pairwise_map.mpr (List.nodup_range.imp fun h e => h (by omega))
theorem rngI_mem {lo hi x : Int} : x ∈ rngI lo hi ↔ lo ≤ x ∧ x < hi := by
  unfold rngI
  rw [List.mem_map]
  constructor
  · rintro ⟨i, h, rfl⟩
    have := List.mem_range.mp h
    omega
  · rintro ⟨h1, h2⟩
    exact ⟨(x - lo).toNat, List.mem_range.mpr (by omega), by omega⟩
/-! ### defs by what they are asked and give: S -/
def spS (K : PySem.W.Frag) (S : List Mn → Mn → Prop) : Sp := fun vs H Q _ => ∃ (Ps : List Mn) (R : Mn) (B : Hp), S Ps R ∧ Ex B H ∧ MnAll K B vs Ps ∧ ∀ v B2 H2, Nw B H B2 H2 → R.p K B2 v → Q v H2
def spSU (K : PySem.W.Frag) (S : List Mn → Ow → Prop) : Sp := fun vs H Q _ => ∃ (Ps : List Mn) (R : Ow) (B : Hp), S Ps R ∧ Ex B H ∧ MnAll K B vs Ps ∧ ∀ v F B2 H2, Nw B H B2 H2 → R.p K B2 H2 v F → (∀ a ∈ F, H a = none ∧ B2 a = none) → Q v H2
/-- the def st of the text stands at the name x -/
structure Dfn (K : PySem.W.Frag) (mg : Str → Option Value) (x : Str) (st : Stmt) (ps : List Str) : Prop where
  ex : ∃ f fd, Fun K x x st f fd ∧ mg x = some (.ref f) ∧ Binds K fd ps []
/-- what stands at the name x keeps its promise -/
structure Cal (P : Program) (w : World) (K : PySem.W.Frag) (mg : Str → Option Value) (base : Heap) (x : Str) (ps : List Str) (k : Nat) (S : List Mn → Mn → Prop) : Prop where
  ex : ∃ f fd, FnOk P w K mg base CX0 k f fd ps (spS K S) ∧ mg x = some (.ref f) ∧ PySem.W.keepIn K (.ref f) = true ∧ Binds K fd ps []
structure CalU (P : Program) (w : World) (K : PySem.W.Frag) (mg : Str → Option Value) (base : Heap) (x : Str) (ps : List Str) (k : Nat) (S : List Mn → Ow → Prop) : Prop where
  ex : ∃ f fd, FnOk P w K mg base CX0 k f fd ps (spSU K S) ∧ mg x = some (.ref f) ∧ PySem.W.keepIn K (.ref f) = true ∧ Binds K fd ps []
section
variable {P : Program} {w : World} {K : PySem.W.Frag} {mg : Str → Option Value} {base : Heap}
theorem cal_ok {x : Str} {st : Stmt} {L ps : List Str} {k : Nat} {S : List Mn → Mn → Prop} (Df : Dfn K mg x st ps) (Sc : FnScope L ps (defScope st)) (hl : ∀ Ps R, S Ps R → Ps.length = ps.length)
    (body : ∀ Ps R, S Ps R → ∀ (f : Addr) (cdv : Value) (A : Around) (outer : List Env) (s : Shared) (H : Hp) (E : XK), Room k (A.deeper (envOfC x (defScope st) s.heap.objs.size f cdv)) → ∀ J : Jd, J.S = [] →
      Rn (cxOf CX0 P w K mg base L x (defScope st) f cdv A outer s H E).nox J { nx := fun _ => ∀ K B, R.p K B .non, rt := R } (entry Ps L.length) (defBody st)) : Cal P w K mg base x ps (k + 1) S := by
  obtain ⟨f, fd, F, m, b⟩ := Df.ex
  refine ⟨f, fd, F.ok Sc (fun vs H Q E h => ?_) fun cdv A outer s H vs Q E hr h => ?_, m, F.kp, b⟩
  · obtain ⟨Ps, R, B, hS, _, h, _⟩ := h
    rw [mn_len h, hl _ _ hS]
  · obtain ⟨Ps, R, B, hS, hB, hv, q⟩ := h
    refine ⟨_, sSs, wpSs_mono (body Ps R hS f cdv A outer s H E hr ⟨H, [], []⟩ rfl B (L2.start L vs) B H (fun _ => []) (en_entry hB hv) ⟨.refl _, fun a h1 h2 => absurd h2 h1, fun a o h _ => h, fun a h => h, fun _ _ z => nomatch z⟩) ?_ ?_ ?_ ?_⟩
    · exact fun σ' H' ⟨B', Γ', Fs', e, j, n⟩ => q _ B' H' ⟨j.b0, e.bh, fun a o h => j.h0 a o h (by simp), fun a h1 h2 => by
        cases r : B' a with
        | none => rfl
        | some o => exact absurd (j.nb a (by rw [r]; exact fun z => nomatch z) h1) h2⟩ (n K B')
    · exact fun v H' ⟨σ', B', Γ', Fs', e, j, _, r⟩ => q v B' H' ⟨j.b0, e.bh, fun a o h => j.h0 a o h (by simp), fun a h1 h2 => by
        cases r : B' a with
        | none => rfl
        | some o => exact absurd (j.nb a (by rw [r]; exact fun z => nomatch z) h1) h2⟩ r
    · exact fun σ' H' ⟨B', Γ', Fs', e, j, n⟩ => n.elim
    · exact fun σ' H' ⟨B', Γ', Fs', e, j, n⟩ => n.elim
theorem calU_ok {x : Str} {st : Stmt} {L ps : List Str} {k : Nat} {S : List Mn → Ow → Prop} (Df : Dfn K mg x st ps) (Sc : FnScope L ps (defScope st)) (hl : ∀ Ps R, S Ps R → Ps.length = ps.length)
    (body : ∀ Ps R, S Ps R → ∀ (f : Addr) (cdv : Value) (A : Around) (outer : List Env) (s : Shared) (H : Hp) (E : XK), Room k (A.deeper (envOfC x (defScope st) s.heap.objs.size f cdv)) → ∀ J : Jd, J.S = [] →
      Rn (cxOf CX0 P w K mg base L x (defScope st) f cdv A outer s H E).nox J { nx := fun _ => False, rt := datP .none, rn := some R } (entry Ps L.length) (defBody st)) : CalU P w K mg base x ps (k + 1) S := by
  obtain ⟨f, fd, F, m, b⟩ := Df.ex
  refine ⟨f, fd, F.ok Sc (fun vs H Q E h => ?_) fun cdv A outer s H vs Q E hr h => ?_, m, F.kp, b⟩
  · obtain ⟨Ps, R, B, hS, _, h, _⟩ := h
    rw [mn_len h, hl _ _ hS]
  · obtain ⟨Ps, R, B, hS, hB, hv, q⟩ := h
    refine ⟨_, sSs, wpSs_mono (body Ps R hS f cdv A outer s H E hr ⟨H, [], []⟩ rfl B (L2.start L vs) B H (fun _ => []) (en_entry hB hv) ⟨.refl _, fun a h1 h2 => absurd h2 h1, fun a o h _ => h, fun a h => h, fun _ _ z => nomatch z⟩) ?_ ?_ ?_ ?_⟩
    · exact fun σ' H' ⟨B', Γ', Fs', e, j, n⟩ => n.elim
    · exact fun v H' ⟨σ', B', Γ', Fs', e, j, _, F, r1, r2⟩ => q v F B' H' ⟨j.b0, e.bh, fun a o h => j.h0 a o h (by simp), fun a h1 h2 => by
        cases r : B' a with
        | none => rfl
        | some o => exact absurd (j.nb a (by rw [r]; exact fun z => nomatch z) h1) h2⟩ r1 r2
    · exact fun σ' H' ⟨B', Γ', Fs', e, j, n⟩ => n.elim
    · exact fun σ' H' ⟨B', Γ', Fs', e, j, n⟩ => n.elim
end
section
variable {X : Cx} {Γ : Ga} {e : Expr} {es : List Expr} {pos p : Pos} {j k : Nat} {x : Str} {ps : List Str}
theorem gx_call {S : List Mn → Mn → Prop} {Ps : List Mn} {R : Mn} (C : Cal X.prog X.w X.K X.mg X.base x ps k S) (hr : Room j X.A) (hk : k ≤ j) (ha : GoA X Γ (e :: es) Ps) (hS : S Ps R := by walk_at "pS") (hg : Gl X x := by rfl) (hdb : (x == ("__debug__" : Str)) = false := by decide)
    (he : starEach (e :: es) X.env = (false, eval e X.env) :: starEach es X.env := by rfl) (hpl : (backTo pos (starEach es X.env)).any (·.1) = false := by rfl) : GoP X Γ (.Call (.Name x p) (e :: es) [] pos) R := .mk fun σ B H Fs E Q q => by
  obtain ⟨f, fd, F, m, kp, b⟩ := C.ex
  exact toE (pe_call F (hr.mono hk) hg m kp b .nil pass0 sA hdb he hpl) (ha σ B H Fs E _ fun vs B1 H1 n1 r1 => ⟨Ps, R, B1, hS, n1.bh, by rw [List.append_nil]; exact r1, fun v B2 H2 n2 r2 => q v B2 H2 (n1.trans n2) r2⟩)
theorem gx_callU {S : List Mn → Ow → Prop} {Ps : List Mn} {R : Ow} (C : CalU X.prog X.w X.K X.mg X.base x ps k S) (hr : Room j X.A) (hk : k ≤ j) (ha : GoA X Γ (e :: es) Ps) (hS : S Ps R := by walk_at "pS") (hg : Gl X x := by rfl) (hdb : (x == ("__debug__" : Str)) = false := by decide)
    (he : starEach (e :: es) X.env = (false, eval e X.env) :: starEach es X.env := by rfl) (hpl : (backTo pos (starEach es X.env)).any (·.1) = false := by rfl) : GoU X Γ (.Call (.Name x p) (e :: es) [] pos) R := .mk fun σ B H Fs E Q q => by
  obtain ⟨f, fd, F, m, kp, b⟩ := C.ex
  exact toE (pe_call F (hr.mono hk) hg m kp b .nil pass0 sA hdb he hpl) (ha σ B H Fs E _ fun vs B1 H1 n1 r1 => ⟨Ps, R, B1, hS, n1.bh, by rw [List.append_nil]; exact r1, fun v F B2 H2 n2 r2 r3 => q v F B2 H2 (n1.trans n2) r2 fun a ha => ⟨n1.hh.none (r3 a ha).1, (r3 a ha).2⟩⟩)
end
section
variable {X : Cx} {J : Jd} {N : Nd} {Γ Γ1 Γ2 : Ga} {e a b c tg iter : Expr} {es rest : List Expr} {st : Stmt} {sts body : List Stmt} {P : Mn} {d x y z : D} {ds : List D} {pos p : Pos} {k l : Bool}
theorem gx_if (h : GoT X Γ c k) (h1 : k = true → Go X Γ a x) (h2 : k = false → Go X Γ b y) : Go X Γ (.IfExp c a b pos) (if k = true then x else y) :=
  go_ifE h (fun e => by rw [if_pos e]; exact h1 e) (fun e => by rw [if_neg (by rw [e]; exact Bool.false_ne_true)]; exact h2 e)
theorem gx_ifI {i j : Int} (h : GoT X Γ c k) (h1 : k = true → Go X Γ a (.int i)) (h2 : k = false → Go X Γ b (.int j)) : Go X Γ (.IfExp c a b pos) (.int (if k = true then i else j)) :=
  go_ifE h (fun e => by rw [if_pos e]; exact h1 e) (fun e => by rw [if_neg (by rw [e]; exact Bool.false_ne_true)]; exact h2 e)
def isiS (t n : String) : Bool := match t, n with
  | "bool", "int" => true
  | "bool", "bool" => true
  | "int", "int" => true
  | "str", "str" => true
  | "list", "list" => true
  | "tuple", "tuple" => true
  | "dict", "dict" => true
  | _, _ => false
abbrev isiD (d : D) (n : String) : Bool := isiS (tyD d) n
theorem kit_isi (d : D) : kitB (tyD d) "int" = some (isiD d "int") ∧ kitB (tyD d) "bool" = some (isiD d "bool") ∧ kitB (tyD d) "str" = some (isiD d "str") ∧ kitB (tyD d) "list" = some (isiD d "list") ∧ kitB (tyD d) "tuple" = some (isiD d "tuple") := by
  cases d <;> (simp only [isiD, tyD]; exact ⟨by decide +kernel, by decide +kernel, by decide +kernel, by decide +kernel, by decide +kernel⟩)
theorem gx_isi {x : Str} {n : String} {p2 : Pos} (hmi : X.mg "isinstance" = none) (hm : X.mg x = none) (hv : bootBuiltins x = some (.type n)) (ha : Go X Γ a d) (hr : kitB (tyD d) n = some (isiD d n) := by first | exact (kit_isi _).1 | exact (kit_isi _).2.1 | exact (kit_isi _).2.2.1 | exact (kit_isi _).2.2.2.1 | exact (kit_isi _).2.2.2.2) (hgi : Gl X "isinstance" := by rfl) (hg : Gl X x := by rfl)
    (hn : x ≠ "__name__" := by decide) (hd : (x == ("__debug__" : Str)) = false := by decide) (he : starEach [a, .Name x p2] X.env = (false, eval a X.env) :: starEach [.Name x p2] X.env := by rfl) (he2 : starEach [.Name x p2] X.env = (false, eval (.Name x p2) X.env) :: starEach [] X.env := by rfl) :
    Go X Γ (.Call (.Name "isinstance" p) [a, .Name x p2] [] pos) (.bool (isiD d n)) := go_isi ha hmi hm hv hr hgi hg hn hd he he2
/-! x op= e -/
def AugOk (op : Operator) (x y d : D) : Prop := match op, x, y with
  | .Add, .int i, .int j => d = .int (i + j) ∧ True
  | .Add, .str a, .str b => d = .str (a ++ b) ∧ a.length + b.length ≤ sizeLine
  | .Sub, .int i, .int j => d = .int (i - j) ∧ True
  | .Mult, .int i, .int j => d = .int (i * j) ∧ ((-(2 ^ 64) < i ∧ i < 2 ^ 64) ∨ (-(2 ^ 64) < j ∧ j < 2 ^ 64))
  | .BitAnd, .int i, .int j => d = .int (Builtin.bitAnd i j) ∧ True
  | .BitOr, .int i, .int j => d = .int (Builtin.bitOr i j) ∧ True
  | .BitXor, .int i, .int j => d = .int (Builtin.bitXor i j) ∧ True
  | _, _, _ => False
theorem aug_ar {op : Operator} {C : Int → Int → Prop} {g : Int → Int → Int} {i j : Int} (hc : C i j) {v w : V} {B H : Hp} (hB : Ex B H) (r1 : Dp X.K B v (.int i)) (r2 : Dp X.K B w (.int j)) {Q : VK} (q : EQ X B H (datP (.int (g i j))) Q) : rI C (fun i j => .int (g i j)) v w H Q := by
  rw [dp_int r1, dp_int r2]
  exact ⟨i, j, rfl, rfl, hc, q _ B H (.same hB) (Dp.int _)⟩
theorem aug_ar0 {op : Operator} {g : Int → Int → Int} {i j : Int} {v w : V} {B H : Hp} (hB : Ex B H) (r1 : Dp X.K B v (.int i)) (r2 : Dp X.K B w (.int j)) {Q : VK} (q : EQ X B H (datP (.int (g i j))) Q) : rI0 (fun i j => .int (g i j)) v w H Q := by
  rw [dp_int r1, dp_int r2]
  exact ⟨i, j, rfl, rfl, q _ B H (.same hB) (Dp.int _)⟩
theorem gx_aug (i : Nat) {x' : Str} {p' : Pos} {op : Operator} (hΓ : Γ[i]? = some (.dat x)) (he : Go X Γ e y) (h : N.nx (Γ.set i (.dat d))) (hN : X.N.Nodup) (ho : AugOk op x y d := by exact ⟨rfl, by walk_at "pside"⟩) (hi : X.N[i]? = some x' := by rfl) (hx : Loc X.env.scope x' := by first | exact .inl rfl | exact .inr rfl)
    (hf : X.fn x' = true ∨ X.env.scope.names.lookup x' = some .local := by first | exact .inl rfl | exact .inr rfl) : RnS X J N Γ (.AugAssign (.Name x' p') op e pos) := by
  cases op <;> cases x <;> cases y <;> (try exact ho.elim) <;> obtain ⟨rfl, ho⟩ := ho
  · exact rs_aug i hΓ he iop_add (fun v w B H hB r1 r2 Q q => aug_ar0 (op := .Add) hB r1 r2 q) h hN hi hx hf
  · exact rs_aug i hΓ he iop_add_str (fun v w B H hB r1 r2 Q q => by
      rw [dp_str r1, dp_str r2]
      exact ⟨_, _, rfl, rfl, ho, q _ B H (.same hB) (Dp.str _)⟩) h hN hi hx hf
  · exact rs_aug i hΓ he iop_sub (fun v w B H hB r1 r2 Q q => aug_ar0 (op := .Sub) hB r1 r2 q) h hN hi hx hf
  · exact rs_aug i hΓ he iop_mul (fun v w B H hB r1 r2 Q q => aug_ar (op := .Mult) (C := CMul) ho hB r1 r2 q) h hN hi hx hf
  · exact rs_aug i hΓ he iop_or (fun v w B H hB r1 r2 Q q => aug_ar0 (op := .BitOr) hB r1 r2 q) h hN hi hx hf
  · exact rs_aug i hΓ he iop_xor (fun v w B H hB r1 r2 Q q => aug_ar0 (op := .BitXor) hB r1 r2 q) h hN hi hx hf
  · exact rs_aug i hΓ he iop_and (fun v w B H hB r1 r2 Q q => aug_ar0 (op := .BitAnd) hB r1 r2 q) h hN hi hx hf
/-! more -/
theorem gog_lst {es : List Expr} {j : Nat} {n : Nat} {ts : List Nat} (hc : X.calm = true) (h : GoGs X Γ es ds Γ2 ts) (hl : ds.length = n := by rfl) (hn : (assignEach es X.env).length = n := by rfl) (hst : (assignEach es X.env).findIdx? (·.1) = none := by rfl) : GoG X Γ (.Tuple es j pos) (.list ds) Γ2 ts := .mk fun σ B H Fs v E r Q q => by
  obtain ⟨a, vs, rfl, h2, h3⟩ := dp_lst r
  exact toG (pg_unl hc sGs hn hst) ⟨a, vs, rfl, E.bh.sl h2, by rw [dps_len h3]; exact hl, h σ B H Fs vs E h3 Q q⟩
def cntI (ds : List D) (k : Int) : Nat := ds.countP fun d => match d with
  | .int z => z == k
  | _ => false
theorem cnt_ints (ns : List Int) (k : Int) : cntI (ns.map .int) k = ns.count k := by
  unfold cntI
  rw [List.countP_map]
  rfl
theorem gx_count {k : Int} {ap : Pos} (ho : Go X Γ a (.list ds)) (he : Go X Γ e (.int k)) (h : IsInts ds := by walk_at "pints") (hbase : attributeBase a "count" X.env (eval a X.env) = eval a X.env := by rfl)
    (hfew : ((backTo pos (starEach [e] X.env)).all (fun x => !x.1) && (backToKw pos (keywordEach [] X.env)).all (fun x => x.1.isSome)
      && decide ([e].length + ([] : List Keyword).length + (if ([] : List Keyword).isEmpty then 0 else 1) < 30)) = true := by rfl)
    (hline : (ap.endLine == pos.line) = true := by rfl) (hs : starEach [e] X.env = (false, eval e X.env) :: starEach [] X.env := by rfl) (hplain : (backTo pos (starEach [] X.env)).any (·.1) = false := by rfl) :
    Go X Γ (.Call (.Attribute a "count" ap) [e] [] pos) (.int (cntI ds k : Nat)) := .mk fun σ B H Fs E Q q => by
  obtain ⟨ns, rfl, _⟩ := ints_of h
  refine toE (pe_bm PySem.F.plainAttrs_list PySem.F.slot_list_count PySem.F.type_list_count mt_lcount sE (pa_cons sE pa_nil hs) hbase hfew hline hs hplain) (ho σ B H Fs E _ fun v B1 H1 n1 r1 => ?_)
  obtain ⟨l, vs, rfl, h2, h3⟩ := dp_lst r1
  refine ⟨.inl ⟨rfl, vs, n1.bh.sl h2⟩, he σ B1 H1 Fs (E.nw n1) _ fun w B2 H2 n2 r2 => ?_⟩
  have n := n1.trans n2
  rw [dps_ints_inv h3] at h2
  refine ⟨l, ns, k, rfl, by rw [dp_int r2], (n2.bb.trans n2.bh).sl h2, ?_⟩
  rw [← cnt_ints]
  exact q _ B2 H2 n (Dp.int _)
theorem rs_setL {i : Nat} {W : List D → Ow} {o kx : Expr} {tpos : Pos} {j : Int} {n : Nat} (ho : GoL X Γ o i ds W) (he : Go X Γ e d) (hk : Go X Γ kx (.int j)) (hj : ixN ds.length j = some n) (h : N.nx (Γ.set i (.ob (W (ds.set n d))))) (hi : i < Γ.length)
    (hs : swapsWithSole [.Subscript o kx tpos] e pos.line X.env = pure false := by rfl) (hw : swappedStores [.Subscript o kx tpos] e X.env = pure none := by rfl)
    (h1 : (assignEach [.Subscript o kx tpos] X.env).map (·.2) = [assign (.Subscript o kx tpos) X.env] := by rfl)
    (ha : ∀ v, assign (.Subscript o kx tpos) X.env v = (do
      let ov ← holding [v] (eval o X.env)
      let iv ← holding [v, ov] (eval kx X.env)
      standAt tpos
      holding [v, ov, iv] (setItem ov iv v)
      release [v, ov, iv] []) := by intro _; rfl) : RnS X J N Γ (.Assign [.Subscript o kx tpos] e pos) := .mk fun B0 σ B H Fs E j' =>
  toS (ps_asg sE (pg_sub sE sE set_list ha) hs hw h1) (he σ B H Fs E _ fun v B1 H1 n1 r1 => ho σ B1 H1 Fs (E.nw n1) _ fun p vs v' B2 H2 n2 hσ hp hH hd up => hk σ B2 H2 Fs ((E.nw n1).nw n2) _ fun w B3 H3 n3 r3 => by
    have n := (n1.trans n2).trans n3
    have sm : ∀ a ∈ Fs i, H3 a = H2 a := fun a ha => by
      cases q : H2 a with
      | none => exact absurd q (((E.nw n1).nw n2).fre i a ha).2
      | some o => exact n3.hh a o q
    refine ⟨p, vs, j, _, rfl, dp_int r3, n3.hh _ _ hH, by rw [dps_len hd]; exact hj, B3, _, _, (E.nw n).chg hi hσ hp (up B3 H3 n3.bb sm _ _ (dps_set (dpUp (n2.bb.trans n3.bb) r1) _ (dpsUp n3.bb hd))), (j'.nw n).upd ?_, h⟩
    rcases j'.fm i p hp with z | z
    · exact .inl z
    · exact .inr z.1)
/-! a comprehension given to a name -/
theorem rs_lcO (i : Nat) {x' : Str} {p' lpos : Pos} {elt : Expr} {ifs : List Expr} {scope : Scope} {α : Type} {xs : List α} {enc : α → D} {q : α → Bool} {f : α → D} (own : List (Str × Nat)) (hc : X.calm = true) (hN : X.N.Nodup) (hi : GoI X Γ tg iter (xs.map enc))
    (body : ∀ (k : Nat) x, xs[k]? = some x → ∃ Γ' ts, (Blk X scope fun X' => GoG X' (wipeG Γ (own.map (·.2))) tg (enc x) Γ' ts) ∧ (Blk X scope fun X' => GoTs X' Γ' ifs (q x)) ∧ (q x = true → Blk X scope fun X' => Go X' Γ' elt (f x)) ∧ (∀ t ∈ ts, t ∈ own.map (·.2)))
    (ok : blkC X.N X.env.scope scope own = true) (hsw : swapsWith (.ListComp elt [⟨tg, iter, ifs, 0⟩] scope lpos) (some (.Name x' p')) pos.line X.env = pure true) (h : N.nx (Γ.set i (.own ((xs.filter q).map f)))) (hz : xs.length < 1000000 := by walk_at "pside") (hx : X.N[i]? = some x' := by rfl) (hyl : X.env.scope.names.lookup x' = some .local := by rfl) (hs : ∀ x, foldedSetIterable iter X.env x = pure x := by intro _; rfl) :
    RnS X J N Γ (.Assign [.Name x' p'] (.ListComp elt [⟨tg, iter, ifs, 0⟩] scope lpos) pos) :=
  rs_ownLc i q f hi (ltZ hz) (fun k x hx => let ⟨Γ', ts, h1, h2, h3, h4⟩ := body k x hx; ⟨Γ', ts, h4, h1, h2, h3⟩) h hc hN (blkOk_by ok) hx hyl hsw hs
theorem rs_lc (i : Nat) {x' : Str} {p' lpos : Pos} {elt : Expr} {ifs : List Expr} {scope : Scope} {α : Type} {xs : List α} {enc : α → D} {q : α → Bool} {f : α → D} (own : List (Str × Nat)) (hc : X.calm = true) (hN : X.N.Nodup) (hi : GoI X Γ tg iter (xs.map enc))
    (body : ∀ (k : Nat) x, xs[k]? = some x → ∃ Γ' ts, (Blk X scope fun X' => GoG X' (wipeG Γ (own.map (·.2))) tg (enc x) Γ' ts) ∧ (Blk X scope fun X' => GoTs X' Γ' ifs (q x)) ∧ (q x = true → Blk X scope fun X' => Go X' Γ' elt (f x)) ∧ (∀ t ∈ ts, t ∈ own.map (·.2)))
    (ok : blkC X.N X.env.scope scope own = true) (hsw : swapsWith (.ListComp elt [⟨tg, iter, ifs, 0⟩] scope lpos) (some (.Name x' p')) pos.line X.env = pure true) (h : N.nx (Γ.set i (.dat (.list ((xs.filter q).map f))))) (hz : xs.length < 1000000 := by walk_at "pside") (hx : X.N[i]? = some x' := by rfl) (hyl : X.env.scope.names.lookup x' = some .local := by rfl) (hs : ∀ x, foldedSetIterable iter X.env x = pure x := by intro _; rfl) :
    RnS X J N Γ (.Assign [.Name x' p'] (.ListComp elt [⟨tg, iter, ifs, 0⟩] scope lpos) pos) := .mk fun B0 σ B H Fs E j =>
  toS (ps_setLc (own := own) hc hN hx hyl hsw sI (blkOk_by ok) (fun s H C cl fp => ⟨fun pins s' σ H v u Q I r h => (h s _ C cl fp) pins s' u I r⟩) (fun s H C cl fp => ⟨fun pins s' σ H Q I h => (h s _ C cl fp) pins s' I⟩) (fun s H C cl fp => ⟨fun pins s' σ H Q I h => (h s _ C cl fp) pins s' I⟩) hs)
    (lc_run q f hi (ltZ hz) (fun k x hx => let ⟨Γ', ts, h1, h2, h3, h4⟩ := body k x hx; ⟨Γ', ts, h4, h1, h2, h3⟩) E (fun x H1 => gName i x σ H1 (N.ends X J B0).nx) fun l us B2 H2 n hl hb hH hd => by
      obtain ⟨e1, e2⟩ := Nw.ice n.bh hb hH
      have n2 : Nw B H (upd B2 l (.lst us)) H2 := ⟨n.bb.trans e1, e2, n.hh, fun a h1 h2 => by
        have : a ≠ l := fun z => h2 (by rw [z]; exact hl)
        rw [upd_ne this]
        exact n.nu a h1 h2⟩
      exact ⟨_, _, _, (E.nw n2).setP (P := datP (.list ((xs.filter q).map f))) i (show Dp _ _ _ _ from .lst (.of upd_same) (dpsUp e1 hd)), (j.nw n2).sub fun _ _ z => off_sub z, h⟩)
theorem rs_lcM (i : Nat) {x' : Str} {p' lpos : Pos} {elt : Expr} {scope : Scope} {α : Type} {xs : List α} {enc : α → D} {f : α → D} (own : List (Str × Nat)) (hc : X.calm = true) (hN : X.N.Nodup) (hi : GoI X Γ tg iter (xs.map enc))
    (body : ∀ (k : Nat) x, xs[k]? = some x → ∃ Γ' ts, (Blk X scope fun X' => GoG X' (wipeG Γ (own.map (·.2))) tg (enc x) Γ' ts) ∧ (Blk X scope fun X' => Go X' Γ' elt (f x)) ∧ (∀ t ∈ ts, t ∈ own.map (·.2)))
    (ok : blkC X.N X.env.scope scope own = true) (hsw : swapsWith (.ListComp elt [⟨tg, iter, [], 0⟩] scope lpos) (some (.Name x' p')) pos.line X.env = pure true) (h : N.nx (Γ.set i (.dat (.list (xs.map f))))) (hz : xs.length < 1000000 := by walk_at "pside") (hx : X.N[i]? = some x' := by rfl) (hyl : X.env.scope.names.lookup x' = some .local := by rfl) (hs : ∀ x, foldedSetIterable iter X.env x = pure x := by intro _; rfl) :
    RnS X J N Γ (.Assign [.Name x' p'] (.ListComp elt [⟨tg, iter, [], 0⟩] scope lpos) pos) :=
  rs_lc i (q := fun _ => true) own hc hN hi (fun k x hx => let ⟨Γ', ts, h1, h2, h4⟩ := body k x hx; ⟨Γ', ts, h1, fun _ _ _ _ _ => goTs_nil, fun _ => h2, h4⟩) ok hsw (by rw [List.filter_eq_self.mpr fun _ _ => rfl]; exact h) hz hx hyl hs
theorem rs_lcMO (i : Nat) {x' : Str} {p' lpos : Pos} {elt : Expr} {scope : Scope} {α : Type} {xs : List α} {enc : α → D} {f : α → D} (own : List (Str × Nat)) (hc : X.calm = true) (hN : X.N.Nodup) (hi : GoI X Γ tg iter (xs.map enc))
    (body : ∀ (k : Nat) x, xs[k]? = some x → ∃ Γ' ts, (Blk X scope fun X' => GoG X' (wipeG Γ (own.map (·.2))) tg (enc x) Γ' ts) ∧ (Blk X scope fun X' => Go X' Γ' elt (f x)) ∧ (∀ t ∈ ts, t ∈ own.map (·.2)))
    (ok : blkC X.N X.env.scope scope own = true) (hsw : swapsWith (.ListComp elt [⟨tg, iter, [], 0⟩] scope lpos) (some (.Name x' p')) pos.line X.env = pure true) (h : N.nx (Γ.set i (.own (xs.map f)))) (hz : xs.length < 1000000 := by walk_at "pside") (hx : X.N[i]? = some x' := by rfl) (hyl : X.env.scope.names.lookup x' = some .local := by rfl) (hs : ∀ x, foldedSetIterable iter X.env x = pure x := by intro _; rfl) :
    RnS X J N Γ (.Assign [.Name x' p'] (.ListComp elt [⟨tg, iter, [], 0⟩] scope lpos) pos) :=
  rs_lcO i (q := fun _ => true) own hc hN hi (fun k x hx => let ⟨Γ', ts, h1, h2, h4⟩ := body k x hx; ⟨Γ', ts, h1, fun _ _ _ _ _ => goTs_nil, fun _ => h2, h4⟩) ok hsw (by rw [List.filter_eq_self.mpr fun _ _ => rfl]; exact h) hz hx hyl hs
end
/-! ### lists of small ints, by place -/
def nthI (ds : List D) (i : Int) : Int := match atI ds i with
  | some (.int z) => z
  | _ => 0
theorem IntsD.at {p : Int → Prop} {n : Nat} {ds : List D} {i : Int} (h : IntsD p n ds) (hi : 0 ≤ i ∧ i < (n : Int)) : atI ds i = some (.int (nthI ds i)) := by
  obtain ⟨ns, rfl, h1, h2⟩ := h
  have hl : i.toNat < ns.length := by omega
  have e : atI (ns.map PyData.int) i = some (.int ns[i.toNat]) := atI_get' (k := i.toNat) (by rw [List.getElem?_map, List.getElem?_eq_getElem hl]; rfl) (by omega)
  rw [e]
  unfold nthI
  rw [e]
theorem IntsD.has {p : Int → Prop} {n : Nat} {ds : List D} {i : Int} (h : IntsD p n ds) (hi : 0 ≤ i ∧ i < (n : Int)) : p (nthI ds i) := by
  have e := h.at hi
  obtain ⟨ns, rfl, h1, h2⟩ := h
  have hl : i.toNat < ns.length := by omega
  have e2 : atI (ns.map PyData.int) i = some (.int ns[i.toNat]) := atI_get' (k := i.toNat) (by rw [List.getElem?_map, List.getElem?_eq_getElem hl]; rfl) (by omega)
  rw [e] at e2
  have e3 := Option.some.inj e2
  injection e3 with e3
  rw [e3]
  exact h2 _ (List.getElem_mem hl)
/-! ### the law -/
abbrev spLaw (K : PySem.W.Frag) : Sp := spF K (fun ns : List Int => ns.length ≤ 63) (fun ns => [datP (.list (ns.map .int))]) fun _ => datP (.bool true)
theorem law_sp {K : PySem.W.Frag} {H : Hp} {a : Addr} {ns : List Int} {E : XK} (hl : ns.length ≤ 63) (hS : SqL K H a (ns.map V.int)) : spLaw K [.ref a] H (fun v _ => v = .bl true) E :=
  ⟨ns, H, hl, Ex.refl _, .cons (show Dp _ _ _ _ from .lst hS (dps_ints ns)) .nil, fun _ _ _ _ r => dp_bl r⟩
local macro_rules | `(tactic| walk_at "pix") => `(tactic| first | exact rfl | assumption | exact atI_nat (by assumption) | exact atI_get' (by assumption) (by omega))
local macro_rules | `(tactic| walk_at "ptru") => `(tactic| exact ⟨fun _ h => (nomatch h), fun _ h => (nomatch h)⟩)
end PL

set_option maxHeartbeats 2000000
namespace PL
open PySem PySem.Spec PyProof.Rows L2
section
variable {X : Cx} {J : Jd} {N : Nd} {Γ : Ga} {sts : List Stmt}
theorem rn_is (i : Nat) {s s' : Sl} (hΓ : Γ[i]? = some s) (e : s = s') (h : Rn X J N (Γ.set i s') sts) : Rn X J N Γ sts := by
  subst e
  have : Γ.set i s = Γ := by
    refine List.ext_getElem? fun j => ?_
    rw [List.getElem?_set]
    by_cases q : i = j
    · subst q
      have := (List.getElem?_eq_some_iff.mp hΓ).1
      rw [if_pos rfl, if_pos this, hΓ]
    · rw [if_neg q]
  rw [this] at h
  exact h
end
theorem take_push {α : Type} {l : List α} {j : Nat} {x : α} (h : l[j]? = some x) : l.take (j + 1) = l.take j ++ [x] := by
  rw [List.take_add_one, h]
  rfl
end PL

set_option maxHeartbeats 2000000
namespace PL
open PySem PySem.Spec PyProof.Rows L2 PySem.Calls PySem.W
/-! ### len(set(xs)) of ints, all of them different -/
section
variable {X : Cx} {Γ : Ga} {a : Expr} {p p2 q pos : Pos}
def tLenSetW (K : PySem.W.Frag) (ta : TE) : TE := fun σ H Q => ta σ H fun x H1 => ∃ (l : Addr) (ns : List Int), x = V.ref l ∧ SqL K H1 l (ns.map V.int) ∧ ns.length < 4000 ∧ ns.Nodup ∧ Q (.int ns.length) H1
theorem pe_lenSetW {ta : TE} (hc : X.calm = true) (hg : Gl X "len") (hm : X.mg "len" = none) (hg2 : Gl X "set") (hm2 : X.mg "set" = none) (ha : PE X a ta)
    (na : starEach [a] X.env = (false, eval a X.env) :: starEach [] X.env := by rfl) : PE X (.Call (.Name "len" p) [.Call (.Name "set" p2) [a] [] q] [] pos) (tLenSetW X.K ta) := by
  refine ⟨fun pins s σ H Q I h => ?_⟩
  refine Call_ (ld_blt I hg hm PySem.boot_len ?_)
  refine PyProof.Rows.callWith_builtin1 (PyProof.Rows.args_cons ?_ rfl) rfl rfl
  refine Call_ (ld_blt I hg2 hm2 PyProof.Rows.boot_set ?_)
  refine PyProof.Rows.callWith_type1 (PyProof.Rows.args_cons (thn (ha.run pins s σ H _ I h) fun v s1 ⟨x, H1, I1, r1, q1⟩ => PyProof.Rows.args_nil ?_) na) na rfl
  obtain ⟨l, ns, rfl, hq, h1, hnd, q1⟩ := q1
  cases r1
  obtain ⟨its, r, pl, hz⟩ := I1.list hq
  have hl : its.toArray.size = ns.length := by rw [List.size_toArray, ← r.length, List.length_map]
  refine PySem.call_set_list (I1.ok.hd hc) pl.isList (ns := ns) (by simpa using r.ints) (by unfold scanBound; omega) fun h' tk hS hk => ?_
  rw [hl, firstMet_nodup ns hnd ns.length (Nat.le_refl _), List.take_length] at hS
  refine PyProof.Rows.args_nil ?_
  obtain ⟨o, es, ep, t, ho, hex, hd, _, _, _, hf, hn⟩ := hS
  have I2 : Inv X pins σ H1 { s1 with heap := h', toks := tk } := I1.kept fun b o e => hk b o (Heap.lt_size e) e
  refine PySem.call_len_set ho hex hd hf (by rw [hn] <;> omega) ⟨.int ns.length, H1, I2.tok _, ⟨_, by rw [hn]⟩, q1⟩
theorem go_lenSet {ns : List Int} (hc : X.calm = true) (ha : Go X Γ a (.list (ns.map .int))) (hm : X.mg "len" = none) (hm2 : X.mg "set" = none) (hl : ns.length < 4000) (hnd : ns.Nodup) (hg : Gl X "len" := by rfl) (hg2 : Gl X "set" := by rfl)
    (na : starEach [a] X.env = (false, eval a X.env) :: starEach [] X.env := by rfl) : Go X Γ (.Call (.Name "len" p) [.Call (.Name "set" p2) [a] [] q] [] pos) (.int ns.length) := .mk fun σ B H Fs E Q q0 =>
  toE (pe_lenSetW hc hg hm hg2 hm2 sE na) (ha σ B H Fs E _ fun v B1 H1 n1 r1 => by
    obtain ⟨p, us, rfl, h2, h3⟩ := dp_lst r1
    rw [dps_ints_inv h3] at h2
    exact ⟨p, ns, rfl, n1.bh.sl h2, hl, hnd, q0 _ B1 H1 n1 (Dp.int _)⟩)
/-! ### sorted(xs) of ints -/
theorem le_perm_eq : ∀ {l m : List Int}, l.Perm m → l.Pairwise (· ≤ ·) → m.Pairwise (· ≤ ·) → l = m
  | [], m, h, _, _ => (List.Perm.nil_eq h)
  | a :: l, [], h, _, _ => absurd h.length_eq (by simp)
  | a :: l, b :: m, h, h1, h2 => by
    have e : a = b := by
      have m1 : a ∈ b :: m := h.subset List.mem_cons_self
      have m2 : b ∈ a :: l := h.symm.subset List.mem_cons_self
      rcases List.mem_cons.mp m1 with e | m1
      · exact e
      · rcases List.mem_cons.mp m2 with e | m2
        · exact e.symm
        · have := (List.pairwise_cons.mp h1).1 _ m2
          have := (List.pairwise_cons.mp h2).1 _ m1
          omega
    subst e
    rw [le_perm_eq ((List.perm_cons a).mp h) (List.pairwise_cons.mp h1).2 (List.pairwise_cons.mp h2).2]
theorem goN_sortI {ns ns' : List Int} (ha : Go X Γ a (.list (ns.map .int))) (hm : X.mg "sorted" = none) (h1 : ns'.Perm ns) (h2 : ns'.Pairwise (· ≤ ·)) (hg : Gl X "sorted" := by rfl) (he : starEach [a] X.env = (false, eval a X.env) :: starEach [] X.env := by rfl) :
    GoN X Γ (.Call (.Name "sorted" p) [a] [] pos) (ns'.map .int) :=
  goN_callB cr_sortedI hg hm PyProof.Rows.boot_sorted (goA_cons ha goA_nil he) (fun vs B H hB r Q q => by
    obtain ⟨v, rfl, h⟩ := mn1 r
    obtain ⟨p, us, rfl, h3, h4⟩ := dp_lst h
    rw [dps_ints_inv h4] at h3
    refine ⟨p, ns, rfl, hB.sl h3, fun ms l e1 e2 hl => ?_⟩
    rw [le_perm_eq (e1.trans h1.symm) e2 h2]
    exact q l _ hl (dps_ints _)) (by decide) (by decide) he rfl
/-! ### xs.index(x) of data -/
theorem go_indexD {ds : List D} {d : D} {e : Expr} {ap : Pos} (hu : UOk X) (ho : Go X Γ a (.list ds)) (he : Go X Γ e d) (h1 : SeqAt.shaped (.list ds) = true) (h2 : SeqAt.shaped d = true) (h3 : (ds.findIdx fun z => PyData.eqv z d) < ds.length) (hbase : attributeBase a "index" X.env (eval a X.env) = eval a X.env := by rfl)
    (hfew : ((backTo pos (starEach [e] X.env)).all (fun x => !x.1) && (backToKw pos (keywordEach [] X.env)).all (fun x => x.1.isSome)
      && decide ([e].length + ([] : List Keyword).length + (if ([] : List Keyword).isEmpty then 0 else 1) < 30)) = true := by rfl)
    (hline : (ap.endLine == pos.line) = true := by rfl) (hs : starEach [e] X.env = (false, eval e X.env) :: starEach [] X.env := by rfl) (hplain : (backTo pos (starEach [] X.env)).any (·.1) = false := by rfl) :
    Go X Γ (.Call (.Attribute a "index" ap) [e] [] pos) (.int ((ds.findIdx fun z => PyData.eqv z d : Nat) : Int)) := .mk fun σ B H Fs E Q q => by
  refine toE (pe_bm PySem.F.plainAttrs_list PySem.F.slot_list_index PySem.F.type_list_index (mt_indexD hu.u65) sE (pa_cons sE pa_nil hs) hbase hfew hline hs hplain) (ho σ B H Fs E _ fun v B1 H1 n1 r1 => ?_)
  obtain ⟨l, vs, rfl, h4, h5⟩ := dp_lst r1
  refine ⟨.inl ⟨rfl, vs, n1.bh.sl h4⟩, he σ B1 H1 Fs (E.nw n1) _ fun w B2 H2 n2 r2 => ?_⟩
  have n := n1.trans n2
  exact ⟨l, w, d, ds, _, ds[ds.findIdx fun z => PyData.eqv z d], rfl, rfl, dpUp (n2.bb.trans n2.bh) r1, dpUp n2.bh r2, h1, h2, List.getElem?_eq_getElem h3, List.findIdx_getElem (w := h3), fun m z' hm hz => by
    have hml : m < ds.length := Nat.lt_trans hm h3
    have := List.not_of_lt_findIdx hm
    rw [List.getElem?_eq_getElem hml] at hz
    rw [← Option.some.inj hz]
    simpa using this, q _ B2 H2 n (Dp.int _)⟩
end
end PL

set_option maxHeartbeats 2000000
namespace PL
open PySem PySem.Spec PyProof.Rows L2 PySem.Calls PySem.W
/-! ### shapes -/
theorem Shp.str {x : Str} (n : Nat) (h : PyData.strOk x = true := by decide +kernel) : Shp n (.str x) := ⟨h, Nat.zero_le _⟩
theorem Shp.tints (ns : List Int) (n : Nat) : Shp (n + 1) (.tuple (ns.map .int)) := Shp.tup fun d hd => by
  obtain ⟨i, _, rfl⟩ := List.mem_map.mp hd
  exact Shp.int i n
theorem ShpA.nil {n : Nat} : ∀ d ∈ ([] : List D), Shp n d := fun d h => nomatch h
theorem ShpA.cons {n : Nat} {d : D} {ds : List D} (h : Shp n d) (t : ∀ x ∈ ds, Shp n x) : ∀ x ∈ d :: ds, Shp n x := fun x hx => by
  rcases List.mem_cons.mp hx with rfl | hx
  · exact h
  · exact t x hx
/-! ### sum and min of a tuple of ints; a tuple's slice -/
def rSumT (K : PySem.W.Frag) : List V → Hp → VK → Prop := fun vs H Q => ∃ (a : Addr) (ns : List Int), vs = [V.ref a] ∧ SqT K H a (ns.map V.int) ∧ Q (.int ns.sum) H
def rMinT (K : PySem.W.Frag) : List V → Hp → VK → Prop := fun vs H Q => ∃ (a : Addr) (n : Int) (ns : List Int), vs = [V.ref a] ∧ SqT K H a ((n :: ns).map V.int) ∧ Q (.int (ns.foldl min n)) H
section
variable {X : Cx} {Γ : Ga} {a : Expr} {p pos : Pos}
theorem cr_sumT (hc : X.calm = true) : CallR X (.builtin "sum") (rSumT X.K) := by
  intro pins s σ H vs us Q I r h
  obtain ⟨a, ns, rfl, hs, q⟩ := h
  obtain ⟨its, rv, ht, _⟩ := I.tuple hs
  rw [Vals.ref1 r]
  have hi := rv.ints
  obtain ⟨xs, e⟩ := hi.allInts.items
  have hn : numsOf (intItems xs).toList = ns := by rw [← e]; exact hi.numsOf
  rw [nums_intItems] at hn
  rw [e] at ht
  refine PySem.W.ktm_sumG (I.ok.hd hc) ht fun h' tk t' hk => ⟨.int _, H, I.kept hk, ?_, q⟩
  rw [preSum_eq, List.take_of_length_le (by simp), hn]
  exact ⟨_, rfl⟩
theorem ints_depth : ∀ ns : List Int, PyData.depthAll (ns.map PyData.int) ≤ 1
  | [] => by simp [PyData.depthAll]
  | n :: r => by
    have := ints_depth r
    simp only [List.map_cons, PyData.depthAll, PyData.depth]
    omega
theorem ints_alike (ns : List Int) : AlikeAll (ns.map PyData.int) := by
  refine ⟨fun x hx y hy => ?_, fun x hx => ?_⟩
  · obtain ⟨i, _, rfl⟩ := List.mem_map.mp hx
    obtain ⟨j, _, rfl⟩ := List.mem_map.mp hy
    rfl
  · obtain ⟨i, _, rfl⟩ := List.mem_map.mp hx
    exact fun h => nomatch h
theorem cr_minT (hu : UOk X) (hc : X.calm = true) : CallR X (.builtin "min") (rMinT X.K) := by
  intro pins s σ H vs us Q I r h
  obtain ⟨a, n, ns, rfl, hs, q⟩ := h
  obtain ⟨its, rv, ht, _⟩ := I.tuple hs
  rw [Vals.ref1 r]
  obtain ⟨as, hr⟩ := Dp.readsAll I _ _ its (dps_ints (n :: ns)) rv
  refine min_tuple_data (I.ok.hd hc) ht hr (ints_alike (n :: ns)) ?_ fun i v h' tk bs hv hR hk => ⟨.int _, H, I.kept hk, ?_, q⟩
  · have := ints_depth (n :: ns)
    have := hu.u65
    have h2 : PyData.depthAll (PyData.int n :: ns.map PyData.int) ≤ 1 := ints_depth (n :: ns)
    omega
  · rw [minD_ints] at hR
    cases hR
    exact ⟨_, rfl⟩
theorem go_sumT {ns : List Int} (hc : X.calm = true) (ha : Go X Γ a (.tuple (ns.map .int))) (hm : X.mg "sum" = none) (hg : Gl X "sum" := by rfl) (he : starEach [a] X.env = (false, eval a X.env) :: starEach [] X.env := by rfl) : Go X Γ (.Call (.Name "sum" p) [a] [] pos) (.int ns.sum) :=
  go_callB (cr_sumT hc) hg hm PyProof.Rows.boot_sum (goA_cons ha goA_nil he) (fun vs B H hB r Q q => by
    obtain ⟨v, rfl, h⟩ := mn1 r
    obtain ⟨p, us, rfl, h2, h3⟩ := dp_tup h
    rw [dps_ints_inv h3] at h2
    exact ⟨p, ns, rfl, hB.st h2, q _ B H (.same hB) (Dp.int _)⟩) (by decide) (by decide) he rfl
theorem go_minT {n : Int} {ns : List Int} (hu : UOk X) (hc : X.calm = true) (ha : Go X Γ a (.tuple ((n :: ns).map .int))) (hm : X.mg "min" = none) (hg : Gl X "min" := by rfl) (he : starEach [a] X.env = (false, eval a X.env) :: starEach [] X.env := by rfl) : Go X Γ (.Call (.Name "min" p) [a] [] pos) (.int (ns.foldl min n)) :=
  go_callB (cr_minT hu hc) hg hm PyProof.Rows.boot_min (goA_cons ha goA_nil he) (fun vs B H hB r Q q => by
    obtain ⟨v, rfl, h⟩ := mn1 r
    obtain ⟨p, us, rfl, h2, h3⟩ := dp_tup h
    rw [dps_ints_inv h3] at h2
    exact ⟨p, n, ns, rfl, hB.st h2, q _ B H (.same hB) (Dp.int _)⟩) (by decide) (by decide) he rfl
theorem slD_whole {ds : List D} {lo hi : Option Int} (hw : HT.sIx ds.length 0 lo = 0 ∧ HT.sIx ds.length ds.length hi = ds.length) : slD ds lo hi = ds := by
  unfold slD
  rw [hw.1, hw.2, List.drop_zero, Nat.sub_zero, List.take_length]
theorem go_slT {ds : List D} {lo hi : Option Expr} {x y : Option Int} {p2 : Pos} (ha : Go X Γ a (.tuple ds)) (hl : GoO X Γ lo x) (hh : GoO X Γ hi y) : Go X Γ (.Subscript a (.Slice lo hi none p2) pos) (.tuple (slD ds x y)) := .mk fun σ B H Fs E Q q =>
  toE (pe_slice sl_tupA sE sO sO) (ha σ B H Fs E _ fun v B1 H1 n1 r1 => goO_run hl (E.nw n1) fun B2 H2 n2 => goO_run hh ((E.nw n1).nw n2) fun B3 H3 n3 => by
    have r3 := dpUp (n2.bb.trans n3.bb) r1
    obtain ⟨p, vs, e1, e2, e3⟩ := dp_tup r3
    have n := (n1.trans n2).trans n3
    subst e1
    refine ⟨p, vs, rfl, n3.bh.st e2, fun hw => ?_, fun hw l hl => ?_⟩
    · rw [dps_len e3] at hw
      rw [slD_whole hw] at q
      exact q _ B3 H3 n r3
    · have m := Nw.new (o := .tup (cutV vs x y)) n.bh hl
      exact q _ _ _ (n.trans m) (Dp.tup (.of upd_same) (dpsUp m.bb (dps_cut e3 x y))))
end
end PL

set_option maxHeartbeats 2000000
namespace PL
open PySem PySem.Spec PyProof.Rows L2
/-! ### numbers by their places -/
theorem tb_add {x i : Nat} (h : x.testBit i = false) (j : Nat) : (2 ^ i + x).testBit j = (decide (i = j) || x.testBit j) := by
  have hp : 0 < 2 ^ i := Nat.two_pow_pos i
  have hb : x % 2 ^ (i + 1) < 2 ^ i := by
    have h1 : (x % 2 ^ (i + 1)).testBit i = false := by
      rw [Nat.testBit_mod_two_pow, h, Bool.and_false]
    have h2 : x % 2 ^ (i + 1) < 2 ^ (i + 1) := Nat.mod_lt _ (Nat.two_pow_pos _)
    by_cases h3 : x % 2 ^ (i + 1) < 2 ^ i
    · exact h3
    · have := Nat.testBit_of_two_pow_le_and_two_pow_add_one_gt (Nat.le_of_not_lt h3) h2
      rw [this] at h1
      cases h1
  have e : x = 2 ^ (i + 1) * (x / 2 ^ (i + 1)) + x % 2 ^ (i + 1) := (Nat.div_add_mod x _).symm
  generalize x / 2 ^ (i + 1) = a at e
  generalize x % 2 ^ (i + 1) = b at e hb
  have hb2 : 2 ^ i + b < 2 ^ (i + 1) := by
    rw [Nat.pow_succ]
    omega
  have hb3 : b < 2 ^ (i + 1) := by
    rw [Nat.pow_succ]
    omega
  rw [show 2 ^ i + x = 2 ^ (i + 1) * a + (2 ^ i + b) by omega, Nat.testBit_two_pow_mul_add a hb2 j, e, Nat.testBit_two_pow_mul_add a hb3 j]
  by_cases hj : j < i + 1
  · rw [if_pos hj, if_pos hj, show 2 ^ i + b = 2 ^ i * 1 + b by omega, Nat.testBit_two_pow_mul_add 1 hb j]
    by_cases hi : j < i
    · rw [if_pos hi, decide_eq_false (by omega : ¬ i = j), Bool.false_or]
    · have : i = j := by omega
      subst this
      rw [if_neg hi, Nat.sub_self, decide_eq_true rfl, Bool.true_or]
      rfl
  · rw [if_neg hj, if_neg hj, decide_eq_false (by omega : ¬ i = j), Bool.false_or]
/-- the number with 1 at the places ps -/
def ofP (ps : List Nat) : Nat := (ps.map fun p => 2 ^ p).sum
theorem tb_ofP : ∀ {ps : List Nat}, ps.Nodup → ∀ q, (ofP ps).testBit q = decide (q ∈ ps)
  | [], _, q => by
    rw [show ofP [] = 0 from rfl, Nat.zero_testBit]
    exact (decide_eq_false (by simp)).symm
  | p :: r, h, q => by
    have hn := List.nodup_cons.mp h
    have ih := tb_ofP hn.2
    have h0 : (ofP r).testBit p = false := by
      rw [ih]
      exact decide_eq_false hn.1
    rw [show ofP (p :: r) = 2 ^ p + ofP r from by unfold ofP; rw [List.map_cons, List.sum_cons], tb_add h0, ih]
    by_cases e : p = q
    · subst e
      simp
    · have : ¬ q = p := fun z => e z.symm
      simp [e, this]
theorem ofP_lt {ps : List Nat} {n : Nat} (h : ps.Nodup) (hl : ∀ p ∈ ps, p < n) : ofP ps < 2 ^ n := Nat.lt_pow_two_of_testBit _ fun i hi => by
  rw [tb_ofP h]
  exact decide_eq_false fun z => by
    have := hl i z
    omega
/-- the places of a number below 2 ^ n -/
def bitsOf (n N : Nat) : List Nat := (List.range n).filter fun p => N.testBit p
theorem bitsOf_nodup (n N : Nat) : (bitsOf n N).Nodup := List.nodup_range.filter _
theorem bitsOf_mem {n N p : Nat} : p ∈ bitsOf n N ↔ p < n ∧ N.testBit p = true := by
  unfold bitsOf
  rw [List.mem_filter, List.mem_range]
theorem ofP_bits {n N : Nat} (h : N < 2 ^ n) : ofP (bitsOf n N) = N := Nat.eq_of_testBit_eq fun i => by
  rw [tb_ofP (bitsOf_nodup n N)]
  by_cases hi : i < n
  · cases q : N.testBit i with
    | true => exact decide_eq_true (bitsOf_mem.mpr ⟨hi, q⟩)
    | false =>
      exact decide_eq_false (fun z => Bool.noConfusion (q.symm.trans (bitsOf_mem.mp z).2))
  · rw [Nat.testBit_lt_two_pow (Nat.lt_of_lt_of_le h (Nat.pow_le_pow_right (by decide) (Nat.le_of_not_lt hi)))]
    exact decide_eq_false fun z => hi (bitsOf_mem.mp z).1
theorem ofP_same {ps qs : List Nat} (h1 : ps.Nodup) (h2 : qs.Nodup) (h : ∀ p, p ∈ ps ↔ p ∈ qs) : ofP ps = ofP qs := Nat.eq_of_testBit_eq fun i => by
  rw [tb_ofP h1, tb_ofP h2]
  exact decide_eq_decide.mpr (h i)
theorem dig_tb (N p : Nat) : (((N : Int) / 2 ^ p % 2 : Int)) = if N.testBit p = true then 1 else 0 := by
  rw [Nat.testBit_eq_decide_div_mod_eq]
  have e : ((N : Int) / 2 ^ p % 2 : Int) = ((N / 2 ^ p % 2 : Nat) : Int) := by
    rw [Int.natCast_emod, Int.natCast_ediv, Int.natCast_pow]
    rfl
  rw [e]
  have : N / 2 ^ p % 2 < 2 := Nat.mod_lt _ (by decide)
  by_cases h : N / 2 ^ p % 2 = 1
  · rw [if_pos (decide_eq_true h), h]
    rfl
  · rw [if_neg (by simpa using h), show N / 2 ^ p % 2 = 0 by omega]
    rfl
theorem pow_cast (p : Nat) : ((2 : Int) ^ p) = ((2 ^ p : Nat) : Int) := by
  rw [Int.natCast_pow]
  rfl
/-- the sum of the steps of places -/
theorem sum_steps (ps : List Nat) : sumI (ps.map fun p => PyData.int ((2 : Int) ^ p)) = ((ofP ps : Nat) : Int) := by
  induction ps with
  | nil => rfl
  | cons p r ih =>
    show (2 : Int) ^ p + sumI (r.map fun p => PyData.int ((2 : Int) ^ p)) = _
    rw [ih, pow_cast, ← Int.natCast_add]
    unfold ofP
    rw [List.map_cons, List.sum_cons]
/-- a range of ints is one of nats -/
theorem rng0 (n : Nat) : rngI 0 (n : Int) = (List.range n).map fun i => ((i : Nat) : Int) := by
  unfold rngI
  rw [show ((n : Int) - 0).toNat = n by omega]
  exact List.map_congr_left fun i _ => Int.zero_add _
end PL

set_option maxHeartbeats 2000000
namespace PL
open PySem PySem.Spec PyProof.Rows L2
/-! ### rows, their digits, their spot -/
def dig (n : Nat) : List Nat := bitsOf 64 n
def xs : List Nat → Nat
  | [] => 0
  | p :: r => p ^^^ xs r
def spN (n : Nat) : Nat := xs (dig n)
theorem dig_nodup (n : Nat) : (dig n).Nodup := bitsOf_nodup 64 n
theorem dig_mem {n p : Nat} : p ∈ dig n ↔ p < 64 ∧ n.testBit p = true := bitsOf_mem
theorem dig_is {n m : Nat} (h : n < 2 ^ m) (hm : m ≤ 64) : bitsOf m n = dig n := by
  unfold dig bitsOf
  have e : List.range 64 = List.range m ++ (List.range (64 - m)).map (m + ·) := by
    rw [← List.range_add]
    congr 1
    omega
  rw [e, List.filter_append]
  have : ((List.range (64 - m)).map (m + ·)).filter (fun p => n.testBit p) = [] := by
    refine List.filter_eq_nil_iff.mpr fun p hp => ?_
    obtain ⟨i, _, rfl⟩ := List.mem_map.mp hp
    rw [Nat.testBit_lt_two_pow (Nat.lt_of_lt_of_le h (Nat.pow_le_pow_right (by decide) (Nat.le_add_right m i)))]
    exact Bool.false_ne_true
  rw [this, List.append_nil]
theorem ofP_dig {n : Nat} (h : n < 2 ^ 64) : ofP (dig n) = n := ofP_bits h
theorem xor_left (a b c : Nat) : a ^^^ (b ^^^ c) = b ^^^ (a ^^^ c) := by rw [← Nat.xor_assoc, Nat.xor_comm a b, Nat.xor_assoc]
theorem xs_perm {l m : List Nat} (h : l.Perm m) : xs l = xs m := by
  induction h with
  | nil => rfl
  | cons x _ ih => exact congrArg (x ^^^ ·) ih
  | swap x y l => exact xor_left y x (xs l)
  | trans _ _ h1 h2 => exact h1.trans h2
theorem xs_app (l m : List Nat) : xs (l ++ m) = xs l ^^^ xs m := by
  induction l with
  | nil => exact (Nat.zero_xor _).symm
  | cons p r ih => rw [List.cons_append, xs, xs, ih, Nat.xor_assoc]
theorem xs_lt {l : List Nat} {k : Nat} (h : ∀ p ∈ l, p < 2 ^ k) : xs l < 2 ^ k := by
  induction l with
  | nil => exact Nat.two_pow_pos k
  | cons p r ih => exact Nat.xor_lt_two_pow (h p List.mem_cons_self) (ih fun q hq => h q (List.mem_cons_of_mem _ hq))
theorem dig_ofP {l : List Nat} (nd : l.Nodup) (h : ∀ p ∈ l, p < 64) : (dig (ofP l)).Perm l :=
  (List.perm_ext_iff_of_nodup (dig_nodup _) nd).mpr fun p => by
    rw [dig_mem, tb_ofP nd]
    simp only [decide_eq_true_eq]
    exact ⟨fun z => z.2, fun z => ⟨h p z, z⟩⟩
theorem sp_ofP {l : List Nat} (nd : l.Nodup) (h : ∀ p ∈ l, p < 64) : spN (ofP l) = xs l := xs_perm (dig_ofP nd h)
theorem len_ofP {l : List Nat} (nd : l.Nodup) (h : ∀ p ∈ l, p < 64) : (dig (ofP l)).length = l.length := (dig_ofP nd h).length_eq
theorem tb_flip (n p i : Nat) : (n ^^^ 2 ^ p).testBit i = (n.testBit i != decide (p = i)) := by rw [Nat.testBit_xor, Nat.testBit_two_pow]
theorem dig_flip_in {n p : Nat} (hp : p < 64) (h : n.testBit p = true) : (dig n).Perm (p :: dig (n ^^^ 2 ^ p)) := by
  refine (List.perm_ext_iff_of_nodup (dig_nodup _) (List.nodup_cons.mpr ⟨fun z => ?_, dig_nodup _⟩)).mpr fun i => ?_
  · have := (dig_mem.mp z).2
    rw [tb_flip, h] at this
    simp at this
  · rw [List.mem_cons, dig_mem, dig_mem, tb_flip]
    by_cases e : p = i
    · subst e
      simp [h, hp]
    · simp [e, Ne.symm e]
theorem xor_twice (n m : Nat) : (n ^^^ m) ^^^ m = n := by rw [Nat.xor_assoc, Nat.xor_self, Nat.xor_zero]
theorem dig_flip_out {n p : Nat} (hp : p < 64) (h : n.testBit p = false) : (dig (n ^^^ 2 ^ p)).Perm (p :: dig n) := by
  have := dig_flip_in (n := n ^^^ 2 ^ p) hp (by rw [tb_flip, h]; simp)
  rwa [xor_twice] at this
theorem sp_flip {n p : Nat} (hp : p < 64) : spN (n ^^^ 2 ^ p) = spN n ^^^ p := by
  cases h : n.testBit p with
  | true =>
    have := xs_perm (dig_flip_in hp h)
    show xs _ = xs _ ^^^ p
    rw [this, xs, Nat.xor_comm p, xor_twice]
  | false =>
    have := xs_perm (dig_flip_out hp h)
    show xs _ = xs _ ^^^ p
    rw [this, xs, Nat.xor_comm p]
theorem par_flip {n p : Nat} (hp : p < 64) : (dig (n ^^^ 2 ^ p)).length % 2 = ((dig n).length + 1) % 2 := by
  cases h : n.testBit p with
  | true =>
    have := (dig_flip_in hp h).length_eq
    rw [List.length_cons] at this
    omega
  | false =>
    have := (dig_flip_out hp h).length_eq
    rw [List.length_cons] at this
    omega
theorem ofP_cons {p : Nat} {l : List Nat} (nd : (p :: l).Nodup) : ofP (p :: l) = ofP l ^^^ 2 ^ p := Nat.eq_of_testBit_eq fun i => by
  have hp := (List.nodup_cons.mp nd).1
  rw [tb_flip, tb_ofP nd, tb_ofP (List.nodup_cons.mp nd).2]
  by_cases e : p = i
  · subst e
    simp [hp]
  · simp [e, Ne.symm e]
theorem sp_xorP {l : List Nat} (nd : l.Nodup) (h : ∀ p ∈ l, p < 64) (n : Nat) : spN (n ^^^ ofP l) = spN n ^^^ xs l ∧ (dig (n ^^^ ofP l)).length % 2 = ((dig n).length + l.length) % 2 := by
  induction l with
  | nil =>
    have e : ofP [] = 0 := rfl
    rw [e, Nat.xor_zero]
    exact ⟨(Nat.xor_zero _).symm, rfl⟩
  | cons p r ih =>
    obtain ⟨i1, i2⟩ := ih (List.nodup_cons.mp nd).2 fun q hq => h q (List.mem_cons_of_mem _ hq)
    have hp := h p List.mem_cons_self
    rw [ofP_cons nd, ← Nat.xor_assoc, sp_flip hp, i1, par_flip hp]
    refine ⟨?_, ?_⟩
    · rw [xs, Nat.xor_assoc, Nat.xor_comm p]
    · rw [List.length_cons]
      omega
theorem sp_xor {n m : Nat} (h : m < 2 ^ 64) : spN (n ^^^ m) = spN n ^^^ spN m ∧ (dig (n ^^^ m)).length % 2 = ((dig n).length + (dig m).length) % 2 := by
  have := sp_xorP (dig_nodup m) (fun p hp => (dig_mem.mp hp).1) n
  rwa [ofP_dig h] at this
/-! ### words -/
def tO (b : Nat) : Nat := if b ≤ 4 then 2 else if b ≤ 11 then 3 else if b ≤ 26 then 4 else 5
def pls (b : Nat) : Nat := b + tO b + 2
def pws (t : Nat) : List Nat := (List.range (t + 1)).map fun k => 2 ^ k
def chks (b : Nat) : List Nat := 0 :: pws (tO b)
def dat (b : Nat) : List Nat := (List.range (pls b)).filter fun p => !(chks b).contains p
def dat_ (b k : Nat) : Nat := (dat b).getD k 0
theorem tO_le (b : Nat) : tO b ≤ 5 := by
  unfold tO
  split
  · decide
  · split
    · decide
    · split <;> decide
theorem dat_len {b : Nat} (h : 4 ≤ b ∧ b ≤ 32) : (dat b).length = b ∧ pls b ≤ 2 ^ (tO b + 1) ∧ pls b ≤ 39 := (by decide : ∀ b : Fin 33, 4 ≤ b.1 → (dat b.1).length = b.1 ∧ pls b.1 ≤ 2 ^ (tO b.1 + 1) ∧ pls b.1 ≤ 39) ⟨b, by omega⟩ h.1
theorem dat_nodup (b : Nat) : (dat b).Nodup := List.nodup_range.filter _
theorem dat_mem {b p : Nat} : p ∈ dat b ↔ p < pls b ∧ p ∉ chks b := by
  unfold dat
  rw [List.mem_filter, List.mem_range]
  simp
theorem dat_at {b k : Nat} (h : 4 ≤ b ∧ b ≤ 32) (hk : k < b) : (dat b)[k]? = some (dat_ b k) ∧ dat_ b k ∈ dat b := by
  have hl : k < (dat b).length := by rw [(dat_len h).1]; exact hk
  unfold dat_
  rw [List.getD_eq_getElem?_getD, List.getElem?_eq_getElem hl]
  exact ⟨rfl, List.getElem_mem hl⟩
theorem dat_inj {b k j : Nat} (h : 4 ≤ b ∧ b ≤ 32) (hk : k < b) (hj : j < b) (e : dat_ b k = dat_ b j) : k = j := by
  have h1 := (dat_at h hk).1
  have h2 := (dat_at h hj).1
  rw [e, ← h2] at h1
  exact (List.getElem?_inj (by rw [(dat_len h).1]; exact hk) (dat_nodup b)).mp h1
/-- the checks that bring a spot to nothing -/
def cks (t s : Nat) : List Nat := ((List.range (t + 1)).filter fun k => s.testBit k).map fun k => 2 ^ k
theorem cks_all : ∀ t : Fin 6, ∀ s : Fin 64, s.1 < 2 ^ (t.1 + 1) → xs (cks t.1 s.1) = s.1 := by decide +kernel
theorem xs_cks {t s : Nat} (ht : t ≤ 5) (h : s < 2 ^ (t + 1)) : xs (cks t s) = s :=
  cks_all ⟨t, by omega⟩ ⟨s, Nat.lt_of_lt_of_le h (Nat.pow_le_pow_right (by decide) (show t + 1 ≤ 6 by omega))⟩ h
theorem cks_mem {t s p : Nat} : p ∈ cks t s ↔ ∃ k, k ≤ t ∧ s.testBit k = true ∧ p = 2 ^ k := by
  unfold cks
  rw [List.mem_map]
  constructor
  · rintro ⟨k, hk, rfl⟩
    obtain ⟨h1, h2⟩ := List.mem_filter.mp hk
    exact ⟨k, by have := List.mem_range.mp h1; omega, h2, rfl⟩
  · rintro ⟨k, h1, h2, rfl⟩
    exact ⟨k, List.mem_filter.mpr ⟨List.mem_range.mpr (by omega), h2⟩, rfl⟩
theorem cks_nodup (t s : Nat) : (cks t s).Nodup := by
  unfold cks
  exact List.pairwise_map.mpr (List.Pairwise.imp (fun ne e => ne ((Nat.pow_right_inj (by decide)).mp e)) (List.nodup_range.filter _))
theorem cks_chk {b s p : Nat} (h : p ∈ cks (tO b) s) : p ∈ chks b ∧ p ≠ 0 ∧ p < 64 := by
  obtain ⟨k, h1, _, rfl⟩ := cks_mem.mp h
  have := tO_le b
  refine ⟨List.mem_cons_of_mem _ (List.mem_map.mpr ⟨k, List.mem_range.mpr (by omega), rfl⟩), Nat.pos_iff_ne_zero.mp (Nat.two_pow_pos k), ?_⟩
  exact Nat.lt_of_lt_of_le (Nat.pow_lt_pow_right (by decide) (show k < 6 by omega)) (by decide)
def on1 (b v : Nat) : List Nat := (dig v).map (dat_ b)
def s1 (b v : Nat) : Nat := spN (ofP (on1 b v))
def on2 (b v : Nat) : List Nat := on1 b v ++ cks (tO b) (s1 b v)
def on3 (b v : Nat) : List Nat := on2 b v ++ (if (on2 b v).length % 2 = 1 then [0] else [])
def codeN (b v : Nat) : Nat := ofP (on3 b v)
section
variable {b v : Nat} (h : 4 ≤ b ∧ b ≤ 32) (hv : v < 2 ^ b)
include h hv
theorem dig_below {k : Nat} (hk : k ∈ dig v) : k < b := by
  rw [← dig_is hv (by omega)] at hk
  exact (bitsOf_mem.mp hk).1
theorem on1_mem {p : Nat} (hp : p ∈ on1 b v) : p ∈ dat b := by
  obtain ⟨k, hk, rfl⟩ := List.mem_map.mp hp
  exact (dat_at h (dig_below h hv hk)).2
theorem on1_nodup : (on1 b v).Nodup :=
  List.pairwise_map.mpr (List.Pairwise.imp_of_mem (fun hx hy ne e => ne (dat_inj h (dig_below h hv hx) (dig_below h hv hy) e)) (dig_nodup v))
theorem on1_lt {p : Nat} (hp : p ∈ on1 b v) : p < 64 := by
  have := (dat_mem.mp (on1_mem h hv hp)).1
  have := (dat_len h).2.2
  omega
theorem s1_is : s1 b v = xs (on1 b v) := sp_ofP (on1_nodup h hv) fun p hp => on1_lt h hv hp
theorem s1_lt : s1 b v < 2 ^ (tO b + 1) := by
  rw [s1_is h hv]
  refine xs_lt fun p hp => ?_
  have := (dat_mem.mp (on1_mem h hv hp)).1
  have := (dat_len h).2.1
  omega
theorem on2_nodup : (on2 b v).Nodup := List.nodup_append.mpr ⟨on1_nodup h hv, cks_nodup _ _, fun p hp q hq e => (dat_mem.mp (on1_mem h hv hp)).2 (e ▸ (cks_chk hq).1)⟩
theorem on2_mem {p : Nat} (hp : p ∈ on2 b v) : p < 64 ∧ p ≠ 0 := by
  rcases List.mem_append.mp hp with z | z
  · exact ⟨on1_lt h hv z, fun e => (dat_mem.mp (on1_mem h hv z)).2 (e ▸ List.mem_cons_self)⟩
  · exact ⟨(cks_chk z).2.2, (cks_chk z).2.1⟩
theorem on3_nodup : (on3 b v).Nodup := by
  refine List.nodup_append.mpr ⟨on2_nodup h hv, ?_, fun p hp q hq e => ?_⟩
  · split <;> simp
  · split at hq
    · rw [List.mem_singleton.mp hq] at e
      exact (on2_mem h hv hp).2 e
    · cases hq
theorem on3_lt {p : Nat} (hp : p ∈ on3 b v) : p < pls b := by
  rcases List.mem_append.mp hp with z | z
  · rcases List.mem_append.mp z with z | z
    · exact (dat_mem.mp (on1_mem h hv z)).1
    · obtain ⟨k, h1, _, rfl⟩ := cks_mem.mp z
      exact (by decide : ∀ b : Fin 33, 4 ≤ b.1 → ∀ k : Fin 6, k.1 ≤ tO b.1 → 2 ^ k.1 < pls b.1) ⟨b, by omega⟩ h.1 ⟨k, by have := tO_le b; omega⟩ h1
  · split at z
    · rw [List.mem_singleton.mp z]
      unfold pls
      omega
    · cases z
theorem on3_64 {p : Nat} (hp : p ∈ on3 b v) : p < 64 := by
  have := on3_lt h hv hp
  have := (dat_len h).2.2
  omega
theorem code_lt : codeN b v < 2 ^ pls b := ofP_lt (on3_nodup h hv) fun p hp => on3_lt h hv hp
theorem code_sp : spN (codeN b v) = 0 := by
  unfold codeN
  rw [sp_ofP (on3_nodup h hv) fun p hp => on3_64 h hv hp]
  unfold on3 on2
  rw [xs_app, xs_app, ← s1_is h hv, xs_cks (tO_le b) (s1_lt h hv), Nat.xor_self, Nat.zero_xor]
  split <;> rfl
theorem code_par : (dig (codeN b v)).length % 2 = 0 := by
  unfold codeN
  rw [len_ofP (on3_nodup h hv) fun p hp => on3_64 h hv hp]
  unfold on3
  rw [List.length_append]
  split
  · show ((on2 b v).length + 1) % 2 = 0
    omega
  · show ((on2 b v).length + 0) % 2 = 0
    omega
theorem code_tb {j : Nat} (hj : j < b) : (codeN b v).testBit (dat_ b j) = v.testBit j := by
  unfold codeN
  rw [tb_ofP (on3_nodup h hv)]
  have hd := (dat_at h hj).2
  have e : dat_ b j ∈ on3 b v ↔ v.testBit j = true := by
    constructor
    · intro z
      rcases List.mem_append.mp z with z | z
      · rcases List.mem_append.mp z with z | z
        · obtain ⟨k, hk, e⟩ := List.mem_map.mp z
          have := dat_inj h (dig_below h hv hk) hj e
          subst this
          exact (dig_mem.mp hk).2
        · exact absurd (cks_chk z).1 (dat_mem.mp hd).2
      · split at z
        · rw [List.mem_singleton.mp z] at hd
          exact absurd List.mem_cons_self (dat_mem.mp hd).2
        · cases z
    · intro z
      exact List.mem_append_left _ (List.mem_append_left _ (List.mem_map.mpr ⟨j, dig_mem.mpr ⟨by omega, z⟩, rfl⟩))
  cases q : v.testBit j with
  | true => exact decide_eq_true (e.mpr q)
  | false => exact decide_eq_false fun z => by rw [e.mp z] at q; cases q
end
/-- the value within a row -/
def valN (b row : Nat) : Nat := ofP ((List.range b).filter fun j => row.testBit (dat_ b j))
theorem val_lt (b row : Nat) : valN b row < 2 ^ b := ofP_lt (List.nodup_range.filter _) fun p hp => List.mem_range.mp (List.mem_filter.mp hp).1
theorem val_tb {b row j : Nat} (hj : j < b) : (valN b row).testBit j = row.testBit (dat_ b j) := by
  unfold valN
  rw [tb_ofP (List.nodup_range.filter _)]
  cases q : row.testBit (dat_ b j) with
  | true => exact decide_eq_true (List.mem_filter.mpr ⟨List.mem_range.mpr hj, q⟩)
  | false => exact decide_eq_false fun z => by have := (List.mem_filter.mp z).2; rw [q] at this; cases this
theorem val_code {b v : Nat} (h : 4 ≤ b ∧ b ≤ 32) (hv : v < 2 ^ b) : valN b (codeN b v) = v := by
  unfold valN
  have : (List.range b).filter (fun j => (codeN b v).testBit (dat_ b j)) = bitsOf b v := List.filter_congr fun j hj => code_tb h hv (List.mem_range.mp hj)
  rw [this, ofP_bits hv]
/-- a row whose digits are all checks, whose spot is none and whose digits are even in number -/
theorem zero_of {b d : Nat} (h : 4 ≤ b ∧ b ≤ 32) (hl : d < 2 ^ pls b) (hd : ∀ j, j < b → d.testBit (dat_ b j) = false) (hs : spN d = 0) (hp : (dig d).length % 2 = 0) : d = 0 := by
  have ht := tO_le b
  have h64 : pls b ≤ 64 := by
    have := (dat_len h).2.2
    omega
  have all_chk : ∀ p ∈ dig d, p ∈ chks b := fun p hp => by
    by_cases q : p ∈ chks b
    · exact q
    · have hlt : p < pls b := by
        rw [← dig_is hl h64] at hp
        exact (bitsOf_mem.mp hp).1
      have hm : p ∈ dat b := dat_mem.mpr ⟨hlt, q⟩
      obtain ⟨k, hk, e⟩ := List.getElem_of_mem hm
      have hkb : k < b := by rw [(dat_len h).1] at hk; exact hk
      have e2 : dat_ b k = p := by
        have := (dat_at h hkb).1
        rw [List.getElem?_eq_getElem hk, e] at this
        exact (Option.some.inj this).symm
      have h1 := hd k hkb
      rw [e2, (dig_mem.mp hp).2] at h1
      cases h1
  let ks := (List.range (tO b + 1)).filter fun k => d.testBit (2 ^ k)
  have ks_nd : ks.Nodup := List.nodup_range.filter _
  have ks_lt : ∀ k ∈ ks, k < tO b + 1 := fun k hk => List.mem_range.mp (List.mem_filter.mp hk).1
  have hcks : cks (tO b) (ofP ks) = ks.map fun k => 2 ^ k := by
    unfold cks
    congr 1
    refine List.filter_congr fun k hk => ?_
    rw [tb_ofP ks_nd]
    cases q : d.testBit (2 ^ k) with
    | true => exact decide_eq_true (List.mem_filter.mpr ⟨hk, q⟩)
    | false => exact decide_eq_false fun z => by have := (List.mem_filter.mp z).2; rw [q] at this; cases this
  have perm : (dig d).Perm ((if d.testBit 0 = true then [0] else []) ++ cks (tO b) (ofP ks)) := by
    refine (List.perm_ext_iff_of_nodup (dig_nodup d) (List.nodup_append.mpr ⟨by split <;> simp, cks_nodup _ _, fun p hp q hq e => ?_⟩)).mpr fun p => ?_
    · split at hp
      · rw [List.mem_singleton.mp hp] at e
        exact (cks_chk hq).2.1 e.symm
      · cases hp
    · rw [List.mem_append, hcks, List.mem_map]
      constructor
      · intro hp
        rcases List.mem_cons.mp (all_chk p hp) with e | e
        · left
          rw [if_pos (e ▸ (dig_mem.mp hp).2), e]
          exact List.mem_singleton.mpr rfl
        · right
          obtain ⟨k, hk, rfl⟩ := List.mem_map.mp e
          exact ⟨k, List.mem_filter.mpr ⟨hk, (dig_mem.mp hp).2⟩, rfl⟩
      · rintro (z | ⟨k, hk, rfl⟩)
        · split at z
          · rename_i q
            rw [List.mem_singleton.mp z]
            exact dig_mem.mpr ⟨by decide, q⟩
          · cases z
        · have hk2 := ks_lt k hk
          exact dig_mem.mpr ⟨Nat.lt_of_lt_of_le (Nat.pow_lt_pow_right (by decide) (show k < 6 by omega)) (by decide), (List.mem_filter.mp hk).2⟩
  have x0 : xs (dig d) = ofP ks := by
    rw [xs_perm perm, xs_app, xs_cks ht (ofP_lt ks_nd ks_lt)]
    split
    · show (0 ^^^ 0) ^^^ _ = _
      rw [Nat.xor_self, Nat.zero_xor]
    · exact Nat.zero_xor _
  have k0 : ofP ks = 0 := x0.symm.trans hs
  have c0 : cks (tO b) (ofP ks) = [] := by
    rw [k0]
    unfold cks
    rw [List.filter_eq_nil_iff.mpr fun k _ => by rw [Nat.zero_testBit]; exact Bool.false_ne_true]
    rfl
  have hlen := perm.length_eq
  rw [c0, List.append_nil] at hlen
  have nil : dig d = [] := by
    by_cases q : d.testBit 0 = true
    · rw [if_pos q] at hlen
      rw [hlen] at hp
      cases hp
    · rw [if_neg q] at hlen
      exact List.eq_nil_of_length_eq_zero hlen
  have := ofP_dig (n := d) (Nat.lt_of_lt_of_le hl (Nat.pow_le_pow_right (by decide) h64))
  rw [nil] at this
  exact this.symm
theorem is_code {b row : Nat} (h : 4 ≤ b ∧ b ≤ 32) (hl : row < 2 ^ pls b) (hs : spN row = 0) (hp : (dig row).length % 2 = 0) : row = codeN b (valN b row) := by
  have hv := val_lt b row
  have hc := code_lt h hv
  have h64 : codeN b (valN b row) < 2 ^ 64 := Nat.lt_of_lt_of_le hc (Nat.pow_le_pow_right (by decide) (by have := (dat_len h).2.2; omega))
  have x := sp_xor (n := row) h64
  have e : row ^^^ codeN b (valN b row) = 0 := by
    refine zero_of h (Nat.xor_lt_two_pow hl hc) (fun j hj => ?_) ?_ ?_
    · rw [Nat.testBit_xor, code_tb h hv hj, val_tb hj, Bool.xor_self]
    · rw [x.1, hs, code_sp h hv]
      rfl
    · rw [x.2, Nat.add_mod, hp, code_par h hv]
  have := xor_twice row (codeN b (valN b row))
  rw [e, Nat.zero_xor] at this
  exact this.symm
end PL

set_option maxHeartbeats 2000000
namespace PL
open PySem PySem.Spec PyProof.Rows L2
/-! ### natural numbers as data -/
abbrev nz (l : List Nat) : List Int := l.map fun p => ((p : Nat) : Int)
abbrev nats (l : List Nat) : D := .list ((nz l).map .int)
abbrev nat (n : Nat) : D := .int ((n : Nat) : Int)
theorem bXor_n (a b : Nat) : Builtin.bitXor (a : Int) (b : Int) = ((a ^^^ b : Nat) : Int) := Bits.bitXor_pp (Int.natCast_nonneg _) (Int.natCast_nonneg _)
theorem bOr_n (a b : Nat) : Builtin.bitOr (a : Int) (b : Int) = ((a ||| b : Nat) : Int) := bitOr_nn (Int.natCast_nonneg _) (Int.natCast_nonneg _)
theorem bAnd_n (a b : Nat) : Builtin.bitAnd (a : Int) (b : Int) = ((a &&& b : Nat) : Int) := bitAnd_pp (Int.natCast_nonneg _) (Int.natCast_nonneg _)
theorem shr_n (a p : Nat) : (a : Int) / 2 ^ p = ((a / 2 ^ p : Nat) : Int) := by
  rw [pow_cast]
  rfl
theorem bit1_n (a p : Nat) : Builtin.bitAnd ((a : Int) / 2 ^ p) 1 = if a.testBit p = true then 1 else 0 := by
  rw [shr_n]
  have : ((1 : Int)) = ((1 : Nat) : Int) := rfl
  rw [this, bAnd_n, Nat.and_one_is_mod]
  have h := dig_tb a p
  rw [shr_n] at h
  exact h
theorem bit1_d (a p : Nat) : decide (Builtin.bitAnd ((a : Int) / 2 ^ p) 1 = 1) = a.testBit p := by
  rw [bit1_n]
  cases a.testBit p <;> rfl
theorem bits_lt (n : Nat) : n < 2 ^ Builtin.Int.intBits (n : Int) := by
  unfold Builtin.Int.intBits
  by_cases h : n = 0
  · subst h
    decide
  · have : ((n : Int) == 0) = false := by simpa using h
    rw [this]
    show n < 2 ^ (n.log2 + 1)
    exact Nat.lt_log2_self
theorem bits_le {n m : Nat} (h : n < 2 ^ m) : Builtin.Int.intBits (n : Int) ≤ m := by
  unfold Builtin.Int.intBits
  by_cases h0 : n = 0
  · subst h0
    exact Nat.zero_le m
  · have : ((n : Int) == 0) = false := by simpa using h0
    rw [this]
    show n.log2 + 1 ≤ m
    exact (Nat.log2_lt h0).mpr h
theorem digs_is {n : Nat} (h : n < 2 ^ 64) : ((rngI 0 (Builtin.Int.intBits (n : Int) : Nat)).filter fun x => decide (Builtin.bitAnd ((n : Int) / 2 ^ x.toNat) 1 = 1)) = nz (dig n) := by
  rw [rng0, List.filter_map]
  have : List.filter ((fun x : Int => decide (Builtin.bitAnd ((n : Int) / 2 ^ x.toNat) 1 = 1)) ∘ fun i : Nat => (i : Int)) (List.range (Builtin.Int.intBits (n : Int))) = bitsOf (Builtin.Int.intBits (n : Int)) n :=
    List.filter_congr fun p _ => bit1_d n p
  rw [this, dig_is (bits_lt n) (bits_le h)]
theorem nz_mem {l : List Nat} {z : Int} : z ∈ nz l ↔ ∃ p ∈ l, z = ((p : Nat) : Int) := by
  rw [List.mem_map]
  exact ⟨fun ⟨p, h, e⟩ => ⟨p, h, e.symm⟩, fun ⟨p, h, e⟩ => ⟨p, h, e.symm⟩⟩
theorem nz_has (l : List Nat) (p : Nat) : (nz l).contains (p : Int) = l.contains p := by
  induction l with
  | nil => rfl
  | cons q r ih =>
    have e : nz (q :: r) = ((q : Nat) : Int) :: nz r := rfl
    rw [e, List.contains_cons, List.contains_cons, ih]
    congr 1
    by_cases h : p = q
    · subst h
      rw [beq_self_eq_true, beq_self_eq_true]
    · have : ¬ ((p : Int) = (q : Int)) := fun z => h (Int.ofNat.inj z)
      rw [beq_eq_false_iff_ne.mpr h, beq_eq_false_iff_ne.mpr this]
theorem nz_at {l : List Nat} {k : Nat} {d : D} (h : ((nz l).map PyData.int)[k]? = some d) : ∃ p, l[k]? = some p ∧ d = nat p := by
  rw [List.getElem?_map, List.getElem?_map] at h
  cases q : l[k]? with
  | none => rw [q] at h; cases h
  | some p => rw [q] at h; exact ⟨p, rfl, (Option.some.inj h).symm⟩
theorem nz_len (l : List Nat) : ((nz l).map PyData.int).length = l.length := by rw [List.length_map, List.length_map]
theorem dig_len (n : Nat) : (dig n).length ≤ 64 := by
  have := List.length_filter_le (fun p => n.testBit p) (List.range 64)
  rw [List.length_range] at this
  exact this
theorem sp_lt (n : Nat) : spN n < 64 := xs_lt (k := 6) fun p hp => (dig_mem.mp hp).1
/-- the state of a row as it is told -/
def stD (b row : Nat) : D := if (dig row).length % 2 = 1 then (if spN row < pls b then .tuple [.str "one", nat (spN row)] else .tuple [.str "more", .none])
  else (if spN row = 0 then .tuple [.str "clean", .none] else .tuple [.str "more", .none])
def Bt4 (b : Nat) : Prop := 4 ≤ b ∧ b ≤ 32
end PL

set_option maxHeartbeats 2000000
namespace PL
open PySem PySem.Spec PyProof.Rows L2
theorem goi_is {X : Cx} {Γ : Ga} {tg it : Expr} {ds ds' : List D} (h : GoI X Γ tg it ds) (e : ds = ds') : GoI X Γ tg it ds' := e ▸ h
theorem dats_is (b : Nat) : ((rngI 0 ((pls b : Nat) : Int)).filter fun x => !hasD ((nz (chks b)).map .int) (.int x)) = nz (dat b) := by
  rw [rng0, List.filter_map]
  refine congrArg (List.map _) (List.filter_congr fun p _ => ?_)
  show (!hasD ((nz (chks b)).map .int) (.int ((p : Nat) : Int))) = _
  rw [hasD_ints, nz_has]
theorem enum_at {l : List Nat} {k : Nat} {d : D} (h : (enumD ((nz l).map .int))[k]? = some d) : ∃ p, l[k]? = some p ∧ d = .tuple [nat k, nat p] := by
  unfold enumD at h
  rw [List.getElem?_map, List.getElem?_zipIdx] at h
  cases q : ((nz l).map PyData.int)[k]? with
  | none => rw [q] at h; cases h
  | some p =>
    rw [q] at h
    obtain ⟨p, hp, rfl⟩ := nz_at q
    refine ⟨p, hp, ?_⟩
    have := (Option.some.inj h).symm
    rw [this]
    show PyData.tuple [.int ((0 + k : Nat) : Int), _] = _
    rw [Nat.zero_add]
theorem enum_len (l : List D) : (enumD l).length = l.length := by
  unfold enumD
  rw [List.length_map, List.length_zipIdx]
theorem enum_dat {b : Nat} (h : 4 ≤ b ∧ b ≤ 32) : enumD ((nz (dat b)).map .int) = (List.range b).map fun k => .tuple [nat k, nat (dat_ b k)] := by
  refine List.ext_getElem? fun k => ?_
  by_cases hk : k < b
  · have hl : k < (enumD ((nz (dat b)).map .int)).length := by rw [enum_len, nz_len, (dat_len h).1]; exact hk
    obtain ⟨p, hp, e⟩ := enum_at (List.getElem?_eq_getElem hl)
    rw [List.getElem?_eq_getElem hl, e, List.getElem?_map, List.getElem?_range hk]
    rw [(dat_at h hk).1] at hp
    rw [← Option.some.inj hp]
    rfl
  · rw [List.getElem?_eq_none (by rw [enum_len, nz_len, (dat_len h).1]; omega), List.getElem?_eq_none (by rw [List.length_map, List.length_range]; omega)]
theorem ofP_push {l : List Nat} {p : Nat} (nd : (l ++ [p]).Nodup) : ofP l ||| 2 ^ p = ofP (l ++ [p]) := Nat.eq_of_testBit_eq fun i => by
  rw [Nat.testBit_or, Nat.testBit_two_pow, tb_ofP nd, tb_ofP (List.nodup_append.mp nd).1]
  by_cases e : p = i
  · subst e
    simp
  · simp [e, Ne.symm e]
/-- the part of the ones that the first k digits bring -/
def onK (b v k : Nat) : List Nat := ((List.range k).filter fun j => v.testBit j).map (dat_ b)
theorem onK_end {b v : Nat} (h : 4 ≤ b ∧ b ≤ 32) (hv : v < 2 ^ b) : onK b v b = on1 b v := by
  unfold onK on1
  rw [← dig_is hv (by omega)]
  rfl
theorem onK_step {b v k : Nat} (h : 4 ≤ b ∧ b ≤ 32) (hk : k < b) : Builtin.bitOr ((ofP (onK b v k) : Nat) : Int) (Builtin.bitAnd ((v : Int) / 2 ^ k) 1 * 2 ^ dat_ b k) = ((ofP (onK b v (k + 1)) : Nat) : Int) := by
  rw [bit1_n]
  have e : onK b v (k + 1) = onK b v k ++ (if v.testBit k = true then [dat_ b k] else []) := by
    unfold onK
    rw [List.range_succ, List.filter_append, List.map_append]
    congr 1
    by_cases q : v.testBit k = true
    · rw [if_pos q, List.filter_cons_of_pos q]
      rfl
    · rw [if_neg q, List.filter_cons_of_neg q]
      rfl
  rw [e]
  by_cases q : v.testBit k = true
  · rw [if_pos q, if_pos q, Int.one_mul, pow_cast, bOr_n, ofP_push]
    have : onK b v k ++ [dat_ b k] = ((List.range (k + 1)).filter fun j => decide (j = k) || v.testBit j).map (dat_ b) := by
      rw [List.range_succ, List.filter_append, List.map_append, List.filter_cons_of_pos (by simp)]
      congr 1
      unfold onK
      refine congrArg _ (List.filter_congr fun j hj => ?_)
      have := List.mem_range.mp hj
      rw [decide_eq_false (by omega)]
      rfl
    rw [this]
    refine List.pairwise_map.mpr (List.Pairwise.imp_of_mem (fun hx hy ne e => ne ?_) (List.nodup_range.filter _))
    have h1 := List.mem_range.mp (List.mem_filter.mp hx).1
    have h2 := List.mem_range.mp (List.mem_filter.mp hy).1
    exact dat_inj h (by omega) (by omega) e
  · rw [if_neg q, if_neg q, Int.zero_mul, List.append_nil]
    have : (0 : Int) = ((0 : Nat) : Int) := rfl
    rw [this, bOr_n, Nat.or_zero]
theorem pow2pow (p : Nat) : (1 * (2 : Int) ^ (1 * (2 : Int) ^ p).toNat) = ((2 ^ (2 ^ p) : Nat) : Int) := by
  rw [Int.one_mul, Int.one_mul, pow_cast p, Int.toNat_natCast, pow_cast]
theorem cks_is {b v : Nat} (h : 4 ≤ b ∧ b ≤ 32) (hv : v < 2 ^ b) : cks (tO b) (s1 b v) = (dig (s1 b v)).map fun k => 2 ^ k := by
  have := tO_le b
  rw [← dig_is (s1_lt h hv) (by omega)]
  rfl
theorem s1_dig {b v p : Nat} (h : 4 ≤ b ∧ b ≤ 32) (hv : v < 2 ^ b) (hp : p ∈ dig (s1 b v)) : p < 6 := by
  have := tO_le b
  rw [← dig_is (s1_lt h hv) (by omega)] at hp
  have := (bitsOf_mem.mp hp).1
  omega
theorem cks_step {b v k p : Nat} (h : 4 ≤ b ∧ b ≤ 32) (hv : v < 2 ^ b) (hp : (dig (s1 b v))[k]? = some p) :
    Builtin.bitOr ((ofP (on1 b v ++ ((dig (s1 b v)).take k).map fun k => 2 ^ k) : Nat) : Int) (1 * (2 : Int) ^ (1 * (2 : Int) ^ p).toNat) = ((ofP (on1 b v ++ ((dig (s1 b v)).take (k + 1)).map fun k => 2 ^ k) : Nat) : Int) := by
  rw [pow2pow, bOr_n, take_push hp, List.map_append, ← List.append_assoc]
  refine congrArg _ (ofP_push ?_)
  have nd := on2_nodup h hv
  unfold on2 at nd
  rw [cks_is h hv] at nd
  refine nd.sublist ?_
  have : on1 b v ++ (((dig (s1 b v)).take k).map fun k => 2 ^ k) ++ [2 ^ p] = on1 b v ++ ((dig (s1 b v)).take (k + 1)).map fun k => 2 ^ k := by
    rw [take_push hp, List.map_append, ← List.append_assoc]
    rfl
  rw [this]
  exact (List.append_sublist_append_left _).mpr ((List.take_sublist _ _).map _)
theorem code_last {b v : Nat} (h : 4 ≤ b ∧ b ≤ 32) (hv : v < 2 ^ b) : Builtin.bitOr ((ofP (on2 b v) : Nat) : Int) (((dig (ofP (on2 b v))).length : Nat) % 2 : Int) = ((codeN b v : Nat) : Int) := by
  rw [len_ofP (on2_nodup h hv) fun p hp => (on2_mem h hv hp).1]
  have nd := on3_nodup h hv
  unfold codeN
  unfold on3 at nd ⊢
  by_cases q : (on2 b v).length % 2 = 1
  · rw [if_pos q] at nd ⊢
    have : (((on2 b v).length : Nat) % 2 : Int) = ((2 ^ 0 : Nat) : Int) := by omega
    rw [this, bOr_n, ofP_push nd]
  · rw [if_neg q, List.append_nil]
    have : (((on2 b v).length : Nat) % 2 : Int) = ((0 : Nat) : Int) := by omega
    rw [this, bOr_n, Nat.or_zero]
theorem on2_64 {b v : Nat} (h : 4 ≤ b ∧ b ≤ 32) (hv : v < 2 ^ b) : ofP (on2 b v) < 2 ^ 64 := ofP_lt (on2_nodup h hv) fun p hp => (on2_mem h hv hp).1
theorem on1_64 {b v : Nat} (h : 4 ≤ b ∧ b ≤ 32) (hv : v < 2 ^ b) : ofP (on1 b v) < 2 ^ 64 := ofP_lt (on1_nodup h hv) fun p hp => on1_lt h hv hp
theorem sum_bits {f : Nat → Int} {q : Nat → Bool} (l : List Nat) (h : ∀ k ∈ l, f k = (if q k = true then 1 else 0) * 2 ^ k) : sumI (l.map fun k => PyData.int (f k)) = ((ofP (l.filter q) : Nat) : Int) := by
  induction l with
  | nil => rfl
  | cons k r ih =>
    rw [List.map_cons]
    show f k + sumI _ = _
    rw [ih fun j hj => h j (List.mem_cons_of_mem _ hj), h k List.mem_cons_self]
    by_cases z : q k = true
    · rw [if_pos z, List.filter_cons_of_pos z, Int.one_mul, pow_cast]
      rfl
    · rw [if_neg z, List.filter_cons_of_neg z, Int.zero_mul, Int.zero_add]
theorem val_sum (b row : Nat) : sumI ((List.range b).map fun k => PyData.int (Builtin.bitAnd ((row : Int) / 2 ^ dat_ b k) 1 * 2 ^ k)) = ((valN b row : Nat) : Int) :=
  sum_bits (q := fun j => row.testBit (dat_ b j)) _ fun k _ => by rw [bit1_n]
theorem bit1_small (row p : Nat) : (Builtin.bitAnd ((row : Int) / 2 ^ p) 1).natAbs < 2 ^ 64 := by
  rw [bit1_n]
  split <;> decide
end PL

set_option maxHeartbeats 2000000
namespace PL
open PySem PySem.Spec PyProof.Rows L2
theorem xs_tb (l : List Nat) (k : Nat) : (xs l).testBit k = decide ((l.filter fun p => p.testBit k).length % 2 = 1) := by
  induction l with
  | nil =>
    show (0 : Nat).testBit k = _
    rw [Nat.zero_testBit]
    rfl
  | cons p r ih =>
    rw [xs, Nat.testBit_xor, ih]
    cases q : p.testBit k with
    | true =>
      rw [List.filter_cons_of_pos (p := fun p => Nat.testBit p k) q, List.length_cons, Bool.true_xor]
      by_cases z : (r.filter fun p => p.testBit k).length % 2 = 1
      · rw [decide_eq_true z, decide_eq_false (by omega)]
        rfl
      · rw [decide_eq_false z, decide_eq_true (by omega)]
        rfl
    | false =>
      rw [List.filter_cons_of_neg (p := fun p => Nat.testBit p k) (by rw [q]; exact Bool.false_ne_true), Bool.false_xor]
theorem spot_tb (n k : Nat) : decide (((((nz (dig n)).filter fun x => decide (x / 2 ^ k % 2 = 1)).map PyData.int).length : Nat) % 2 = (1 : Int)) = (spN n).testBit k := by
  rw [List.length_map, List.filter_map, List.length_map]
  have e : (dig n).filter ((fun x : Int => decide (x / 2 ^ k % 2 = 1)) ∘ fun p : Nat => (p : Int)) = (dig n).filter fun p => p.testBit k := List.filter_congr fun p _ => by
    show decide ((p : Int) / 2 ^ k % 2 = 1) = _
    rw [dig_tb]
    cases p.testBit k <;> rfl
  rw [e]
  show _ = (xs (dig n)).testBit k
  rw [xs_tb]
  by_cases z : ((dig n).filter fun p => p.testBit k).length % 2 = 1
  · rw [decide_eq_true z, decide_eq_true (by omega)]
  · rw [decide_eq_false z, decide_eq_false (by omega)]
theorem spot_sum (n : Nat) : sumI (((List.range 6).filter fun k => (spN n).testBit k).map fun i => PyData.int ((2 : Int) ^ i)) = ((spN n : Nat) : Int) := by
  rw [sum_steps]
  show ((ofP (bitsOf 6 (spN n)) : Nat) : Int) = _
  rw [ofP_bits (n := 6) (sp_lt n)]
theorem filt_step {k : Nat} {q : Nat → Bool} : (List.range (k + 1)).filter q = (List.range k).filter q ++ if q k = true then [k] else [] := by
  rw [List.range_succ, List.filter_append]
  congr 1
  by_cases z : q k = true
  · rw [if_pos z, List.filter_cons_of_pos z]
    rfl
  · rw [if_neg z, List.filter_cons_of_neg z]
    rfl
theorem on1_len {b v : Nat} (h : 4 ≤ b ∧ b ≤ 32) (hv : v < 2 ^ b) : (on1 b v).length ≤ 64 := by
  unfold on1
  rw [List.length_map]
  exact dig_len v
theorem cks_len (t s : Nat) : (cks t s).length ≤ t + 1 := by
  unfold cks
  rw [List.length_map]
  have := List.length_filter_le (fun k => s.testBit k) (List.range (t + 1))
  rwa [List.length_range] at this
theorem nz_app (l m : List Nat) : nz (l ++ m) = nz l ++ nz m := List.map_append
theorem chk_filter (b s : Nat) : ((nz (chks b)).filter fun x => decide (0 < x) && decide (((s : Nat) : Int) / x % 2 = 1)) = nz (cks (tO b) s) := by
  unfold chks nz
  rw [List.map_cons, List.filter_cons_of_neg (by simp)]
  unfold pws cks
  rw [List.filter_map, List.filter_map]
  refine congrArg _ (congrArg _ (List.filter_congr fun k _ => ?_))
  show (decide ((0 : Int) < ((2 ^ k : Nat) : Int)) && decide (((s : Nat) : Int) / ((2 ^ k : Nat) : Int) % 2 = 1)) = _
  rw [← pow_cast, dig_tb]
  have : (0 : Int) < 2 ^ k := Int.pow_pos (by decide)
  rw [decide_eq_true this]
  cases s.testBit k <;> rfl
end PL

set_option maxHeartbeats 2000000
namespace PL
open PySem PySem.Spec PyProof.Rows L2
/-! ### all words; rows with flipped places -/
def wds (b : Nat) : List Nat := (List.range (2 ^ b)).map (codeN b)
theorem wds_len (b : Nat) : (wds b).length = 2 ^ b := by
  unfold wds
  rw [List.length_map, List.length_range]
theorem wds_nodup {b : Nat} (h : 4 ≤ b ∧ b ≤ 32) : (wds b).Nodup := by
  unfold wds
  refine List.pairwise_map.mpr (List.Pairwise.imp_of_mem (fun hx hy ne e => ne ?_) List.nodup_range)
  have h1 := val_code h (List.mem_range.mp hx)
  have h2 := val_code h (List.mem_range.mp hy)
  rw [← h1, ← h2, e]
theorem wds_mem {b n : Nat} (h : 4 ≤ b ∧ b ≤ 32) (hn : n < 2 ^ pls b) : n ∈ wds b ↔ spN n = 0 ∧ (dig n).length % 2 = 0 := by
  unfold wds
  rw [List.mem_map]
  constructor
  · rintro ⟨v, hv, rfl⟩
    exact ⟨code_sp h (List.mem_range.mp hv), code_par h (List.mem_range.mp hv)⟩
  · rintro ⟨h1, h2⟩
    exact ⟨valN b n, List.mem_range.mpr (val_lt b n), (is_code h hn h1 h2).symm⟩
/-- the word that is told as mended -/
def mendD (b row : Nat) : D := if (dig row).length % 2 = 1 then (if spN row < pls b then nat (row ^^^ 2 ^ spN row) else .none)
  else (if spN row = 0 then nat row else .none)
theorem flip_lt {n p m : Nat} (h : n < 2 ^ m) (hp : p < m) : n ^^^ 2 ^ p < 2 ^ m := Nat.xor_lt_two_pow h (Nat.pow_lt_pow_right (by decide) hp)
def flips (n : Nat) (ps : List Nat) : Nat := ps.foldl (fun r p => r ^^^ 2 ^ p) n
theorem flips_lt {m : Nat} : ∀ {ps : List Nat} {n : Nat}, n < 2 ^ m → (∀ p ∈ ps, p < m) → flips n ps < 2 ^ m
  | [], _, h, _ => h
  | p :: ps, n, h, hp => flips_lt (ps := ps) (flip_lt h (hp p List.mem_cons_self)) fun q hq => hp q (List.mem_cons_of_mem _ hq)
theorem flips_push {ps : List Nat} {n p k : Nat} (h : ps[k]? = some p) : flips n (ps.take (k + 1)) = flips n (ps.take k) ^^^ 2 ^ p := by
  rw [take_push h]
  unfold flips
  rw [List.foldl_append]
  rfl
/-- a list of places with one turned -/
def tog (l : List Nat) (p : Nat) : List Nat := (l.filter fun q => !decide (q = p)) ++ if l.contains p = true then [] else [p]
theorem tog_mem {l : List Nat} {p q : Nat} : q ∈ tog l p ↔ (q ∈ l ∧ q ≠ p) ∨ (q = p ∧ p ∉ l) := by
  unfold tog
  rw [List.mem_append, List.mem_filter]
  by_cases h : p ∈ l
  · rw [if_pos (by simpa using h)]
    simp [h]
  · rw [if_neg (by simpa using h)]
    simp [h]
theorem tog_nodup {l : List Nat} {p : Nat} (h : l.Nodup) : (tog l p).Nodup := by
  unfold tog
  refine List.nodup_append.mpr ⟨h.filter _, ?_, ?_⟩
  · split
    · exact List.nodup_nil
    · exact List.nodup_cons.mpr ⟨List.not_mem_nil, List.nodup_nil⟩
  · intro a ha b hb e
    subst e
    have h1 := (List.mem_filter.mp ha).2
    split at hb
    · cases hb
    · rw [List.mem_singleton.mp hb] at h1
      simp at h1
theorem tog_lt {l : List Nat} {p m : Nat} (h : ∀ q ∈ l, q < m) (hp : p < m) : ∀ q ∈ tog l p, q < m := fun q hq => by
  rcases tog_mem.mp hq with ⟨h1, _⟩ | ⟨rfl, _⟩
  · exact h q h1
  · exact hp
theorem tog_ofP {l : List Nat} {p : Nat} (h : l.Nodup) : ofP (tog l p) = ofP l ^^^ 2 ^ p := Nat.eq_of_testBit_eq fun i => by
  rw [tb_ofP (tog_nodup h), tb_flip, tb_ofP h]
  by_cases e : p = i
  · subst e
    by_cases hm : p ∈ l
    · rw [decide_eq_true hm, decide_eq_false (by rw [tog_mem]; simp [hm]), decide_eq_true (rfl : p = p)]
      rfl
    · rw [decide_eq_false hm, decide_eq_true (by rw [tog_mem]; exact .inr ⟨rfl, hm⟩), decide_eq_true (rfl : p = p)]
      rfl
  · rw [decide_eq_false e]
    have : (i ∈ tog l p) ↔ i ∈ l := by
      rw [tog_mem]
      constructor
      · rintro (⟨h1, _⟩ | ⟨h1, _⟩)
        · exact h1
        · exact absurd h1.symm e
      · exact fun h1 => .inl ⟨h1, fun z => e z.symm⟩
    rw [show decide (i ∈ tog l p) = decide (i ∈ l) from decide_eq_decide.mpr this]
    cases decide (i ∈ l) <;> rfl
theorem tog_len {l : List Nat} {p : Nat} : (tog l p).length ≤ l.length + 1 := by
  unfold tog
  rw [List.length_append]
  have := List.length_filter_le (fun q => !decide (q = p)) l
  split
  · show _ + 0 ≤ _
    omega
  · show _ + 1 ≤ _
    omega
theorem dig_lt {n m p : Nat} (h : n < 2 ^ m) (hm : m ≤ 64) (hp : p ∈ dig n) : p < m := by
  rw [← dig_is h hm] at hp
  exact (bitsOf_mem.mp hp).1
/-- which flips bring a word -/
theorem flip_word {b n p : Nat} (h : 4 ≤ b ∧ b ≤ 32) (hn : n < 2 ^ pls b) (hp : p < pls b) : (wds b).contains (n ^^^ 2 ^ p) = (decide ((dig n).length % 2 = 1) && decide (p = spN n)) := by
  have hpl := (dat_len h).2.2
  have e : n ^^^ 2 ^ p ∈ wds b ↔ (dig n).length % 2 = 1 ∧ p = spN n := by
    rw [wds_mem h (flip_lt hn hp), sp_flip (by omega), par_flip (by omega)]
    constructor
    · rintro ⟨h1, h2⟩
      refine ⟨by omega, ?_⟩
      have := congrArg (· ^^^ p) h1
      simp only [xor_twice, Nat.zero_xor] at this
      exact this.symm
    · rintro ⟨h1, rfl⟩
      exact ⟨Nat.xor_self _, by omega⟩
  rw [Bool.eq_iff_iff, List.contains_iff_mem, e]
  simp
def foundD (b n k : Nat) : List D := ((List.range k).filter fun p => (wds b).contains (n ^^^ 2 ^ p)).map fun p => .tuple [.tuple [.str "one", nat p], nat (n ^^^ 2 ^ p)]
theorem found_len (b n k : Nat) : (foundD b n k).length ≤ k := by
  unfold foundD
  rw [List.length_map]
  have := List.length_filter_le (fun p => (wds b).contains (n ^^^ 2 ^ p)) (List.range k)
  rwa [List.length_range] at this
theorem found_yes {b n k : Nat} (q : (wds b).contains (n ^^^ 2 ^ k) = true) : foundD b n (k + 1) = foundD b n k ++ [.tuple [.tuple [.str "one", nat k], nat (n ^^^ 2 ^ k)]] := by
  unfold foundD
  rw [List.range_succ, List.filter_append, List.map_append, List.filter_cons_of_pos (p := fun p => (wds b).contains (n ^^^ 2 ^ p)) q]
  rfl
theorem found_no {b n k : Nat} (q : (wds b).contains (n ^^^ 2 ^ k) = false) : foundD b n (k + 1) = foundD b n k := by
  unfold foundD
  rw [List.range_succ, List.filter_append, List.map_append, List.filter_cons_of_neg (p := fun p => (wds b).contains (n ^^^ 2 ^ p)) (by rw [q]; exact Bool.false_ne_true)]
  exact List.append_nil _
theorem range_one {k s : Nat} : (List.range k).filter (fun p => decide (p = s)) = if s < k then [s] else [] := by
  induction k with
  | zero => rfl
  | succ k ih =>
    rw [List.range_succ, List.filter_append, ih]
    by_cases e : k = s
    · subst e
      rw [if_neg (by omega), if_pos (by omega), List.filter_cons_of_pos (by simp)]
      rfl
    · rw [List.filter_cons_of_neg (by simpa using e)]
      by_cases q : s < k
      · rw [if_pos q, if_pos (by omega)]
        rfl
      · rw [if_neg q, if_neg (by omega)]
        rfl
theorem found_all {b n : Nat} (h : 4 ≤ b ∧ b ≤ 32) (hn : n < 2 ^ pls b) : foundD b n (pls b) = if (dig n).length % 2 = 1 ∧ spN n < pls b then [.tuple [.tuple [.str "one", nat (spN n)], nat (n ^^^ 2 ^ spN n)]] else [] := by
  unfold foundD
  have e : (List.range (pls b)).filter (fun p => (wds b).contains (n ^^^ 2 ^ p)) = if (dig n).length % 2 = 1 ∧ spN n < pls b then [spN n] else [] := by
    rw [List.filter_congr fun p hp => flip_word h hn (List.mem_range.mp hp)]
    by_cases q : (dig n).length % 2 = 1
    · rw [List.filter_congr (q := fun p => decide (p = spN n)) fun p _ => by rw [decide_eq_true q]; rfl, range_one]
      by_cases z : spN n < pls b
      · rw [if_pos z, if_pos ⟨q, z⟩]
      · rw [if_neg z, if_neg fun w => z w.2]
    · rw [List.filter_congr (q := fun _ => false) fun p _ => by rw [decide_eq_false q]; rfl, if_neg fun w => q w.1]
      exact List.filter_eq_nil_iff.mpr fun _ _ => Bool.false_ne_true
  rw [e]
  split <;> rfl
/-- what is due of a row -/
def dueD (b n : Nat) : D := .tuple [stD b n, mendD b n]
theorem due_clean {b n : Nat} (h : 4 ≤ b ∧ b ≤ 32) (hn : n < 2 ^ pls b) (q : n ∈ wds b) : dueD b n = .tuple [.tuple [.str "clean", .none], nat n] := by
  obtain ⟨h1, h2⟩ := (wds_mem h hn).mp q
  have o : ¬ (dig n).length % 2 = 1 := by omega
  unfold dueD stD mendD
  rw [if_neg o, if_neg o, if_pos h1, if_pos h1]
theorem due_one {b n : Nat} (q : (dig n).length % 2 = 1 ∧ spN n < pls b) : dueD b n = .tuple [.tuple [.str "one", nat (spN n)], nat (n ^^^ 2 ^ spN n)] := by
  unfold dueD stD mendD
  rw [if_pos q.1, if_pos q.1, if_pos q.2, if_pos q.2]
theorem due_more {b n : Nat} (h : 4 ≤ b ∧ b ≤ 32) (hn : n < 2 ^ pls b) (q : ¬ n ∈ wds b) (z : ¬ ((dig n).length % 2 = 1 ∧ spN n < pls b)) : dueD b n = .tuple [.tuple [.str "more", .none], .none] := by
  unfold dueD stD mendD
  by_cases o : (dig n).length % 2 = 1
  · rw [if_pos o, if_pos o, if_neg fun w => z ⟨o, w⟩, if_neg fun w => z ⟨o, w⟩]
  · have : ¬ spN n = 0 := fun w => q ((wds_mem h hn).mpr ⟨w, by omega⟩)
    rw [if_neg o, if_neg o, if_neg this, if_neg this]
end PL

set_option maxHeartbeats 2000000
namespace PL
open PySem PySem.Spec PyProof.Rows L2
/-! ### rows that are one, two, three flips from a word -/
theorem xor_back (n m : Nat) : n ^^^ (n ^^^ m) = m := by rw [← Nat.xor_assoc, Nat.xor_self, Nat.zero_xor]
theorem xor_back2 (n m : Nat) : (n ^^^ m) ^^^ n = m := by rw [Nat.xor_comm n m, xor_twice]
theorem dig_pow {p : Nat} (h : p < 64) : dig (2 ^ p) = [p] := by
  unfold dig bitsOf
  rw [List.filter_congr (q := fun i => decide (i = p)) fun i _ => by rw [Nat.testBit_two_pow]; exact decide_eq_decide.mpr eq_comm, range_one, if_pos h]
theorem flips_is {n : Nat} : ∀ {ps : List Nat}, ps.Nodup → flips n ps = n ^^^ ofP ps
  | [], _ => by show n = n ^^^ 0; rw [Nat.xor_zero]
  | p :: ps, h => by
    show flips (n ^^^ 2 ^ p) ps = _
    rw [flips_is (List.nodup_cons.mp h).2, ofP_cons h, Nat.xor_assoc, Nat.xor_comm (2 ^ p)]
theorem flips_dig {n m : Nat} (h : m < 2 ^ 64) : flips n (dig m) = n ^^^ m := by rw [flips_is (dig_nodup m), ofP_dig h]
structure IsWd (b w : Nat) : Prop where
  b4 : 4 ≤ b ∧ b ≤ 32
  lt : w < 2 ^ pls b
  sp : spN w = 0
  par : (dig w).length % 2 = 0
theorem IsWd.code {b v : Nat} (h : 4 ≤ b ∧ b ≤ 32) (hv : v < 2 ^ b) : IsWd b (codeN b v) := ⟨h, code_lt h hv, code_sp h hv, code_par h hv⟩
theorem IsWd.clean {b w : Nat} (h : IsWd b w) : stD b w = .tuple [.str "clean", .none] ∧ mendD b w = nat w := by
  have o : ¬ (dig w).length % 2 = 1 := by have := h.par; omega
  unfold stD mendD
  rw [if_neg o, if_neg o, if_pos h.sp, if_pos h.sp]
  exact ⟨rfl, rfl⟩
theorem odd_state {b n : Nat} (h1 : (dig n).length % 2 = 1) : (spN n < pls b ∧ stD b n = .tuple [.str "one", nat (spN n)] ∧ mendD b n = nat (n ^^^ 2 ^ spN n)) ∨ (stD b n = .tuple [.str "more", .none] ∧ mendD b n = .none) := by
  unfold stD mendD
  rw [if_pos h1, if_pos h1]
  by_cases q : spN n < pls b
  · rw [if_pos q, if_pos q]
    exact .inl ⟨q, rfl, rfl⟩
  · rw [if_neg q, if_neg q]
    exact .inr ⟨rfl, rfl⟩
theorem IsWd.one {b w p : Nat} (h : IsWd b w) (hp : p < pls b) : stD b (w ^^^ 2 ^ p) = .tuple [.str "one", nat p] ∧ mendD b (w ^^^ 2 ^ p) = nat w := by
  have hpl := (dat_len h.b4).2.2
  have h1 : (dig (w ^^^ 2 ^ p)).length % 2 = 1 := by
    rw [par_flip (by omega)]
    have := h.par
    omega
  have h2 : spN (w ^^^ 2 ^ p) = p := by rw [sp_flip (by omega), h.sp, Nat.zero_xor]
  unfold stD mendD
  rw [if_pos h1, if_pos h1, h2, if_pos hp, if_pos hp, xor_twice]
  exact ⟨rfl, rfl⟩
theorem IsWd.two {b w f s : Nat} (h : IsWd b w) (hf : f < pls b) (hs : s < pls b) (ne : f ≠ s) : stD b (flips w [f, s]) = .tuple [.str "more", .none] ∧ mendD b (flips w [f, s]) = .none := by
  have hpl := (dat_len h.b4).2.2
  have h1 : ¬ (dig (flips w [f, s])).length % 2 = 1 := by
    show ¬ (dig ((w ^^^ 2 ^ f) ^^^ 2 ^ s)).length % 2 = 1
    rw [par_flip (by omega)]
    have := par_flip (n := w) (p := f) (by omega)
    have := h.par
    omega
  have h2 : ¬ spN (flips w [f, s]) = 0 := by
    show ¬ spN ((w ^^^ 2 ^ f) ^^^ 2 ^ s) = 0
    rw [sp_flip (by omega), sp_flip (by omega), h.sp, Nat.zero_xor]
    intro e
    have := congrArg (· ^^^ s) e
    simp only [xor_twice, Nat.zero_xor] at this
    exact ne this
  unfold stD mendD
  rw [if_neg h1, if_neg h1, if_neg h2, if_neg h2]
  exact ⟨rfl, rfl⟩
theorem IsWd.three {b w f s t : Nat} (h : IsWd b w) (hf : f < pls b) (hs : s < pls b) (ht : t < pls b) : (dig (flips w [f, s, t])).length % 2 = 1 := by
  have hpl := (dat_len h.b4).2.2
  show (dig (((w ^^^ 2 ^ f) ^^^ 2 ^ s) ^^^ 2 ^ t)).length % 2 = 1
  rw [par_flip (by omega)]
  have := par_flip (n := w ^^^ 2 ^ f) (p := s) (by omega)
  have := par_flip (n := w) (p := f) (by omega)
  have := h.par
  omega
/-- what a row is mended to is a word -/
theorem mended_word {b n : Nat} (h4 : 4 ≤ b ∧ b ≤ 32) (hn : n < 2 ^ pls b) (h1 : (dig n).length % 2 = 1) (h2 : spN n < pls b) : IsWd b (n ^^^ 2 ^ spN n) := by
  have hpl := (dat_len h4).2.2
  refine ⟨h4, flip_lt hn h2, ?_, ?_⟩
  · rw [sp_flip (by omega), Nat.xor_self]
  · rw [par_flip (by omega)]
    omega
theorem three_other {w f s t p : Nat} (h1 : f ≠ s) (h2 : t ≠ f) (h3 : t ≠ s) : flips w [f, s, t] ^^^ 2 ^ p ≠ w := by
  intro e
  have nd : [f, s, t].Nodup := by
    refine List.nodup_cons.mpr ⟨?_, List.nodup_cons.mpr ⟨?_, List.nodup_cons.mpr ⟨List.not_mem_nil, List.nodup_nil⟩⟩⟩
    · simp only [List.mem_cons, List.not_mem_nil, or_false, not_or]
      exact ⟨h1, fun z => h2 z.symm⟩
    · simp only [List.mem_cons, List.not_mem_nil, or_false]
      exact fun z => h3 z.symm
  rw [flips_is nd, Nat.xor_assoc] at e
  have e2 := congrArg (w ^^^ ·) e
  simp only [xor_back, Nat.xor_self] at e2
  have hb : ∀ i ∈ [f, s, t], p = i := fun i hi => by
    have := congrArg (fun z => z.testBit i) e2
    simp only [Nat.testBit_xor, Nat.zero_testBit, Nat.testBit_two_pow, tb_ofP nd, decide_eq_true hi] at this
    by_cases z : p = i
    · exact z
    · rw [decide_eq_false z] at this
      cases this
  have e3 := hb f (by simp)
  have e4 := hb s (by simp)
  omega
theorem six_two {w f s t : Nat} : flips w [f, s, f, t, t, t] = flips w [s, t] := by
  show (((((w ^^^ 2 ^ f) ^^^ 2 ^ s) ^^^ 2 ^ f) ^^^ 2 ^ t) ^^^ 2 ^ t) ^^^ 2 ^ t = (w ^^^ 2 ^ s) ^^^ 2 ^ t
  rw [xor_twice, Nat.xor_assoc w, Nat.xor_comm (2 ^ f), ← Nat.xor_assoc w, xor_twice]
theorem dig_two {w f s : Nat} (hf : f < 64) (hs : s < 64) (ne : f ≠ s) : (dig (flips w [f, s] ^^^ w)).Perm [f, s] ∧ (dig (flips w [f, s] ^^^ w)).Pairwise (· < ·) := by
  have nd : [f, s].Nodup := List.nodup_cons.mpr ⟨by simpa using ne, List.nodup_cons.mpr ⟨List.not_mem_nil, List.nodup_nil⟩⟩
  rw [flips_is nd, xor_back2]
  refine ⟨dig_ofP nd fun p hp => ?_, List.Pairwise.filter _ List.pairwise_lt_range⟩
  rcases List.mem_cons.mp hp with rfl | hp
  · exact hf
  · rw [List.mem_singleton.mp hp]
    exact hs
/-- the places but two -/
def but2 (m f s : Nat) : List Nat := (List.range m).filter fun p => !(decide (p = f) || decide (p = s))
theorem but2_len {m f s : Nat} (ne : f ≠ s) : (but2 m f s).length + (if f < m then 1 else 0) + (if s < m then 1 else 0) = m := by
  unfold but2
  induction m with
  | zero => rfl
  | succ m ih =>
    rw [List.range_succ, List.filter_append, List.length_append]
    by_cases e1 : m = f
    · subst e1
      rw [List.filter_cons_of_neg (by simp)]
      have : ¬ m < m := by omega
      rw [if_neg this] at ih
      rw [if_pos (by omega)]
      by_cases q : s < m
      · rw [if_pos q] at ih
        rw [if_pos (by omega)]
        show _ + 0 + _ + _ = _
        omega
      · rw [if_neg q] at ih
        rw [if_neg (by omega)]
        show _ + 0 + _ + _ = _
        omega
    · by_cases e2 : m = s
      · subst e2
        rw [List.filter_cons_of_neg (by simp)]
        have : ¬ m < m := by omega
        rw [if_neg this] at ih
        rw [if_pos (show m < m + 1 by omega)]
        by_cases q : f < m
        · rw [if_pos q] at ih
          rw [if_pos (by omega)]
          show _ + 0 + _ + _ = _
          omega
        · rw [if_neg q] at ih
          rw [if_neg (by omega)]
          show _ + 0 + _ + _ = _
          omega
      · rw [List.filter_cons_of_pos (by simp [e1, e2])]
        have a1 : (if f < m + 1 then 1 else 0) = if f < m then 1 else 0 := by
          by_cases q : f < m
          · rw [if_pos q, if_pos (by omega)]
          · rw [if_neg q, if_neg (by omega)]
        have a2 : (if s < m + 1 then 1 else 0) = if s < m then 1 else 0 := by
          by_cases q : s < m
          · rw [if_pos q, if_pos (by omega)]
          · rw [if_neg q, if_neg (by omega)]
        rw [a1, a2]
        show _ + 1 + _ + _ = _
        omega
theorem but2_get {m f s i : Nat} (ne : f ≠ s) (hf : f < m) (hs : s < m) (hi : i + 2 < m) : ∃ t, (but2 m f s)[i]? = some t ∧ t < m ∧ t ≠ f ∧ t ≠ s := by
  have hl := but2_len (m := m) ne
  rw [if_pos hf, if_pos hs] at hl
  have hi2 : i < (but2 m f s).length := by omega
  refine ⟨(but2 m f s)[i], List.getElem?_eq_getElem hi2, ?_⟩
  obtain ⟨h1, h2⟩ := List.mem_filter.mp (List.getElem_mem hi2)
  refine ⟨List.mem_range.mp h1, ?_, ?_⟩
  · intro e
    rw [e] at h2
    simp at h2
  · intro e
    rw [e] at h2
    simp at h2
theorem second_ne {f c m : Nat} (hf : f < m) (hc : c + 1 < m) : (f + 1 + c) % m ≠ f ∧ (f + 1 + c) % m < m := by
  have hm : 0 < m := by omega
  refine ⟨?_, Nat.mod_lt _ hm⟩
  by_cases q : f + 1 + c < m
  · rw [Nat.mod_eq_of_lt q]
    omega
  · rw [Nat.mod_eq_sub_mod (by omega), Nat.mod_eq_of_lt (by omega)]
    omega
theorem odd_is {w l m : Nat} (hw : w < 2 ^ m) (hl : l < 2 ^ m) (hm : m ≤ 64) : dig (w ^^^ l) = (List.range m).filter fun p => l.testBit p != w.testBit p := by
  rw [← dig_is (Nat.xor_lt_two_pow hw hl) hm]
  unfold bitsOf
  refine List.filter_congr fun p _ => ?_
  rw [Nat.testBit_xor]
  cases w.testBit p <;> cases l.testBit p <;> rfl
end PL

set_option maxHeartbeats 2000000
namespace PL
open PySem PySem.Spec PyProof.Rows L2
/-! ### words are far apart -/
theorem code_inj {b v u : Nat} (h : 4 ≤ b ∧ b ≤ 32) (hv : v < 2 ^ b) (hu : u < 2 ^ b) (e : codeN b v = codeN b u) : v = u := by
  rw [← val_code h hv, ← val_code h hu, e]
theorem far {b v u : Nat} (h : 4 ≤ b ∧ b ≤ 32) (hv : v < 2 ^ b) (hu : u < 2 ^ b) (ne : v ≠ u) : 4 ≤ (dig (codeN b v ^^^ codeN b u)).length := by
  have hpl := (dat_len h).2.2
  have hu64 : codeN b u < 2 ^ 64 := Nat.lt_of_lt_of_le (code_lt h hu) (Nat.pow_le_pow_right (by decide) (by omega))
  have hv64 : codeN b v < 2 ^ 64 := Nat.lt_of_lt_of_le (code_lt h hv) (Nat.pow_le_pow_right (by decide) (by omega))
  obtain ⟨h1, h2⟩ := sp_xor (n := codeN b v) hu64
  rw [code_sp h hv, code_sp h hu, Nat.xor_self] at h1
  have e1 := code_par h hv
  have e2 := code_par h hu
  have hx := Nat.xor_lt_two_pow hv64 hu64
  have hne : codeN b v ^^^ codeN b u ≠ 0 := fun z => ne (code_inj h hv hu (by
    have := congrArg (· ^^^ codeN b u) z
    simp only [xor_twice, Nat.zero_xor] at this
    exact this))
  generalize codeN b v ^^^ codeN b u = d at *
  have hnd := dig_nodup d
  have ho := ofP_dig hx
  have hsp : xs (dig d) = 0 := h1
  match q : dig d with
  | [] =>
    rw [q] at ho
    exact absurd ho.symm hne
  | [p] =>
    rw [q] at h2
    simp only [List.length_cons, List.length_nil] at h2
    omega
  | [p, r] =>
    rw [q] at hsp hnd
    have z : p ^^^ (r ^^^ 0) = 0 := hsp
    rw [Nat.xor_zero] at z
    have := congrArg (· ^^^ r) z
    simp only [xor_twice, Nat.zero_xor] at this
    have h3 := (List.nodup_cons.mp hnd).1
    rw [this] at h3
    exact absurd List.mem_cons_self h3
  | [p, r, t] =>
    rw [q] at h2
    simp only [List.length_cons, List.length_nil] at h2
    omega
  | p :: r :: t :: w :: l =>
    simp only [List.length_cons]
    omega
theorem diff_len {w u : Nat} (hw : w < 2 ^ 40) (hu : u < 2 ^ 40) : (((rngI 0 40).filter fun x => hasD ((nz (dig w)).map .int) (.int x) != hasD ((nz (dig u)).map .int) (.int x)).map PyData.int).length = (dig (w ^^^ u)).length := by
  have e40 : rngI 0 40 = (List.range 40).map fun i => ((i : Nat) : Int) := rng0 40
  rw [Nat.xor_comm, odd_is hu hw (by decide), e40, List.filter_map, List.length_map, List.length_map]
  refine congrArg List.length (List.filter_congr fun p hp => ?_)
  have hp := List.mem_range.mp hp
  show (hasD ((nz (dig w)).map .int) (.int ((p : Nat) : Int)) != hasD ((nz (dig u)).map .int) (.int ((p : Nat) : Int))) = _
  rw [hasD_ints, nz_has, hasD_ints, nz_has]
  have e : ∀ n : Nat, (dig n).contains p = n.testBit p := fun n => by
    rw [Bool.eq_iff_iff, List.contains_iff_mem, dig_mem]
    exact ⟨fun z => z.2, fun z => ⟨by omega, z⟩⟩
  rw [e, e]
/-! ### values with a few bits changed -/
def moreL (o ones : List Nat) : List Nat := ((List.range o.length).filter fun j => !ones.contains (o.getD j 0) && !(o.take j).contains (o.getD j 0)).map fun j => o.getD j 0
def chgL (o ones : List Nat) : List Nat := (ones.filter fun p => !o.contains p) ++ moreL o ones
theorem more_mem {o ones : List Nat} {p : Nat} (h : p ∈ moreL o ones) : p ∈ o ∧ p ∉ ones := by
  obtain ⟨j, hj, rfl⟩ := List.mem_map.mp h
  obtain ⟨h1, h2⟩ := List.mem_filter.mp hj
  have h1 := List.mem_range.mp h1
  rw [Bool.and_eq_true] at h2
  refine ⟨?_, fun z => ?_⟩
  · rw [List.getD_eq_getElem?_getD, List.getElem?_eq_getElem h1]
    exact List.getElem_mem h1
  · rw [List.contains_iff_mem.mpr z] at h2
    exact absurd h2.1 (by decide)
theorem more_nodup (o ones : List Nat) : (moreL o ones).Nodup := by
  unfold moreL
  refine List.pairwise_map.mpr (List.Pairwise.imp_of_mem ?_ (List.Pairwise.filter _ List.pairwise_lt_range))
  intro i j hi hj hlt e
  obtain ⟨h1, _⟩ := List.mem_filter.mp hi
  obtain ⟨h3, h4⟩ := List.mem_filter.mp hj
  have h1 := List.mem_range.mp h1
  have h3 := List.mem_range.mp h3
  rw [Bool.and_eq_true] at h4
  have : o.getD j 0 ∈ o.take j := by
    rw [← e, List.getD_eq_getElem?_getD, List.getElem?_eq_getElem h1]
    exact List.mem_of_getElem? (i := i) (by rw [List.getElem?_take, if_pos hlt, List.getElem?_eq_getElem h1]; rfl)
  rw [List.contains_iff_mem.mpr this] at h4
  exact absurd h4.2 (by decide)
theorem chg_nodup {o ones : List Nat} (h : ones.Nodup) : (chgL o ones).Nodup := by
  refine List.nodup_append.mpr ⟨h.filter _, more_nodup _ _, fun a ha b hb e => ?_⟩
  subst e
  exact (more_mem hb).2 (List.mem_filter.mp ha).1
theorem chg_lt {o ones : List Nat} {b : Nat} (h : ∀ p ∈ ones, p < b) (ho : ∀ p ∈ o, p < b) : ∀ p ∈ chgL o ones, p < b := fun p hp => by
  rcases List.mem_append.mp hp with z | z
  · exact h p (List.mem_filter.mp z).1
  · exact ho p (more_mem z).1
theorem more_len (o ones : List Nat) : (moreL o ones).length ≤ o.length := by
  unfold moreL
  rw [List.length_map]
  have := List.length_filter_le (fun j => !ones.contains (o.getD j 0) && !(o.take j).contains (o.getD j 0)) (List.range o.length)
  rwa [List.length_range] at this
theorem chg_len (o ones : List Nat) : (chgL o ones).length ≤ ones.length + o.length := by
  unfold chgL
  rw [List.length_append]
  have := more_len o ones
  have := List.length_filter_le (fun p => !o.contains p) ones
  omega
theorem chg_data (o ones : List Nat) : ((nz ones).filter fun x => !hasD ((nz o).map .int) (.int x)).map PyData.int ++ (nz (moreL o ones)).map PyData.int = (nz (chgL o ones)).map .int := by
  unfold chgL nz
  rw [List.map_append, List.map_append, List.filter_map]
  congr 1
  refine congrArg (List.map _) (congrArg (List.map _) (List.filter_congr fun p _ => ?_))
  show (!hasD ((nz o).map .int) (.int ((p : Nat) : Int))) = _
  rw [hasD_ints, nz_has]
theorem more_data (o ones : List Nat) : ((List.range o.length).filter fun j => !hasD ((nz ones).map .int) (.int ((o.getD j 0 : Nat) : Int)) && !hasD ((nz (o.take j)).map .int) (.int ((o.getD j 0 : Nat) : Int))).map (fun j => nat (o.getD j 0)) = (nz (moreL o ones)).map .int := by
  unfold moreL
  have : (List.range o.length).filter (fun j => !hasD ((nz ones).map .int) (.int ((o.getD j 0 : Nat) : Int)) && !hasD ((nz (o.take j)).map .int) (.int ((o.getD j 0 : Nat) : Int))) = (List.range o.length).filter fun j => !ones.contains (o.getD j 0) && !(o.take j).contains (o.getD j 0) := List.filter_congr fun j _ => by
    rw [hasD_ints, hasD_ints, nz_has, nz_has]
  rw [this, List.map_map, List.map_map]
  rfl
theorem enum_nats (o : List Nat) : enumD ((nz o).map .int) = (List.range o.length).map fun j => .tuple [nat j, nat (o.getD j 0)] := by
  refine List.ext_getElem? fun k => ?_
  by_cases hk : k < o.length
  · have hl : k < (enumD ((nz o).map .int)).length := by rw [enum_len, nz_len]; exact hk
    obtain ⟨p, hp, e⟩ := enum_at (List.getElem?_eq_getElem hl)
    rw [List.getElem?_eq_getElem hl, e, List.getElem?_map, List.getElem?_range hk]
    show _ = some (PyData.tuple [nat k, nat (o.getD k 0)])
    rw [List.getD_eq_getElem?_getD, hp]
    rfl
  · rw [List.getElem?_eq_none (by rw [enum_len, nz_len]; omega), List.getElem?_eq_none (by rw [List.length_map, List.length_range]; omega)]
theorem sl_take {o : List Nat} {j : Nat} (h : j ≤ o.length) : PyData.list (slD ((nz o).map .int) none (some ((j : Nat) : Int))) = nats (o.take j) := by
  have e0 : HT.sIx ((nz o).map PyData.int).length 0 none = 0 := rfl
  have e1 : HT.sIx ((nz o).map PyData.int).length ((nz o).map PyData.int).length (some ((j : Nat) : Int)) = j := by
    rw [nz_len]
    unfold HT.sIx
    simp only
    split <;> omega
  unfold slD nats nz
  unfold nz at e0 e1
  rw [e0, e1, List.drop_zero, Nat.sub_zero, List.map_take, List.map_take]
theorem five {b x y : Nat} {d : D} (h : d ∈ [PyData.list [], .list [.int 0], .list [.int ((b : Int) - 1)], .list [.int ((x : Nat) : Int)], .list [.int 1, .int ((y : Nat) : Int)]]) (hb : 4 ≤ b) (hx : x < b) (hy : y < b) : ∃ o, d = nats o ∧ (∀ p ∈ o, p < b) ∧ o.length ≤ 2 := by
  simp only [List.mem_cons, List.not_mem_nil, or_false] at h
  rcases h with rfl | rfl | rfl | rfl | rfl
  · exact ⟨[], rfl, fun p hp => (nomatch hp), by decide⟩
  · exact ⟨[0], rfl, fun p hp => by rw [List.mem_singleton.mp hp]; omega, (by decide : (1 : Nat) ≤ 2)⟩
  · refine ⟨[b - 1], ?_, fun p hp => by rw [List.mem_singleton.mp hp]; omega, (by decide : (1 : Nat) ≤ 2)⟩
    rw [show (b : Int) - 1 = ((b - 1 : Nat) : Int) by omega]
    rfl
  · exact ⟨[x], rfl, fun p hp => by rw [List.mem_singleton.mp hp]; omega, (by decide : (1 : Nat) ≤ 2)⟩
  · refine ⟨[1, y], rfl, fun p hp => ?_, (by decide : (2 : Nat) ≤ 2)⟩
    simp only [List.mem_cons, List.not_mem_nil, or_false] at hp
    omega
/-! ### how many rows of each kind -/
def cntD (b : Nat) : D := .tuple [nat (2 ^ b), .int (((pls b : Nat) : Int) * ((2 ^ b : Nat) : Int)), .int (((2 ^ pls b : Nat) : Int) - (((pls b : Nat) : Int) + 1) * ((2 ^ b : Nat) : Int))]
def cls (n : Nat) : Nat := if (dig n).length % 2 = 1 then (if spN n < pls 4 then 1 else 2) else if spN n = 0 then 0 else 2
def cn (i k : Nat) : Nat := (List.range k).countP fun n => decide (cls n = i)
theorem cn_step (i k : Nat) : cn i (k + 1) = cn i k + if cls k = i then 1 else 0 := by
  unfold cn
  rw [List.range_succ, List.countP_append]
  congr 1
  by_cases e : cls k = i
  · rw [if_pos e, List.countP_cons_of_pos (by simpa using e)]
    rfl
  · rw [if_neg e, List.countP_cons_of_neg (by simpa using e)]
    rfl
theorem cn_all : cn 0 256 = 16 ∧ cn 1 256 = 128 ∧ cn 2 256 = 112 := by decide +kernel
theorem cnt4 : cntD 4 = .tuple [.int 16, .int 128, .int 112] := by
  unfold cntD
  rw [show pls 4 = 8 from rfl]
  rfl
theorem cls_cases (n : Nat) : (cls n = 0 ∧ stD 4 n = .tuple [.str "clean", .none]) ∨ (cls n = 1 ∧ stD 4 n = .tuple [.str "one", nat (spN n)]) ∨ (cls n = 2 ∧ stD 4 n = .tuple [.str "more", .none]) := by
  unfold cls stD
  by_cases o : (dig n).length % 2 = 1
  · rw [if_pos o, if_pos o]
    by_cases q : spN n < pls 4
    · rw [if_pos q, if_pos q]
      exact .inr (.inl ⟨rfl, rfl⟩)
    · rw [if_neg q, if_neg q]
      exact .inr (.inr ⟨rfl, rfl⟩)
  · rw [if_neg o, if_neg o]
    by_cases q : spN n = 0
    · rw [if_pos q, if_pos q]
      exact .inl ⟨rfl, rfl⟩
    · rw [if_neg q, if_neg q]
      exact .inr (.inr ⟨rfl, rfl⟩)
end PL

set_option maxHeartbeats 2000000
namespace K
open PySem PySem.Spec PyProof.Rows L2 PL
local macro_rules | `(tactic| walk_at "pside") => `(tactic| first | exact True.intro | assumption | omega | decide | (refine ⟨?_, ?_⟩ <;> walk_at "pside") | walk_at "pshp" | (simp only [List.length_map, List.length_cons, List.length_nil, List.length_append, List.length_range, rngI_len]; omega) | (refine leZ ?_; simp only [List.length_map, List.length_cons, List.length_nil, List.length_append, List.length_range, rngI_len]; omega))
local macro_rules | `(tactic| walk_at "pshp") => `(tactic| first | exact Shp.ok (by walk_at "psh") | exact Shp.ok (n := 9) (by walk_at "psh9"))
local macro_rules | `(tactic| walk_at "psh9") => `(tactic| first | exact Shp.int _ _ | exact Shp.bool _ _ | exact Shp.non _ | exact Shp.str _ | exact Shp.ints _ _ | exact Shp.tints _ _ | (refine Shp.tup ?_; walk_at "psha") | (refine Shp.list ?_; walk_at "psha") | exact Shp.up (by assumption) (by decide))
local macro_rules | `(tactic| walk_at "psha") => `(tactic| first | exact ShpA.nil | refine ShpA.cons (by walk_at "psh9") (by walk_at "psha"))
local macro_rules | `(tactic| walk_at "psh") => `(tactic| first | exact Shp.int _ 0 | exact Shp.bool _ 0 | exact Shp.non 0 | assumption | exact Shp.ints _ 0)
local macro_rules | `(tactic| walk_at "pix") => `(tactic| first | exact rfl | assumption | exact atI_nat (by assumption) | exact atI_get' (by assumption) (by omega) | exact IntsD.at (by assumption) (by omega) | exact IntsD.at (n := 3) ⟨[_, _, _], rfl, rfl, fun _ _ => True.intro⟩ (by omega) | exact IntsD.at (n := 2) ⟨[_, _], rfl, rfl, fun _ _ => True.intro⟩ (by omega) | exact IntsD.at (n := 4) ⟨[_, _, _, _], rfl, rfl, fun _ _ => True.intro⟩ (by omega) | exact IntsD.at (n := 5) ⟨[_, _, _, _, _], rfl, rfl, fun _ _ => True.intro⟩ (by omega))
local macro_rules | `(tactic| walk_at "ptru") => `(tactic| exact ⟨fun _ h => (nomatch h), fun _ h => (nomatch h)⟩)
local macro_rules | `(tactic| walk_at "pints") => `(tactic| first | assumption | exact ints_map | exact bools_map)
local macro_rules | `(tactic| walk_at "pS") => `(tactic| first | exact ⟨_, rfl, rfl, by walk_at "pside"⟩ | exact ⟨_, _, rfl, rfl, by walk_at "pside"⟩ | exact ⟨_, _, _, rfl, rfl, by walk_at "pside"⟩ | exact ⟨_, _, _, _, rfl, rfl, by walk_at "pside"⟩)
def topS (i : Nat) : Stmt := PySem.Challenge.pw_farword_k14_words_far_apart.main.body.getD i (.Pass ⟨0, 0, 0, 0⟩)
/-! ### the law's own numbers -/
abbrev s__law_row : Stmt := topS 10
theorem sc__law_row : FnScope ["_law_cell", "_law_many", "_law_row_here", "_law_rest", "_law_state", "_law_k"] ["_law_cell", "_law_many"] (defScope s__law_row) := ⟨rfl, rfl, rfl, by decide +kernel, rfl, by decide +kernel, by decide +kernel⟩
abbrev s__law_numbers : Stmt := topS 11
theorem sc__law_numbers : FnScope ["_law_script", "_law_many", "_law_cells", "_law_each", "_law_numbers_here", "_law_cell", "_law_number"] ["_law_script", "_law_many"] (defScope s__law_numbers) := ⟨rfl, rfl, rfl, by decide +kernel, rfl, by decide +kernel, by decide +kernel⟩
def Small (x : Int) : Prop := 0 ≤ x ∧ x < 1009
/-- a list of n small numbers -/
def numP (n : Nat) : Mn := exP (IntsD Small n) fun ds => datP (.list ds)
def S__law_row : List Mn → Mn → Prop := fun Ps R => ∃ (c n : Int), Ps = [datP (.int c), datP (.int n)] ∧ R = numP n.toNat ∧ (0 ≤ n ∧ n ≤ 100000)
def S__law_numbers : List Mn → Mn → Prop := fun Ps R => ∃ (ns : List Int) (n : Int), Ps = [datP (.list (ns.map .int)), datP (.int n)] ∧ R = numP n.toNat ∧ (0 ≤ n ∧ n ≤ 10000)
theorem small_mod (z : Int) : Small (z % 1009) := ⟨Int.emod_nonneg _ (by decide), Int.emod_lt_of_pos _ (by decide)⟩
section
variable {P : Program} {w : World} {K : PySem.W.Frag} {mg : Str → Option Value} {base : Heap}
theorem ok__law_row (df : Dfn K mg "_law_row" s__law_row ["_law_cell", "_law_many"])   (bt : Bt mg) : Cal P w K mg base "_law_row" ["_law_cell", "_law_many"] 1 S__law_row := by
  refine cal_ok df sc__law_row ?_ ?_
  · rintro _ _ ⟨c, n, rfl, rfl, _⟩
    rfl
  rintro _ _ ⟨c, n, rfl, rfl, hn⟩ f cdv A outer s H E hr J hJ
  have sb : ∀ z : Int, 0 ≤ z % 2147483647 ∧ z % 2147483647 < 2147483647 := fun z => ⟨Int.emod_nonneg _ (by decide), Int.emod_lt_of_pos _ (by decide)⟩
  refine rn_cons (rs_own 2 (goN_lst god_nil) ?_ sc__law_row.nd)
  refine rn_cons (rs_set 3 go_int ?_ sc__law_row.nd)
  refine rn_cons (rs_cut (fun Γ' => ∃ r : Int, Γ' = [.dat (.int c), .dat (.int n), .own [], .dat (.int r), .any, .any] ∧ 0 ≤ r) (rs_if (gocT (gx_c (.of hr) (go_abs (go_var 0) bt.abs) (gx_bin go_int go_int))) (fun hk => ?_) fun hk => ?_) ?_)
  · skip
    refine rn_cons (rs_set 3 (go_abs (go_var 0) bt.abs) ?_ sc__law_row.nd)
    refine rn_nil ⟨_, rfl, ?_⟩
    split <;> omega
  · skip
    exact rn_nil ⟨0, rfl, by omega⟩
  rintro _ ⟨r, rfl, hr0⟩
  refine rn_cons (rs_set 4 (gx_bin (gx_int bt.int (go_abs (go_var 0) bt.abs)) go_int) ?_ sc__law_row.nd)
  refine rn_cons (rs_for (fun k Γ' => ∃ (ds : List D) (r st : Int) (s5 : Sl), Γ' = [.dat (.int c), .dat (.int n), .own ds, .dat (.int r), .dat (.int st), s5] ∧ IntsD Small k ds ∧ 0 ≤ r ∧ (0 ≤ st ∧ st < 2147483647)) (gx_rng1 bt.range (go_var 1)) ?_ ?_ ?_ rfl)
  · exact ⟨_, _, _, _, rfl, .nil, hr0, sb _⟩
  · rintro k d _ hd ⟨ds, r, st, s5, rfl, h1, h3, h4⟩
    obtain ⟨hk, rfl⟩ := rng_get hd
    have hl : ds.length < 1000000 := by
      rw [h1.len]
      omega
    refine ⟨_, _, (gog_name 5 sc__law_row.nd), ?_⟩
    refine rn_cons (rs_set 4 (gx_bin (gx_int bt.int (gx_bin (gx_bin (gx_bin (go_var 4) go_int) go_int) (gx_bin go_int (go_var 5)))) go_int) ?_ sc__law_row.nd)
    refine rn_cons (rs_if (gocT (gx_c (.of hr) (go_var 3) go_int)) (fun hk => ?_) fun hk => ?_)
    · skip
      refine rn_cons (rs_app 2 rfl (gx_bin (gx_int bt.int (go_var 3)) go_int) (ltZ (by walk_at "pside")) ?_)
      refine rn_cons (rs_set 3 (gx_bin (go_var 3) go_int) ?_ sc__law_row.nd)
      exact rn_nil (rn_nil ⟨_, _, _, _, rfl, h1.push (small_mod _), Int.ediv_nonneg h3 (by decide), sb _⟩)
    · skip
      refine rn_cons (rs_app 2 rfl (gx_bin (gx_int bt.int (gx_bin (go_var 4) go_int)) go_int) (ltZ (by walk_at "pside")) ?_)
      exact rn_nil (rn_nil ⟨_, _, _, _, rfl, h1.push (small_mod _), h3, sb _⟩)
  · rintro _ ⟨ds, r, st, s5, rfl, h1, h3, h4⟩
    rw [rng_len, show n - 0 = n by omega] at h1
    refine rn_ice 2 rfl (by rw [hJ]; exact List.not_mem_nil) (rn_cons (rs_ret (go_ex ds h1 (go_var 2))))
theorem ok__law_numbers (df : Dfn K mg "_law_numbers" s__law_numbers ["_law_script", "_law_many"]) (c__law_row : Cal P w K mg base "_law_row" ["_law_cell", "_law_many"] 1 S__law_row)  (bt : Bt mg) : Cal P w K mg base "_law_numbers" ["_law_script", "_law_many"] 2 S__law_numbers := by
  refine cal_ok df sc__law_numbers ?_ ?_
  · rintro _ _ ⟨c, n, rfl, rfl, _⟩
    rfl
  rintro _ _ ⟨ms, n, rfl, rfl, hn⟩ f cdv A outer s H E hr J hJ
  have hcut := cut63 ms
  have hlen : (ms.take 63).length ≤ 63 := by
    rw [List.length_take]
    omega
  revert hcut hlen
  generalize ms.take 63 = cs
  intro hcut hlen
  refine rn_cons (rs_set 2 (go_is (go_of_new (goN_sl (go_var 0) goO_none (goO_some go_int))) (congrArg PyData.list hcut)) ?_ sc__law_numbers.nd)
  obtain ⟨m, em, hm⟩ : ∃ m : Int, (1 + n / (if ((cs.map PyData.int).length : Int) > 1 then ((cs.map PyData.int).length : Int) else 1)) = m ∧ (0 ≤ m ∧ m ≤ 10001) := by
    have h1 : (1 : Int) ≤ (if ((cs.map PyData.int).length : Int) > 1 then ((cs.map PyData.int).length : Int) else 1) := by split <;> omega
    generalize (if ((cs.map PyData.int).length : Int) > 1 then ((cs.map PyData.int).length : Int) else 1) = q at h1 ⊢
    have h2 : 0 ≤ n / q := Int.ediv_nonneg (by omega) (by omega)
    have h3 : n / q ≤ n := Int.ediv_le_self _ (by omega)
    exact ⟨_, rfl, by omega⟩
  have hq : (0 : Int) < (if ((cs.map PyData.int).length : Int) > 1 then ((cs.map PyData.int).length : Int) else 1) ∧ (if ((cs.map PyData.int).length : Int) > 1 then ((cs.map PyData.int).length : Int) else 1) < 1073741824 := by
    rw [List.length_map]
    split <;> omega
  refine rn_cons (rs_set 3 (go_is (gx_bin go_int (gx_bin (go_var 1) (go_max2 rfl go_int (gx_len bt.len (go_var 2)) bt.max))) (congrArg PyData.int em)) ?_ sc__law_numbers.nd)
  refine rn_cons (rs_own 4 (goN_lst god_nil) ?_ sc__law_numbers.nd)
  have h1009 : Small 0 := ⟨by omega, by omega⟩
  refine rn_cons (rs_for (fun k Γ' => ∃ (ds : List D) (s5 s6 : Sl), Γ' = [.dat (.list (ms.map .int)), .dat (.int n), .dat (.list (cs.map .int)), .dat (.int m), .own ds, s5, s6] ∧ IntsD Small (k * m.toNat) ds) (gx_it (go_var 2)) ?_ ?_ ?_ rfl)
  · exact ⟨_, _, _, rfl, by rw [Nat.zero_mul]; exact .nil⟩
  · rintro k d _ hd ⟨ds, s5, s6, rfl, h1⟩
    obtain ⟨c, hk, rfl⟩ : ∃ c, k < cs.length ∧ d = .int c := by
      rw [List.getElem?_map] at hd
      cases q : cs[k]? with
      | none =>
        rw [q] at hd
        cases hd
      | some z =>
        rw [q] at hd
        cases hd
        exact ⟨z, (List.getElem?_eq_some_iff.mp q).1, rfl⟩
    have hkm : k * m.toNat + m.toNat ≤ 63 * 10001 := by
      have : (k + 1) * m.toNat ≤ 63 * 10001 := Nat.mul_le_mul (by omega) (by omega)
      rwa [Nat.succ_mul] at this
    refine ⟨_, _, (gog_name 5 sc__law_numbers.nd), ?_⟩
    refine rn_cons (rs_forX (p := IntsD Small m.toNat) (fun es t Γ' => ∃ (ds : List D) (s6 : Sl), Γ' = [.dat (.list (ms.map .int)), .dat (.int n), .dat (.list (cs.map .int)), .dat (.int m), .own ds, .dat (.int c), s6] ∧ IntsD Small (k * m.toNat + t) ds)
      (goix_list' (gx_call c__law_row hr (by decide) (goA_cons (go_var 5) (goA_cons (go_var 3) goA_nil)))) (fun es _ => ⟨_, _, rfl, h1⟩) ?_ ?_ rfl)
    · rintro es he t d _ hd ⟨ds, s6, rfl, h2⟩
      obtain ⟨z, rfl, hz, ht⟩ := he.get hd
      have hl : ds.length < 1000000 := by
        rw [h2.len]
        omega
      refine ⟨_, _, (gog_name 6 sc__law_numbers.nd), ?_⟩
      refine rn_cons (rs_app 4 rfl (go_var 6) (ltZ (by walk_at "pside")) ?_)
      exact rn_nil ⟨_, _, rfl, h2.push hz⟩
    · rintro es he _ ⟨ds, s6, rfl, h2⟩
      rw [he.len] at h2
      exact rn_nil ⟨_, _, _, rfl, by rw [Nat.succ_mul]; exact h2⟩
  · rintro _ ⟨ds, s5, s6, rfl, h1⟩
    rw [List.length_map] at h1
    have hkm : cs.length * m.toNat ≤ 63 * 10001 := Nat.mul_le_mul hlen (by omega)
    refine rn_cons (rs_while (fun q Γ' => ∃ (ds : List D), Γ' = [.dat (.list (ms.map .int)), .dat (.int n), .dat (.list (cs.map .int)), .dat (.int m), .own ds, s5, s6] ∧ ∃ l, IntsD Small l ds ∧ l ≤ 700000 ∧ q = n.toNat - l) _ (⟨_, rfl, _, h1, by omega, rfl⟩) ?_)
    rintro q _ ⟨ds, rfl, l, h1, h2, rfl⟩
    refine ⟨_, goT_thaw 4 (gocT (gx_c (.of hr) (gx_len bt.len (go_var 4)) (go_var 1))), fun hk => ?_, fun hk => ?_⟩
    · rw [h1.len] at hk
      have hk := of_decide_eq_true hk
      have hl : ds.length < 1000000 := by
        rw [h1.len]
        omega
      refine rn_cons (rs_app 4 rfl go_int (ltZ (by walk_at "pside")) ?_)
      exact rn_nil ⟨n.toNat - (l + 1), by omega, _, rfl, l + 1, h1.push h1009, by omega, rfl⟩
    · rw [h1.len] at hk
      have hk := of_decide_eq_false hk
      refine rn_ice 4 rfl (by rw [hJ]; exact List.not_mem_nil) (rn_cons (rs_ret (go_ex (ds.take n.toNat) ?_ (go_is (go_of_new (goN_sl (go_var 4) goO_none (goO_some (go_var 1)))) (by
        rw [show n = ((n.toNat : Nat) : Int) by omega, cutHi]
        rfl)))))
      obtain ⟨ns, rfl, g2, g3⟩ := h1
      exact ⟨ns.take n.toNat, List.map_take.symm, by rw [List.length_take]; omega, fun x hx => g3 x (List.mem_of_mem_take hx)⟩
end
/-! ### places, digits, spots -/
abbrev s_check_places : Stmt := topS 1
theorem sc_check_places : FnScope ["bits", "places"] ["bits"] (defScope s_check_places) := ⟨rfl, rfl, rfl, by decide +kernel, rfl, by decide +kernel, by decide +kernel⟩
abbrev s_places_of : Stmt := topS 2
theorem sc_places_of : FnScope ["bits"] ["bits"] (defScope s_places_of) := ⟨rfl, rfl, rfl, by decide +kernel, rfl, by decide +kernel, by decide +kernel⟩
abbrev s_digits_of : Stmt := topS 4
theorem sc_digits_of : FnScope ["row", "place"] ["row"] (defScope s_digits_of) := ⟨rfl, rfl, rfl, by decide +kernel, rfl, by decide +kernel, by decide +kernel⟩
abbrev s_spot_of : Stmt := topS 5
theorem sc_spot_of : FnScope ["bits", "row", "spot", "place"] ["bits", "row"] (defScope s_spot_of) := ⟨rfl, rfl, rfl, by decide +kernel, rfl, by decide +kernel, by decide +kernel⟩
abbrev s_state_of : Stmt := topS 7
theorem sc_state_of : FnScope ["bits", "row", "spot"] ["bits", "row"] (defScope s_state_of) := ⟨rfl, rfl, rfl, by decide +kernel, rfl, by decide +kernel, by decide +kernel⟩
def S_check_places : List Mn → Mn → Prop := fun Ps R => ∃ b : Nat, Ps = [datP (nat b)] ∧ R = datP (nats (chks b)) ∧ Bt4 b
def S_places_of : List Mn → Mn → Prop := fun Ps R => ∃ b : Nat, Ps = [datP (nat b)] ∧ R = datP (nat (pls b)) ∧ Bt4 b
def S_digits_of : List Mn → Mn → Prop := fun Ps R => ∃ n : Nat, Ps = [datP (nat n)] ∧ R = datP (nats (dig n)) ∧ n < 2 ^ 64
def S_spot_of : List Mn → Mn → Prop := fun Ps R => ∃ b n : Nat, Ps = [datP (nat b), datP (nat n)] ∧ R = datP (nat (spN n)) ∧ n < 2 ^ 64
def S_state_of : List Mn → Mn → Prop := fun Ps R => ∃ b n : Nat, Ps = [datP (nat b), datP (nat n)] ∧ R = datP (stD b n) ∧ (Bt4 b ∧ n < 2 ^ 64)
def chkN (t : Nat) : List Int := 0 :: (List.range (t + 1)).map fun i => (2 : Int) ^ i
theorem chkN_len (t : Nat) : (chkN t).length = t + 2 := by
  unfold chkN
  rw [List.length_cons, List.length_map, List.length_range]
theorem chkN_succ (t : Nat) : chkN (t + 1) = chkN t ++ [(2 : Int) ^ (t + 1)] := by
  unfold chkN
  rw [List.range_succ, List.map_append]
  rfl
theorem chkN_last (t : Nat) : ∃ r, chkN t = r ++ [(2 : Int) ^ t] := by
  unfold chkN
  rw [List.range_succ, List.map_append]
  exact ⟨0 :: (List.range t).map fun i => (2 : Int) ^ i, rfl⟩
theorem chkN_nz (b : Nat) : chkN (tO b) = nz (chks b) := by
  unfold chkN chks pws nz
  rw [List.map_cons, List.map_map]
  exact congrArg (List.cons 0) (List.map_congr_left fun i _ => pow_cast i)
theorem turn_chk {b t : Nat} (h4 : 4 ≤ b) (h32 : b ≤ 32) (ht : t ≤ tO b) : (decide (2 * (2 : Int) ^ t < (b : Int) + ((t + 2 : Nat) : Int))) = decide (t < tO b) := by
  have h := tO_le b
  exact (by decide : ∀ b : Fin 33, ∀ t : Fin 6, 4 ≤ b.1 → t.1 ≤ tO b.1 → (decide (2 * (2 : Int) ^ t.1 < (b.1 : Int) + ((t.1 + 2 : Nat) : Int))) = decide (t.1 < tO b.1)) ⟨b, by omega⟩ ⟨t, by omega⟩ h4 ht
section
variable {P : Program} {w : World} {K : PySem.W.Frag} {mg : Str → Option Value} {base : Heap}
theorem ok_check_places (df : Dfn K mg "check_places" s_check_places ["bits"])   (bt : Bt mg) : Cal P w K mg base "check_places" ["bits"] 1 S_check_places := by
  refine cal_ok df sc_check_places ?_ ?_
  · rintro _ _ ⟨b, rfl, rfl, _⟩
    rfl
  rintro _ _ ⟨b, rfl, rfl, h4, h32⟩ f cdv A outer s H E hr J hJ
  refine rn_cons (rs_own 1 (goN_lst (god_cons go_int (god_cons go_int god_nil))) ?_ sc_check_places.nd)
  refine rn_cons (rs_while (fun m Γ' => ∃ ds, Γ' = [.dat (nat b), .own ds] ∧ ∃ t, t ≤ tO b ∧ m = 6 - t ∧ ds = (chkN t).map .int) _ ⟨_, rfl, 0, Nat.zero_le _, rfl, rfl⟩ ?_)
  rintro m _ ⟨ds, rfl, t, ht, rfl, rfl⟩
  obtain ⟨r, er⟩ := chkN_last t
  have hl : atI ((chkN t).map PyData.int) (-1) = some (.int (2 ^ t)) := by
    rw [er]
    exact atI_intsLast _ _
  have t5 := tO_le b
  refine ⟨decide (t < tO b), goT_is (goT_thaw 1 (gocT (gc_lt (go_mul go_int (go_ixL (go_var 1) (go_neg go_int) hl) (.inl ⟨by decide, by decide⟩)) (go_add (go_var 0) (go_len (go_var 1) bt.len))))) (by
    rw [List.length_map, chkN_len]
    exact turn_chk h4 h32 ht), fun hk => ?_, fun hk => ?_⟩
  · have hk := of_decide_eq_true hk
    refine rn_cons (rs_app 1 rfl (go_thawI 1 (go_mul go_int (go_ixL (go_var 1) (go_neg go_int) hl) (.inl ⟨by decide, by decide⟩))) (ltZ (by rw [List.length_map, chkN_len]; omega)) ?_)
    refine rn_nil ⟨6 - (t + 1), by omega, _, rfl, t + 1, by omega, rfl, ?_⟩
    rw [chkN_succ, List.map_append, Int.pow_succ, Int.mul_comm]
    first | done | rfl
  · have hk := of_decide_eq_false hk
    have e : t = tO b := by omega
    subst e
    exact rn_ice 1 rfl (by rw [hJ]; exact List.not_mem_nil) (rn_cons (rs_ret (go_is (go_var 1) (congrArg (fun l => PyData.list (l.map .int)) (chkN_nz b)))))
theorem ok_places_of (df : Dfn K mg "places_of" s_places_of ["bits"]) (c_check_places : Cal P w K mg base "check_places" ["bits"] 1 S_check_places)  (bt : Bt mg) : Cal P w K mg base "places_of" ["bits"] 2 S_places_of := by
  refine cal_ok df sc_places_of ?_ ?_
  · rintro _ _ ⟨b, rfl, rfl, _⟩
    rfl
  rintro _ _ ⟨b, rfl, rfl, hb⟩ f cdv A outer s H E hr J hJ
  refine rn_cons (rs_ret (go_is (gx_bin (go_var 0) (gx_len bt.len (gx_call c_check_places hr (by decide) (goA_cons (go_var 0) goA_nil)))) ?_))
  rw [nz_len]
  show PyData.int (_ + ((((pws (tO b)).length + 1 : Nat)) : Int)) = _
  unfold pws pls
  rw [List.length_map, List.length_range]
  exact congrArg PyData.int (by omega)
theorem ok_digits_of (df : Dfn K mg "digits_of" s_digits_of ["row"])   (bt : Bt mg) : Cal P w K mg base "digits_of" ["row"] 1 S_digits_of := by
  refine cal_ok df sc_digits_of ?_ ?_
  · rintro _ _ ⟨n, rfl, rfl, _⟩
    rfl
  rintro _ _ ⟨n, rfl, rfl, hn⟩ f cdv A outer s H E hr J hJ
  have hbz := bits_le hn
  refine rn_cons (rs_ret (go_is (go_of_new (gx_lc (own := [("place", 1)]) rfl sc_digits_of.nd (gx_rng1 bt.range (go_bits (go_var 0))) (fun k x hx => by have hx2 := rngI_mem.mp (List.mem_of_getElem? hx); exact ⟨_, _, fun s H C cl fp => (gog_name 1 sc_digits_of.nd), fun s H C cl fp => goTs_one (gocT (gx_c (.of hr) (gx_bin (gx_bin (go_var 0) (go_var 1)) go_int) go_int)), fun hq s H C cl fp => (go_var 1), by simp⟩) (by first | (show blkC ["row", "place"] (defScope s_digits_of) _ _ = true; decide +kernel) | (show blkC ["row", "place"] (relS _ (defScope s_digits_of)) _ _ = true; decide +kernel) | (show blkC ["row", "place"] (relS _ (relS _ (defScope s_digits_of))) _ _ = true; decide +kernel)))) ?_))
  exact congrArg (fun l => PyData.list (l.map .int)) (digs_is hn)
theorem ok_spot_of (df : Dfn K mg "spot_of" s_spot_of ["bits", "row"]) (c_digits_of : Cal P w K mg base "digits_of" ["row"] 1 S_digits_of)  (bt : Bt mg) : Cal P w K mg base "spot_of" ["bits", "row"] 2 S_spot_of := by
  refine cal_ok df sc_spot_of ?_ ?_
  · rintro _ _ ⟨b, n, rfl, rfl, _⟩
    rfl
  rintro _ _ ⟨b, n, rfl, rfl, hn⟩ f cdv A outer s H E hr J hJ
  refine rn_cons (rs_set 2 go_int ?_ sc_spot_of.nd)
  refine rn_cons (rs_for (fun k Γ' => ∃ s3, Γ' = [.dat (nat b), .dat (nat n), .dat (nat (xs ((dig n).take k))), s3]) (gx_it (gx_call c_digits_of hr (by decide) (goA_cons (go_var 1) goA_nil))) ?_ ?_ ?_ rfl)
  · exact ⟨_, rfl⟩
  · rintro k d _ hd ⟨s3, rfl⟩
    obtain ⟨p, hp, rfl⟩ := nz_at hd
    refine ⟨_, _, (gog_name 3 sc_spot_of.nd), ?_⟩
    refine rn_cons (gx_aug 2 rfl (go_var 3) ?_ sc_spot_of.nd)
    have e : Builtin.bitXor ((xs ((dig n).take k) : Nat) : Int) ((p : Nat) : Int) = ((xs ((dig n).take (k + 1)) : Nat) : Int) := by
      rw [bXor_n, take_push hp, xs_app]
      show _ = ((xs ((dig n).take k) ^^^ (p ^^^ 0) : Nat) : Int)
      rw [Nat.xor_zero]
    rw [e]
    exact rn_nil ⟨_, rfl⟩
  rintro _ ⟨s3, rfl⟩
  rw [nz_len, List.take_length]
  refine rn_cons (rs_ret (go_var 2))
theorem ok_state_of (df : Dfn K mg "state_of" s_state_of ["bits", "row"]) (c_places_of : Cal P w K mg base "places_of" ["bits"] 2 S_places_of) (c_digits_of : Cal P w K mg base "digits_of" ["row"] 1 S_digits_of) (c_spot_of : Cal P w K mg base "spot_of" ["bits", "row"] 2 S_spot_of)  (bt : Bt mg) : Cal P w K mg base "state_of" ["bits", "row"] 3 S_state_of := by
  refine cal_ok df sc_state_of ?_ ?_
  · rintro _ _ ⟨b, n, rfl, rfl, _⟩
    rfl
  rintro _ _ ⟨b, n, rfl, rfl, hb, hn⟩ f cdv A outer s H E hr J hJ
  refine rn_cons (rs_set 2 (gx_call c_spot_of hr (by decide) (goA_cons (go_var 0) (goA_cons (go_var 1) goA_nil))) ?_ sc_state_of.nd)
  refine rn_cons (rs_if (gocT (gx_c (.of hr) (gx_bin (gx_len bt.len (gx_call c_digits_of hr (by decide) (goA_cons (go_var 1) goA_nil))) go_int) go_int)) (fun hk => ?_) fun hk => ?_)
  · have hk : (dig n).length % 2 = 1 := by
      have := of_decide_eq_true hk
      rw [nz_len] at this
      omega
    refine rn_cons (rs_ret (go_is (gx_if (gocT (gx_c (.of hr) (go_var 2) (gx_call c_places_of hr (by decide) (goA_cons (go_var 0) goA_nil)))) (fun hk => (go_tup (god_cons go_str (god_cons (go_var 2) god_nil)))) (fun hk => (go_tup (god_cons go_str (god_cons go_non god_nil))))) ?_))
    unfold stD
    rw [if_pos hk]
    by_cases h : spN n < pls b
    · rw [if_pos h, if_pos (decide_eq_true (show (spN n : Int) < (pls b : Int) by omega))]
    · rw [if_neg h, if_neg (by simpa using (show ¬ (spN n : Int) < (pls b : Int) by omega))]
  · have hk : ¬ (dig n).length % 2 = 1 := fun z => by
      have := of_decide_eq_false hk
      rw [nz_len] at this
      omega
    refine rn_nil (rn_cons (rs_ret (go_is (gx_if (gocT (gx_c (.of hr) (go_var 2) go_int)) (fun hk => (go_tup (god_cons go_str (god_cons go_non god_nil)))) (fun hk => (go_tup (god_cons go_str (god_cons go_non god_nil))))) ?_)))
    unfold stD
    rw [if_neg hk]
    by_cases h : spN n = 0
    · rw [if_pos h, if_pos (decide_eq_true (show (spN n : Int) = 0 by omega))]
    · rw [if_neg h, if_neg (by simpa using (show ¬ (spN n : Int) = 0 by omega))]
end
/-! ### coded words and what is in them -/
abbrev s_data_places : Stmt := topS 3
theorem sc_data_places : FnScope ["bits", "checks", "place"] ["bits"] (defScope s_data_places) := ⟨rfl, rfl, rfl, by decide +kernel, rfl, by decide +kernel, by decide +kernel⟩
abbrev s_coded : Stmt := topS 6
theorem sc_coded : FnScope ["bits", "value", "row", "number", "place"] ["bits", "value"] (defScope s_coded) := ⟨rfl, rfl, rfl, by decide +kernel, rfl, by decide +kernel, by decide +kernel⟩
def S_data_places : List Mn → Mn → Prop := fun Ps R => ∃ b : Nat, Ps = [datP (nat b)] ∧ R = datP (nats (dat b)) ∧ Bt4 b
def S_coded : List Mn → Mn → Prop := fun Ps R => ∃ b v : Nat, Ps = [datP (nat b), datP (nat v)] ∧ R = datP (nat (codeN b v)) ∧ (Bt4 b ∧ v < 2 ^ b)
section
variable {P : Program} {w : World} {K : PySem.W.Frag} {mg : Str → Option Value} {base : Heap}
theorem ok_data_places (df : Dfn K mg "data_places" s_data_places ["bits"]) (c_check_places : Cal P w K mg base "check_places" ["bits"] 1 S_check_places) (c_places_of : Cal P w K mg base "places_of" ["bits"] 2 S_places_of)  (bt : Bt mg) : Cal P w K mg base "data_places" ["bits"] 3 S_data_places := by
  refine cal_ok df sc_data_places ?_ ?_
  · rintro _ _ ⟨b, rfl, rfl, _⟩
    rfl
  rintro _ _ ⟨b, rfl, rfl, hb⟩ f cdv A outer s H E hr J hJ
  have hpl := (dat_len hb).2.2
  refine rn_cons (rs_set 1 (gx_call c_check_places hr (by decide) (goA_cons (go_var 0) goA_nil)) ?_ sc_data_places.nd)
  refine rn_cons (rs_ret (go_is (go_of_new (gx_lc (own := [("place", 2)]) rfl sc_data_places.nd (gx_rng1 bt.range (gx_call c_places_of hr (by decide) (goA_cons (go_var 0) goA_nil))) (fun k x hx => by have hx2 := rngI_mem.mp (List.mem_of_getElem? hx); exact ⟨_, _, fun s H C cl fp => (gog_name 2 sc_data_places.nd), fun s H C cl fp => goTs_one (gocT (gx_c (.of hr) (go_var 2) (go_var 1))), fun hq s H C cl fp => (go_var 2), by simp⟩) (by first | (show blkC ["bits", "checks", "place"] (defScope s_data_places) _ _ = true; decide +kernel) | (show blkC ["bits", "checks", "place"] (relS _ (defScope s_data_places)) _ _ = true; decide +kernel) | (show blkC ["bits", "checks", "place"] (relS _ (relS _ (defScope s_data_places))) _ _ = true; decide +kernel)))) ?_))
  exact congrArg (fun l => PyData.list (l.map .int)) (dats_is b)
theorem ok_coded (df : Dfn K mg "coded" s_coded ["bits", "value"]) (c_data_places : Cal P w K mg base "data_places" ["bits"] 3 S_data_places) (c_digits_of : Cal P w K mg base "digits_of" ["row"] 1 S_digits_of) (c_spot_of : Cal P w K mg base "spot_of" ["bits", "row"] 2 S_spot_of)  (bt : Bt mg) : Cal P w K mg base "coded" ["bits", "value"] 4 S_coded := by
  refine cal_ok df sc_coded ?_ ?_
  · rintro _ _ ⟨b, v, rfl, rfl, _⟩
    rfl
  rintro _ _ ⟨b, v, rfl, rfl, hb, hv⟩ f cdv A outer s H E hr J hJ
  refine rn_cons (rs_set 2 go_int ?_ sc_coded.nd)
  refine rn_cons (rs_for (fun k Γ' => ∃ s3 s4, Γ' = [.dat (nat b), .dat (nat v), .dat (nat (ofP (onK b v k))), s3, s4]) (goi_enum (gx_call c_data_places hr (by decide) (goA_cons (go_var 0) goA_nil)) bt.enumerate) ?_ ?_ ?_ rfl)
  · exact ⟨_, _, rfl⟩
  · rintro k d _ hd ⟨s3, s4, rfl⟩
    obtain ⟨p, hp, rfl⟩ := enum_at hd
    have hk : k < b := by
      have := (List.getElem?_eq_some_iff.mp hp).1
      rwa [(dat_len hb).1] at this
    have ep : p = dat_ b k := by
      rw [(dat_at hb hk).1] at hp
      exact (Option.some.inj hp).symm
    subst ep
    have hdl : dat_ b k < 64 := by
      have := (dat_mem.mp (dat_at hb hk).2).1
      have := (dat_len hb).2.2
      omega
    have hb1 : (Builtin.bitAnd ((v : Int) / 2 ^ ((k : Nat) : Int).toNat) 1).natAbs < 2 ^ 64 := bit1_small v k
    refine ⟨_, _, (gog_tup rfl (gogs_cons (gog_name 3 sc_coded.nd) (gogs_cons (gog_name 4 sc_coded.nd) gogs_nil))), ?_⟩
    refine rn_cons (gx_aug 2 rfl (gx_bin (gx_bin (gx_bin (go_var 1) (go_var 3)) go_int) (go_var 4)) ?_ sc_coded.nd)
    have e := onK_step (v := v) hb hk
    refine rn_is 2 (s' := .dat (nat (ofP (onK b v (k + 1))))) rfl (congrArg (fun z => Sl.dat (PyData.int z)) e) ?_
    exact rn_nil ⟨_, _, rfl⟩
  rintro _ ⟨s3, s4, rfl⟩
  rw [enum_len, nz_len, (dat_len hb).1, onK_end hb hv]
  have h64 := on1_64 hb hv
  have h64s : spN (ofP (on1 b v)) < 2 ^ 64 := Nat.lt_of_lt_of_le (sp_lt _) (by decide)
  refine rn_cons (rs_for (fun k Γ' => ∃ s4, Γ' = [.dat (nat b), .dat (nat v), .dat (nat (ofP (on1 b v ++ ((dig (s1 b v)).take k).map fun k => 2 ^ k))), s3, s4]) (gx_it (gx_call c_digits_of hr (by decide) (goA_cons (gx_call c_spot_of hr (by decide) (goA_cons (go_var 0) (goA_cons (go_var 2) goA_nil))) goA_nil))) ?_ ?_ ?_ rfl)
  · refine ⟨s4, ?_⟩
    rw [List.take_zero, List.map_nil, List.append_nil]
  · rintro k d _ hd ⟨s4, rfl⟩
    obtain ⟨p, hp, rfl⟩ := nz_at (l := dig (s1 b v)) hd
    have hp6 := s1_dig hb hv (List.mem_of_getElem? hp)
    have hq : 0 ≤ 1 * (2 : Int) ^ ((p : Nat) : Int).toNat ∧ 1 * (2 : Int) ^ ((p : Nat) : Int).toNat ≤ 1000000 := (by decide : ∀ p : Fin 6, 0 ≤ 1 * (2 : Int) ^ ((p.1 : Nat) : Int).toNat ∧ 1 * (2 : Int) ^ ((p.1 : Nat) : Int).toNat ≤ 1000000) ⟨p, hp6⟩
    have hq1 := hq.1
    have hq2 := hq.2
    refine ⟨_, _, (gog_name 4 sc_coded.nd), ?_⟩
    refine rn_cons (gx_aug 2 rfl (gx_bin go_int (gx_bin go_int (go_var 4))) ?_ sc_coded.nd)
    have e := cks_step hb hv hp
    refine rn_is 2 (s' := .dat (nat (ofP (on1 b v ++ ((dig (s1 b v)).take (k + 1)).map fun k => 2 ^ k)))) rfl (congrArg (fun z => Sl.dat (PyData.int z)) e) ?_
    exact rn_nil ⟨_, rfl⟩
  rintro _ ⟨s4, rfl⟩
  rw [nz_len]
  have e2 : on1 b v ++ ((dig (s1 b v)).take (dig (s1 b v)).length).map (fun k => 2 ^ k) = on2 b v := by
    rw [List.take_length]
    unfold on2
    rw [cks_is hb hv]
  refine rn_is 2 (s' := .dat (nat (ofP (on2 b v)))) rfl (congrArg (fun z => Sl.dat (nat (ofP z))) e2) ?_
  have h64' := on2_64 hb hv
  refine rn_cons (rs_ret (go_is (gx_bin (go_var 2) (gx_bin (gx_len bt.len (gx_call c_digits_of hr (by decide) (goA_cons (go_var 2) goA_nil))) go_int)) ?_))
  rw [nz_len]
  exact congrArg PyData.int (code_last hb hv)
end
abbrev s_count_rows : Stmt := topS 8
theorem sc_count_rows : FnScope ["bits", "words", "rows"] ["bits"] (defScope s_count_rows) := ⟨rfl, rfl, rfl, by decide +kernel, rfl, by decide +kernel, by decide +kernel⟩
def S_count_rows : List Mn → Mn → Prop := fun Ps R => ∃ b : Nat, Ps = [datP (nat b)] ∧ R = datP (cntD b) ∧ Bt4 b
section
variable {P : Program} {w : World} {K : PySem.W.Frag} {mg : Str → Option Value} {base : Heap}
theorem ok_count_rows (df : Dfn K mg "count_rows" s_count_rows ["bits"]) (c_places_of : Cal P w K mg base "places_of" ["bits"] 2 S_places_of)  (bt : Bt mg) : Cal P w K mg base "count_rows" ["bits"] 3 S_count_rows := by
  refine cal_ok df sc_count_rows ?_ ?_
  · rintro _ _ ⟨b, rfl, rfl, _⟩
    rfl
  rintro _ _ ⟨b, rfl, rfl, hb⟩ f cdv A outer s H E hr J hJ
  have hpl := (dat_len hb).2.2
  have hb32 := hb.2
  have e1 : ∀ n : Nat, (1 : Int) * 2 ^ ((n : Nat) : Int).toNat = ((2 ^ n : Nat) : Int) := fun n => by rw [Int.one_mul, Int.toNat_natCast, pow_cast]
  refine rn_cons (rs_set 1 (go_is (d' := nat (2 ^ b)) (gx_bin go_int (go_var 0)) (congrArg PyData.int (e1 b))) ?_ sc_count_rows.nd)
  refine rn_cons (rs_set 2 (go_is (d' := nat (2 ^ pls b)) (gx_bin go_int (gx_call c_places_of hr (by decide) (goA_cons (go_var 0) goA_nil))) (congrArg PyData.int (e1 (pls b)))) ?_ sc_count_rows.nd)
  refine rn_cons (rs_ret (go_tup (god_cons (go_var 1) (god_cons (gx_bin (gx_call c_places_of hr (by decide) (goA_cons (go_var 0) goA_nil)) (go_var 1)) (god_cons (gx_bin (go_var 2) (gx_bin (gx_bin (gx_call c_places_of hr (by decide) (goA_cons (go_var 0) goA_nil)) go_int) (go_var 1))) god_nil)))))
end
/-! ### the law's own places, digits, rows -/
abbrev s__law_checks : Stmt := topS 12
theorem sc__law_checks : FnScope ["_law_bits", "_law_r", "_law_turn", "_law_k"] ["_law_bits"] (defScope s__law_checks) := ⟨rfl, rfl, rfl, by decide +kernel, rfl, by decide +kernel, by decide +kernel⟩
abbrev s__law_places : Stmt := topS 13
theorem sc__law_places : FnScope ["_law_bits"] ["_law_bits"] (defScope s__law_places) := ⟨rfl, rfl, rfl, by decide +kernel, rfl, by decide +kernel, by decide +kernel⟩
abbrev s__law_digits : Stmt := topS 14
theorem sc__law_digits : FnScope ["_law_row_here", "_law_found", "_law_place"] ["_law_row_here"] (defScope s__law_digits) := ⟨rfl, rfl, rfl, by decide +kernel, rfl, by decide +kernel, by decide +kernel⟩
abbrev s__law_row_of : Stmt := topS 15
theorem sc__law_row_of : FnScope ["_law_places_here", "_law_steps", "_law_turn", "_law_place"] ["_law_places_here"] (defScope s__law_row_of) := ⟨rfl, rfl, rfl, by decide +kernel, rfl, by decide +kernel, by decide +kernel⟩
def S__law_checks : List Mn → Mn → Prop := fun Ps R => ∃ b : Nat, Ps = [datP (nat b)] ∧ R = datP (nats (chks b)) ∧ Bt4 b
def S__law_places : List Mn → Mn → Prop := fun Ps R => ∃ b : Nat, Ps = [datP (nat b)] ∧ R = datP (nat (pls b)) ∧ Bt4 b
def S__law_digits : List Mn → Mn → Prop := fun Ps R => ∃ n : Nat, Ps = [datP (nat n)] ∧ R = datP (nats (dig n)) ∧ n < 2 ^ 64
def S__law_row_of : List Mn → Mn → Prop := fun Ps R => ∃ l : List Nat, Ps = [datP (nats l)] ∧ R = datP (nat (ofP l)) ∧ ((∀ p ∈ l, p < 41) ∧ l.length ≤ 1000)
def rAt (b : Nat) : Nat → Nat
  | 0 => 0
  | k + 1 => if (2 : Int) ^ k < (b : Int) + ((0 + (k : Nat) : Int)) + 1 then k + 1 else rAt b k
theorem rAt_bits {b : Nat} (h : Bt4 b) : rAt b 8 = tO b + 1 := (by decide : ∀ b : Fin 33, 4 ≤ b.1 → rAt b.1 8 = tO b.1 + 1) ⟨b, by have := h.2; omega⟩ h.1
theorem lits8 : ∀ k : Fin 8, atI [PyData.int 1, PyData.int 2, PyData.int 4, PyData.int 8, PyData.int 16, PyData.int 32, PyData.int 64, PyData.int 128] (0 + (k.1 : Nat) : Int) = some (.int (2 ^ k.1))
  | ⟨0, _⟩ | ⟨1, _⟩ | ⟨2, _⟩ | ⟨3, _⟩ | ⟨4, _⟩ | ⟨5, _⟩ | ⟨6, _⟩ | ⟨7, _⟩ => rfl
theorem lits8n {k : Nat} (h : k < 8) : atI [PyData.int 1, PyData.int 2, PyData.int 4, PyData.int 8, PyData.int 16, PyData.int 32, PyData.int 64, PyData.int 128] (0 + (k : Nat) : Int) = some (.int (2 ^ k)) := lits8 ⟨k, h⟩
theorem lits6 : ∀ k : Fin 6, atI [PyData.int 1, PyData.int 2, PyData.int 4, PyData.int 8, PyData.int 16, PyData.int 32] ((k.1 : Nat) : Int) = some (.int (2 ^ k.1))
  | ⟨0, _⟩ | ⟨1, _⟩ | ⟨2, _⟩ | ⟨3, _⟩ | ⟨4, _⟩ | ⟨5, _⟩ => rfl
theorem lits6x {x : Int} (h : 0 ≤ x ∧ x < 6) : atI [PyData.int 1, PyData.int 2, PyData.int 4, PyData.int 8, PyData.int 16, PyData.int 32] x = some (.int (2 ^ x.toNat)) := by
  obtain ⟨n, rfl⟩ := Int.eq_ofNat_of_zero_le h.1
  exact lits6 ⟨n, by omega⟩
theorem bits_step (k n : Nat) : bitsOf (k + 1) n = bitsOf k n ++ if n.testBit k = true then [k] else [] := by
  unfold bitsOf
  rw [List.range_succ, List.filter_append]
  congr 1
  by_cases q : n.testBit k = true
  · rw [if_pos q, List.filter_cons_of_pos q]
    rfl
  · rw [if_neg q, List.filter_cons_of_neg q]
    rfl
theorem half (k n : Nat) : (((n / 2 ^ k : Nat) : Int)) / 2 = ((n / 2 ^ (k + 1) : Nat) : Int) := by
  rw [Nat.pow_succ, ← Nat.div_div_eq_div_mul]
  rfl
theorem low_tb (k n : Nat) : decide (((n / 2 ^ k : Nat) : Int) % 2 = 1) = n.testBit k := by
  have h := dig_tb n k
  rw [shr_n] at h
  rw [h]
  cases n.testBit k <;> rfl
theorem row_sum (l : List Nat) : sumI ((nz l).map fun x => PyData.int (2 ^ x.toNat)) = ((ofP l : Nat) : Int) := by
  rw [List.map_map]
  exact sum_steps l
section
variable {P : Program} {w : World} {K : PySem.W.Frag} {mg : Str → Option Value} {base : Heap}
theorem ok__law_checks (df : Dfn K mg "_law_checks" s__law_checks ["_law_bits"])   (bt : Bt mg) : Cal P w K mg base "_law_checks" ["_law_bits"] 1 S__law_checks := by
  refine cal_ok df sc__law_checks ?_ ?_
  · rintro _ _ ⟨b, rfl, rfl, _⟩
    rfl
  rintro _ _ ⟨b, rfl, rfl, hb⟩ f cdv A outer s H E hr J hJ
  refine rn_cons (rs_set 1 go_int ?_ sc__law_checks.nd)
  refine rn_cons (rs_for (fun k Γ' => ∃ s2, Γ' = [.dat (nat b), .dat (nat (rAt b k)), s2, .any]) (gx_rng1 bt.range go_int) ?_ ?_ ?_ rfl)
  · exact ⟨_, rfl⟩
  · rintro k d _ hd ⟨s2, rfl⟩
    obtain ⟨hk, rfl⟩ := rng_get hd
    have hk : k < 8 := hk
    have hi := lits8n hk
    refine ⟨_, _, (gog_name 2 sc__law_checks.nd), ?_⟩
    refine rn_cons (rs_if (gocT (gx_c (.of hr) (gx_ix (go_lst (god_cons go_int (god_cons go_int (god_cons go_int (god_cons go_int (god_cons go_int (god_cons go_int (god_cons go_int (god_cons go_int god_nil))))))))) (go_var 2)) (gx_bin (gx_bin (go_var 0) (go_var 2)) go_int))) (fun hk => ?_) fun hk => ?_)
    · skip
      refine rn_cons (rs_set 1 (gx_bin (go_var 2) go_int) ?_ sc__law_checks.nd)
      have h := of_decide_eq_true hk
      have e : rAt b (k + 1) = k + 1 := if_pos h
      rw [e, show (0 + (k : Nat) + 1 : Int) = ((k + 1 : Nat) : Int) by omega]
      exact rn_nil (rn_nil ⟨_, rfl⟩)
    · skip
      have h := of_decide_eq_false hk
      have e : rAt b (k + 1) = rAt b k := if_neg h
      rw [e]
      exact rn_nil (rn_nil ⟨_, rfl⟩)
  rintro _ ⟨s2, rfl⟩
  have e8 : rAt b (List.map PyData.int (rngI 0 8)).length = tO b + 1 := rAt_bits hb
  have ht := tO_le b
  rw [e8]
  refine rn_cons (rs_ret (go_is (gx_bin (go_lst (god_cons go_int god_nil)) (go_of_new (gx_lcM (own := [("_law_k", 3)]) rfl sc__law_checks.nd (gx_rng1 bt.range (go_var 1)) (fun k x hx => by have hx2 := rngI_mem.mp (List.mem_of_getElem? hx); have hi := lits6x (x := x) (by omega); exact ⟨_, _, fun s H C cl fp => (gog_name 3 sc__law_checks.nd), fun s H C cl fp => (gx_ix (go_lst (god_cons go_int (god_cons go_int (god_cons go_int (god_cons go_int (god_cons go_int (god_cons go_int god_nil))))))) (go_var 3)), by simp⟩) (by first | (show blkC ["_law_bits", "_law_r", "_law_turn", "_law_k"] (defScope s__law_checks) _ _ = true; decide +kernel) | (show blkC ["_law_bits", "_law_r", "_law_turn", "_law_k"] (relS _ (defScope s__law_checks)) _ _ = true; decide +kernel) | (show blkC ["_law_bits", "_law_r", "_law_turn", "_law_k"] (relS _ (relS _ (defScope s__law_checks))) _ _ = true; decide +kernel))))) ?_))
  rw [rng0, List.map_map]
  show PyData.list (PyData.int 0 :: _) = PyData.list (PyData.int 0 :: _)
  refine congrArg (fun l => PyData.list (PyData.int 0 :: l)) ?_
  show _ = List.map PyData.int (List.map _ (pws (tO b)))
  unfold pws
  rw [List.map_map, List.map_map]
  exact List.map_congr_left fun i _ => congrArg PyData.int (pow_cast i)
theorem ok__law_places (df : Dfn K mg "_law_places" s__law_places ["_law_bits"]) (c__law_checks : Cal P w K mg base "_law_checks" ["_law_bits"] 1 S__law_checks)  (bt : Bt mg) : Cal P w K mg base "_law_places" ["_law_bits"] 2 S__law_places := by
  refine cal_ok df sc__law_places ?_ ?_
  · rintro _ _ ⟨b, rfl, rfl, _⟩
    rfl
  rintro _ _ ⟨b, rfl, rfl, hb⟩ f cdv A outer s H E hr J hJ
  refine rn_cons (rs_ret (go_is (gx_bin (go_var 0) (gx_len bt.len (gx_call c__law_checks hr (by decide) (goA_cons (go_var 0) goA_nil)))) ?_))
  rw [nz_len]
  show PyData.int (_ + ((((pws (tO b)).length + 1 : Nat)) : Int)) = _
  unfold pws pls
  rw [List.length_map, List.length_range]
  exact congrArg PyData.int (by omega)
theorem ok__law_digits (df : Dfn K mg "_law_digits" s__law_digits ["_law_row_here"])   (bt : Bt mg) : Cal P w K mg base "_law_digits" ["_law_row_here"] 1 S__law_digits := by
  refine cal_ok df sc__law_digits ?_ ?_
  · rintro _ _ ⟨n, rfl, rfl, _⟩
    rfl
  rintro _ _ ⟨n, rfl, rfl, hn⟩ f cdv A outer s H E hr J hJ
  refine rn_cons (rs_own 1 (goN_lst god_nil) ?_ sc__law_digits.nd)
  refine rn_cons (rs_set 2 go_int ?_ sc__law_digits.nd)
  refine rn_cons (rs_while (fun m Γ' => ∃ k, k ≤ 64 ∧ Γ' = [.dat (nat (n / 2 ^ k)), .own ((nz (bitsOf k n)).map .int), .dat (nat k)] ∧ m = 64 - k) _ (⟨0, by omega, by rw [Nat.pow_zero, Nat.div_one]; exact ⟨rfl, rfl⟩⟩) ?_)
  rintro m _ ⟨k, hk, rfl, rfl⟩
  have hbl : (bitsOf k n).length ≤ 64 := by
    have := List.length_filter_le (fun p => n.testBit p) (List.range k)
    rw [List.length_range] at this
    exact Nat.le_trans this hk
  refine ⟨_, (gocT (gx_c (.of hr) (go_var 0) go_int)), fun hp => ?_, fun hp => ?_⟩
  · have hp := of_decide_eq_true hp
    have hk64 : k < 64 := by
      by_cases z : k = 64
      · subst z
        rw [Nat.div_eq_of_lt hn] at hp
        omega
      · omega
    refine rn_cons (rs_cut (fun Γ' => Γ' = [.dat (nat (n / 2 ^ k)), .own ((nz (bitsOf (k + 1) n)).map .int), .dat (nat k)]) (rs_if (goT_is (gocT (gx_c (.of hr) (gx_bin (gx_int bt.int (go_var 0)) go_int) go_int)) (low_tb k n)) (fun hq => ?_) fun hq => ?_) ?_)
    · skip
      refine rn_cons (rs_app 1 rfl (go_var 2) (ltZ (by rw [nz_len]; omega)) ?_)
      rw [bits_step, if_pos hq]
      refine rn_nil ?_
      show _ = [_, Sl.own ((nz (bitsOf k n ++ [k])).map PyData.int), _]
      unfold nz
      rw [List.map_append, List.map_append]
      rfl
    · skip
      rw [bits_step, if_neg (by rw [hq]; exact Bool.false_ne_true), List.append_nil]
      exact rn_nil rfl
    rintro _ rfl
    refine rn_cons (rs_set 0 (gx_bin (go_var 0) go_int) ?_ sc__law_digits.nd)
    rw [half]
    refine rn_cons (rs_set 2 (gx_bin (go_var 2) go_int) ?_ sc__law_digits.nd)
    exact rn_nil ⟨64 - (k + 1), by omega, k + 1, by omega, rfl, rfl⟩
  · have hp := of_decide_eq_false hp
    have h0 : n / 2 ^ k = 0 := by
      rcases Nat.eq_zero_or_pos (n / 2 ^ k) with z | z
      · exact z
      · exact absurd (Int.ofNat_lt.mpr z) hp
    have hlt : n < 2 ^ k := by
      rcases Nat.lt_or_ge n (2 ^ k) with z | z
      · exact z
      · exact absurd (Nat.div_pos z (Nat.two_pow_pos k)) (by omega)
    rw [dig_is hlt hk]
    exact rn_ice 1 rfl (by rw [hJ]; exact List.not_mem_nil) (rn_cons (rs_ret (go_var 1)))
theorem ok__law_row_of (df : Dfn K mg "_law_row_of" s__law_row_of ["_law_places_here"])   (bt : Bt mg) : Cal P w K mg base "_law_row_of" ["_law_places_here"] 1 S__law_row_of := by
  refine cal_ok df sc__law_row_of ?_ ?_
  · rintro _ _ ⟨l, rfl, rfl, _⟩
    rfl
  rintro _ _ ⟨l, rfl, rfl, hl, hz⟩ f cdv A outer s H E hr J hJ
  refine rn_cons (rs_own 1 (goN_lst (god_cons go_int god_nil)) ?_ sc__law_row_of.nd)
  refine rn_cons (rs_for (fun k Γ' => ∃ s2, Γ' = [.dat (nats l), .own ((List.range (k + 1)).map fun i => .int (2 ^ i)), s2, .any]) (gx_rng1 bt.range go_int) ?_ ?_ ?_ rfl)
  · exact ⟨_, rfl⟩
  · rintro k d _ hd ⟨s2, rfl⟩
    obtain ⟨hk, rfl⟩ := rng_get hd
    have hk : k < 40 := hk
    have hlast : atI ((List.range (k + 1)).map fun i => PyData.int (2 ^ i)) (-1) = some (.int (2 ^ k)) := by
      rw [List.range_succ, List.map_append]
      have := atI_intsLast ((List.range k).map fun i => (2 : Int) ^ i) (2 ^ k)
      rw [List.map_append, List.map_map] at this
      exact this
    refine ⟨_, _, (gog_name 2 sc__law_row_of.nd), ?_⟩
    refine rn_cons (rs_app 1 rfl (go_thawI 1 (go_mul go_int (go_ixL (go_var 1) (go_neg go_int) hlast) (.inl ⟨by decide, by decide⟩))) (ltZ (by rw [List.length_map, List.length_range]; omega)) ?_)
    have e : ((List.range (k + 1)).map fun i => PyData.int (2 ^ i)) ++ [PyData.int (2 * 2 ^ k)] = (List.range (k + 1 + 1)).map fun i => PyData.int (2 ^ i) := by
      rw [List.range_succ (n := k + 1), List.map_append, List.map_singleton, Int.pow_succ, Int.mul_comm]
    refine rn_is 1 rfl (congrArg Sl.own e) ?_
    exact rn_nil ⟨_, rfl⟩
  rintro _ ⟨s2, rfl⟩
  refine rn_ice 1 rfl (by rw [hJ]; exact List.not_mem_nil) ?_
  have hat : ∀ x : Int, 0 ≤ x ∧ x < 41 → atI ((List.range 41).map fun i => PyData.int (2 ^ i)) x = some (.int (2 ^ x.toNat)) := fun x hx => by
    refine atI_get' (k := x.toNat) ?_ (by omega)
    rw [List.getElem?_map, List.getElem?_range (by omega)]
    rfl
  have hlz : (nz l).length ≤ 1000 := by rw [List.length_map]; exact hz
  refine rn_cons (rs_ret (go_is (gx_sum rfl bt.sum (go_of_new (gx_lcM (own := [("_law_place", 3)]) rfl sc__law_row_of.nd (gx_it (go_var 0)) (fun k x hx => by obtain ⟨p, hp, ep⟩ := nz_mem.mp (List.mem_of_getElem? hx); have hp2 := hl p hp; have hi := hat x (by omega); exact ⟨_, _, fun s H C cl fp => (gog_name 3 sc__law_row_of.nd), fun s H C cl fp => (gx_ix (go_var 1) (go_var 3)), by simp⟩) (by first | (show blkC ["_law_places_here", "_law_steps", "_law_turn", "_law_place"] (defScope s__law_row_of) _ _ = true; decide +kernel) | (show blkC ["_law_places_here", "_law_steps", "_law_turn", "_law_place"] (relS _ (defScope s__law_row_of)) _ _ = true; decide +kernel) | (show blkC ["_law_places_here", "_law_steps", "_law_turn", "_law_place"] (relS _ (relS _ (defScope s__law_row_of))) _ _ = true; decide +kernel))))) ?_))
  exact congrArg PyData.int (row_sum l)
end
/-! ### the law's own values -/
abbrev s__law_value : Stmt := topS 16
theorem sc__law_value : FnScope ["_law_numbers_here", "_law_at", "_law_bits", "_law_value_here", "_law_top", "_law_k"] ["_law_numbers_here", "_law_at", "_law_bits"] (defScope s__law_value) := ⟨rfl, rfl, rfl, by decide +kernel, rfl, by decide +kernel, by decide +kernel⟩
def Val (b v : Nat) : Prop := v < 2 ^ b
def S__law_value : List Mn → Mn → Prop := fun Ps R => ∃ (zs : List D) (at_ : Int) (b n : Nat), Ps = [datP (.list zs), datP (.int at_), datP (nat b)] ∧ R = exP (fun v => v < 2 ^ b) (fun v => datP (nat v)) ∧ (IntsD Small n zs ∧ (0 ≤ at_ ∧ at_ + 4 ≤ n ∧ 4 ≤ b ∧ b ≤ 32))
section
variable {P : Program} {w : World} {K : PySem.W.Frag} {mg : Str → Option Value} {base : Heap}
theorem ok__law_value (df : Dfn K mg "_law_value" s__law_value ["_law_numbers_here", "_law_at", "_law_bits"])   (bt : Bt mg) : Cal P w K mg base "_law_value" ["_law_numbers_here", "_law_at", "_law_bits"] 1 S__law_value := by
  refine cal_ok df sc__law_value ?_ ?_
  · rintro _ _ ⟨zs, at_, b, n, rfl, rfl, _⟩
    rfl
  rintro _ _ ⟨zs, at_, b, n, rfl, rfl, hz, hb⟩ f cdv A outer s H E hr J hJ
  refine rn_cons (rs_set 3 (gx_bin (gx_bin (gx_bin (gx_ix (go_var 0) (go_var 1)) (gx_bin go_int (gx_ix (go_var 0) (gx_bin (go_var 1) go_int)))) (gx_bin (gx_bin go_int go_int) (gx_ix (go_var 0) (gx_bin (go_var 1) go_int)))) (gx_bin (gx_bin (gx_bin go_int go_int) go_int) (gx_ix (go_var 0) (gx_bin (go_var 1) go_int)))) ?_ sc__law_value.nd)
  refine rn_cons (rs_set 4 go_int ?_ sc__law_value.nd)
  generalize (nthI zs at_ + 1009 * nthI zs (at_ + 1) + 1009 * 1009 * nthI zs (at_ + 2) + 1009 * 1009 * 1009 * nthI zs (at_ + 3)) = v
  refine rn_cons (rs_for (fun k Γ' => ∃ t s5, Γ' = [.dat (.list zs), .dat (.int at_), .dat (nat b), .dat (.int v), .dat (.int t), s5] ∧ t = 2 ^ (4 + k)) (gx_rng1 bt.range (gx_bin (go_var 2) go_int)) ?_ ?_ ?_ rfl)
  · exact ⟨_, _, rfl, rfl⟩
  · rintro k d _ hd ⟨t, s5, rfl, rfl⟩
    obtain ⟨hk, rfl⟩ := rng_get hd
    refine ⟨_, _, (gog_name 5 sc__law_value.nd), ?_⟩
    refine rn_cons (rs_set 4 (gx_bin go_int (go_var 4)) ?_ sc__law_value.nd)
    refine rn_nil ⟨_, _, rfl, ?_⟩
    rw [← Nat.add_assoc, Int.pow_succ, Int.mul_comm]
  · rintro _ ⟨t, s5, rfl, rfl⟩
    rw [rng_len, show 4 + ((b : Int) - 4 - 0).toNat = b by omega]
    have hp : (0 : Int) < 2 ^ b := by
      rw [pow_cast]
      have := Nat.two_pow_pos b
      omega
    have hm : 0 ≤ v % 2 ^ b ∧ v % 2 ^ b < 2 ^ b := ⟨Int.emod_nonneg _ (by omega), Int.emod_lt_of_pos _ hp⟩
    obtain ⟨w1, hw1⟩ := Int.eq_ofNat_of_zero_le hm.1
    have hw2 : w1 < 2 ^ b := by
      have := hm.2
      rw [hw1, pow_cast] at this
      exact Int.ofNat_lt.mp this
    obtain ⟨c, hc⟩ : ∃ c, nthI zs (at_ + 3) % 5 = c := ⟨_, rfl⟩
    have hc5 : 0 ≤ c ∧ c < 5 := by omega
    obtain ⟨d, hd, hdv⟩ : ∃ d : Nat, d < 2 ^ b ∧ atI [PyData.int (v % 2 ^ b), PyData.int (v % 2 ^ b), PyData.int (v % 2 ^ b), PyData.int 0, PyData.int (2 ^ b - 1)] c = some (nat d) := by
      have h1 : (2 : Int) ^ b - 1 = ((2 ^ b - 1 : Nat) : Int) := by
        rw [pow_cast]
        have := Nat.two_pow_pos b
        omega
      have hb0 := Nat.two_pow_pos b
      rw [hw1, h1]
      have : c = 0 ∨ c = 1 ∨ c = 2 ∨ c = 3 ∨ c = 4 := by omega
      rcases this with rfl | rfl | rfl | rfl | rfl
      · exact ⟨w1, hw2, rfl⟩
      · exact ⟨w1, hw2, rfl⟩
      · exact ⟨w1, hw2, rfl⟩
      · exact ⟨0, hb0, rfl⟩
      · exact ⟨2 ^ b - 1, by omega, rfl⟩
    rw [← hc] at hdv
    refine rn_cons (rs_ret (go_ex d hd (gx_ix (go_lst (god_cons (gx_bin (gx_int bt.int (go_var 3)) (go_var 4)) (god_cons (gx_bin (gx_int bt.int (go_var 3)) (go_var 4)) (god_cons (gx_bin (gx_int bt.int (go_var 3)) (go_var 4)) (god_cons go_int (god_cons (gx_bin (go_var 4) go_int) god_nil)))))) (gx_bin (gx_int bt.int (gx_ix (go_var 0) (gx_bin (go_var 1) go_int))) go_int))))
end
abbrev s_law : Stmt := topS 17
theorem sc_law : FnScope ["_law_script", "_law_numbers_here", "_law_bits", "_law_words", "_law_values", "_law_k", "_law_value_here", "_law_ones", "_law_other", "_law_more", "_law_j", "_law_one", "_law_changed", "_law_place", "_law_many", "_law_clean", "_law_rows", "_law_found", "_law_row_here"] ["_law_script"] (defScope s_law) := ⟨rfl, rfl, rfl, by decide +kernel, rfl, by decide +kernel, by decide +kernel⟩
def wdsV (b : Nat) (vs : List Nat) : List D := vs.map fun v => nats (dig (codeN b v))
theorem vals_has (vs : List Nat) (v : Nat) : hasD ((nz vs).map .int) (.int ((v : Nat) : Int)) = vs.contains v := by rw [hasD_ints, nz_has]
theorem wds_at {b k : Nat} {vs : List Nat} {v : Nat} (h : vs[k]? = some v) {j : Int} (e : j = (k : Nat)) : atI (wdsV b vs) j = some (nats (dig (codeN b v))) := by
  refine atI_get' (k := k) ?_ (by omega)
  unfold wdsV
  rw [List.getElem?_map, h]
  rfl
theorem dbl (k : Nat) : (2 : Int) * ((2 ^ k : Nat) : Int) = ((2 ^ (k + 1) : Nat) : Int) := by
  rw [Nat.pow_succ]
  omega
theorem shp_cnt (x y z : Int) : SeqAt.shaped (PyData.tuple [.int x, .int y, .int z]) = true := Shp.ok (n := 9) (Shp.tup (ShpA.cons (Shp.int _ _) (ShpA.cons (Shp.int _ _) (ShpA.cons (Shp.int _ _) ShpA.nil))))
section
variable {P : Program} {w : World} {K : PySem.W.Frag} {mg : Str → Option Value} {base : Heap}
theorem ok_law {f : Addr} {fd : FuncData} (F : Fun K "law" "law" s_law f fd) (c_coded : Cal P w K mg base "coded" ["bits", "value"] 4 S_coded) (c_state_of : Cal P w K mg base "state_of" ["bits", "row"] 3 S_state_of) (c_count_rows : Cal P w K mg base "count_rows" ["bits"] 3 S_count_rows) (c__law_numbers : Cal P w K mg base "_law_numbers" ["_law_script", "_law_many"] 2 S__law_numbers) (c__law_places : Cal P w K mg base "_law_places" ["_law_bits"] 2 S__law_places) (c__law_digits : Cal P w K mg base "_law_digits" ["_law_row_here"] 1 S__law_digits) (c__law_row_of : Cal P w K mg base "_law_row_of" ["_law_places_here"] 1 S__law_row_of) (c__law_value : Cal P w K mg base "_law_value" ["_law_numbers_here", "_law_at", "_law_bits"] 1 S__law_value)  (bt : Bt mg) : FnOk P w K mg base CX0 5 f fd ["_law_script"] (spLaw K) := by
  refine def_ok F sc_law (fun _ => rfl) fun ns hns cdv A outer s H E hr J hJ => ?_
  refine rn_cons (rs_set 1 (gx_call c__law_numbers hr (by decide) (goA_cons (go_var 0) (goA_cons go_int goA_nil))) ?_ sc_law.nd)
  refine rn_ex 1 rfl fun zs hz => ?_
  have hz : IntsD Small 60 zs := hz
  refine rn_cons (rs_set 2 (gx_bin go_int (gx_bin (gx_int bt.int (gx_ix (go_var 1) go_int)) go_int)) ?_ sc_law.nd)
  obtain ⟨b, hbe, hb⟩ : ∃ b : Nat, 4 + nthI zs 0 % 29 = ((b : Nat) : Int) ∧ Bt4 b := ⟨(4 + nthI zs 0 % 29).toNat, by omega, by unfold Bt4; omega⟩
  rw [hbe]
  have hpl := (dat_len hb).2.2
  have hb4 : 4 ≤ b ∧ b ≤ 32 := hb
  have hb0 : 0 < ((b : Nat) : Int) := by omega
  refine rn_cons (rs_own 3 (goN_lst god_nil) ?_ sc_law.nd)
  refine rn_cons (rs_own 4 (goN_lst god_nil) ?_ sc_law.nd)
  refine rn_cons (rs_for (fun k Γ' => ∃ vs s5 s6 s7 s8 s9 s10 s12, Γ' = [.dat (.list (ns.map .int)), .dat (.list zs), .dat (nat b), .own (wdsV b vs), .own ((nz vs).map .int), s5, s6, s7, s8, s9, s10, .any, s12, .any, .any, .any, .any, .any, .any] ∧ vs.Nodup ∧ (∀ v ∈ vs, v < 2 ^ b) ∧ vs.length ≤ 5 * k) (gx_rng1 bt.range go_int) ?_ ?_ ?_ rfl)
  · exact ⟨[], _, _, _, _, _, _, _, rfl, List.nodup_nil, fun v hv => (nomatch hv), Nat.zero_le _⟩
  · rintro k d _ hd ⟨vs, s5, s6, s7, s8, s9, s10, s12, rfl, hvn, hvl, hvk⟩
    obtain ⟨hk, rfl⟩ := rng_get hd
    have hk : k < 5 := hk
    refine ⟨_, _, (gog_name 5 sc_law.nd), ?_⟩
    refine rn_cons (rs_set 6 (gx_call c__law_value hr (by decide) (goA_cons (go_var 1) (goA_cons (gx_bin go_int (gx_bin go_int (go_var 5))) (goA_cons (go_var 2) goA_nil)))) ?_ sc_law.nd)
    refine rn_ex 6 rfl fun v hv => ?_
    have hv64 : v < 2 ^ 64 := Nat.lt_of_lt_of_le hv (Nat.pow_le_pow_right (by decide) (by omega))
    have hdv : ∀ p ∈ dig v, p < b := fun p hp => dig_lt hv (by omega) hp
    refine rn_cons (rs_set 7 (gx_call c__law_digits hr (by decide) (goA_cons (go_var 6) goA_nil)) ?_ sc_law.nd)
    obtain ⟨x, hx, hx2⟩ : ∃ x : Nat, nthI zs (22 + (0 + (k : Nat) : Int)) % ((b : Nat) : Int) = ((x : Nat) : Int) ∧ x < b := by
      have h1 := Int.emod_nonneg (nthI zs (22 + (0 + (k : Nat) : Int))) (Int.ne_of_gt hb0)
      have h2 := Int.emod_lt_of_pos (nthI zs (22 + (0 + (k : Nat) : Int))) hb0
      exact ⟨_, (Int.toNat_of_nonneg h1).symm, by omega⟩
    obtain ⟨y, hy, hy2⟩ : ∃ y : Nat, nthI zs (27 + (0 + (k : Nat) : Int)) % ((b : Nat) : Int) = ((y : Nat) : Int) ∧ y < b := by
      have h1 := Int.emod_nonneg (nthI zs (27 + (0 + (k : Nat) : Int))) (Int.ne_of_gt hb0)
      have h2 := Int.emod_lt_of_pos (nthI zs (27 + (0 + (k : Nat) : Int))) hb0
      exact ⟨_, (Int.toNat_of_nonneg h1).symm, by omega⟩
    refine rn_cons (rs_for (fun j Γ' => ∃ vs s8 s9 s10 s12, Γ' = [.dat (.list (ns.map .int)), .dat (.list zs), .dat (nat b), .own (wdsV b vs), .own ((nz vs).map .int), .dat (.int (0 + (k : Nat))), .dat (nat v), .dat (nats (dig v)), s8, s9, s10, .any, s12, .any, .any, .any, .any, .any, .any] ∧ vs.Nodup ∧ (∀ v ∈ vs, v < 2 ^ b) ∧ vs.length ≤ 5 * k + j) (gx_it (go_lst (god_cons (go_lst god_nil) (god_cons (go_lst (god_cons go_int god_nil)) (god_cons (go_lst (god_cons (gx_bin (go_var 2) go_int) god_nil)) (god_cons (go_lst (god_cons (gx_bin (gx_int bt.int (gx_ix (go_var 1) (gx_bin go_int (go_var 5)))) (go_var 2)) god_nil)) (god_cons (go_lst (god_cons go_int (god_cons (gx_bin (gx_int bt.int (gx_ix (go_var 1) (gx_bin go_int (go_var 5)))) (go_var 2)) god_nil))) god_nil))))))) ?_ ?_ ?_ rfl)
    · exact ⟨vs, _, _, _, _, rfl, hvn, hvl, hvk⟩
    · rintro j d _ hd ⟨vs, s8, s9, s10, s12, rfl, hvn, hvl, hvk⟩
      have hj : j < 5 := (List.getElem?_eq_some_iff.mp hd).1
      have hd := List.mem_of_getElem? hd
      rw [hx, hy] at hd
      obtain ⟨o, rfl, ho, hol⟩ := five hd hb4.1 hx2 hy2
      have hlz : (nz (dig v)).length ≤ 64 := by rw [List.length_map]; exact dig_len v
      have hlo : (List.range o.length).length < 1000000 := by rw [List.length_range]; omega
      refine ⟨_, _, (gog_name 8 sc_law.nd), ?_⟩
      refine rn_cons (rs_lc 9 (own := [("_law_j", 10), ("_law_one", 11)]) rfl sc_law.nd (goi_is (goi_enum (go_var 8) bt.enumerate) (enum_nats o)) (fun k x hx => by have hx2 := List.mem_range.mp (List.mem_of_getElem? hx); exact ⟨_, _, fun s H C cl fp => (gog_tup rfl (gogs_cons (gog_name 10 sc_law.nd) (gogs_cons (gog_name 11 sc_law.nd) gogs_nil))), fun s H C cl fp => goTs_one (goW_T (goW_and (gocT (gx_c (.of hr) (go_var 11) (go_var 7))) fun hk => (goW_and1 (gocT (gx_c (.of hr) (go_var 11) (go_is (go_of_new (goN_sl (go_var 8) goO_none (goO_some (go_var 10)))) (sl_take (Nat.le_of_lt hx2)))))))), fun hq s H C cl fp => (go_var 11), by simp⟩) (by first | (show blkC ["_law_script", "_law_numbers_here", "_law_bits", "_law_words", "_law_values", "_law_k", "_law_value_here", "_law_ones", "_law_other", "_law_more", "_law_j", "_law_one", "_law_changed", "_law_place", "_law_many", "_law_clean", "_law_rows", "_law_found", "_law_row_here"] (defScope s_law) _ _ = true; decide +kernel) | (show blkC ["_law_script", "_law_numbers_here", "_law_bits", "_law_words", "_law_values", "_law_k", "_law_value_here", "_law_ones", "_law_other", "_law_more", "_law_j", "_law_one", "_law_changed", "_law_place", "_law_many", "_law_clean", "_law_rows", "_law_found", "_law_row_here"] (relS _ (defScope s_law)) _ _ = true; decide +kernel) | (show blkC ["_law_script", "_law_numbers_here", "_law_bits", "_law_words", "_law_values", "_law_k", "_law_value_here", "_law_ones", "_law_other", "_law_more", "_law_j", "_law_one", "_law_changed", "_law_place", "_law_many", "_law_clean", "_law_rows", "_law_found", "_law_row_here"] (relS _ (relS _ (defScope s_law))) _ _ = true; decide +kernel)) (sw_true rfl rfl rfl (by decide +kernel)) ?_)
      refine rn_is 9 rfl (congrArg (fun l => Sl.dat (PyData.list l)) (more_data o (dig v))) ?_
      have hcn := chg_nodup (o := o) (dig_nodup v)
      have hcl := chg_lt hdv ho
      have hc41 : (∀ p ∈ chgL o (dig v), p < 41) ∧ (chgL o (dig v)).length ≤ 1000 := ⟨fun p hp => by have := hcl p hp; omega, by
        have := chg_len o (dig v)
        have := dig_len v
        omega⟩
      have hcb : ofP (chgL o (dig v)) < 2 ^ b := ofP_lt hcn hcl
      have hsz : (((nz (dig v)).filter fun x => !hasD ((nz o).map .int) (.int x)).map PyData.int).length + ((nz (moreL o (dig v))).map PyData.int).length ≤ sizeLine := leZ (by
        rw [← List.length_append, chg_data, nz_len]
        omega)
      refine rn_cons (rs_set 12 (gx_call c__law_row_of hr (by decide) (goA_cons (go_is (d' := nats (chgL o (dig v))) (go_of_new (goN_cat (go_of_new (gx_lc (own := [("_law_one", 11)]) rfl sc_law.nd (gx_it (go_var 7)) (fun k x hx => ⟨_, _, fun s H C cl fp => (gog_name 11 sc_law.nd), fun s H C cl fp => goTs_one (gocT (gx_c (.of hr) (go_var 11) (go_var 8))), fun hq s H C cl fp => (go_var 11), by simp⟩) (by first | (show blkC ["_law_script", "_law_numbers_here", "_law_bits", "_law_words", "_law_values", "_law_k", "_law_value_here", "_law_ones", "_law_other", "_law_more", "_law_j", "_law_one", "_law_changed", "_law_place", "_law_many", "_law_clean", "_law_rows", "_law_found", "_law_row_here"] (defScope s_law) _ _ = true; decide +kernel) | (show blkC ["_law_script", "_law_numbers_here", "_law_bits", "_law_words", "_law_values", "_law_k", "_law_value_here", "_law_ones", "_law_other", "_law_more", "_law_j", "_law_one", "_law_changed", "_law_place", "_law_many", "_law_clean", "_law_rows", "_law_found", "_law_row_here"] (relS _ (defScope s_law)) _ _ = true; decide +kernel) | (show blkC ["_law_script", "_law_numbers_here", "_law_bits", "_law_words", "_law_values", "_law_k", "_law_value_here", "_law_ones", "_law_other", "_law_more", "_law_j", "_law_one", "_law_changed", "_law_place", "_law_many", "_law_clean", "_law_rows", "_law_found", "_law_row_here"] (relS _ (relS _ (defScope s_law))) _ _ = true; decide +kernel)))) (go_var 9) hsz)) (congrArg PyData.list (chg_data o (dig v)))) goA_nil)) ?_ sc_law.nd)
      generalize ofP (chgL o (dig v)) = c at *
      have hc64 : codeN b c < 2 ^ 64 := Nat.lt_of_lt_of_le (code_lt hb4 hcb) (Nat.pow_le_pow_right (by decide) (by omega))
      refine rn_cons (rs_if (goT_is (goT_thaw 4 (gocT (gx_c (.of hr) (go_var 12) (go_var 4)))) (congrArg (! ·) (vals_has vs c))) (fun hq => ?_) fun hq => ?_)
      · skip
        have hnc : c ∉ vs := fun z => by
          rw [List.contains_iff_mem.mpr z] at hq
          cases hq
        refine rn_cons (rs_app 4 rfl (go_var 12) (ltZ (by rw [nz_len]; omega)) ?_)
        refine rn_cons (rs_app 3 rfl (gx_call c__law_digits hr (by decide) (goA_cons (gx_call c_coded hr (by decide) (goA_cons (go_var 2) (goA_cons (go_var 12) goA_nil))) goA_nil)) (ltZ (by unfold wdsV; rw [List.length_map]; omega)) ?_)
        have e1 : wdsV b vs ++ [nats (dig (codeN b c))] = wdsV b (vs ++ [c]) := by
          unfold wdsV
          rw [List.map_append]
          rfl
        have e2 : (nz vs).map PyData.int ++ [nat c] = (nz (vs ++ [c])).map .int := by
          unfold nz
          rw [List.map_append, List.map_append]
          rfl
        refine rn_nil (rn_nil ⟨vs ++ [c], _, _, _, _, by rw [← e1, ← e2]; rfl, ?_, ?_, ?_⟩)
        · exact List.nodup_append.mpr ⟨hvn, List.nodup_cons.mpr ⟨List.not_mem_nil, List.nodup_nil⟩, fun a ha b hb e => hnc (by rw [← List.mem_singleton.mp hb, ← e]; exact ha)⟩
        · intro v hv
          rcases List.mem_append.mp hv with z | z
          · exact hvl v z
          · rw [List.mem_singleton.mp z]
            exact hcb
        · rw [List.length_append]
          show _ + 1 ≤ _
          omega
      · skip
        exact rn_nil (rn_nil ⟨vs, _, _, _, _, rfl, hvn, hvl, by omega⟩)
    rintro _ ⟨vs, s8, s9, s10, s12, rfl, hvn, hvl, hvk⟩
    exact rn_nil ⟨vs, _, _, _, _, _, _, _, rfl, hvn, hvl, by
      have : List.length [PyData.list [], .list [.int 0], .list [.int ((b : Int) - 1)], .list [.int (nthI zs (22 + (0 + (k : Nat) : Int)) % ((b : Nat) : Int))], .list [.int 1, .int (nthI zs (27 + (0 + (k : Nat) : Int)) % ((b : Nat) : Int))]] = 5 := rfl
      omega⟩
  rintro _ ⟨vs, s5, s6, s7, s8, s9, s10, s12, rfl, hvn, hvl, hvk⟩
  refine rn_ice 3 rfl (by rw [hJ]; exact List.not_mem_nil) ?_
  have hvz : vs.length ≤ 25 := hvk
  have hwl : (wdsV b vs).length = vs.length := by unfold wdsV; rw [List.length_map]
  have hr62 : -(2 ^ 62) ≤ (((wdsV b vs).length : Nat) : Int) ∧ (((wdsV b vs).length : Nat) : Int) < 2 ^ 62 := by omega
  refine rn_cons (rs_for (fun k Γ' => ∃ s5 s10, Γ' = [.dat (.list (ns.map .int)), .dat (.list zs), .dat (nat b), .dat (.list (wdsV b vs)), .own ((nz vs).map .int), s5, s6, s7, s8, s9, s10, .any, s12, .any, .any, .any, .any, .any, .any]) (gx_rng1 bt.range (gx_len bt.len (go_var 3))) ?_ ?_ ?_ rfl)
  · exact ⟨_, _, rfl⟩
  · rintro k d _ hd ⟨s5, s10, rfl⟩
    obtain ⟨hk, rfl⟩ := rng_get hd
    have hk : k < vs.length := by omega
    refine ⟨_, _, (gog_name 5 sc_law.nd), ?_⟩
    refine rn_cons (rs_for (fun j Γ' => ∃ s10, Γ' = [.dat (.list (ns.map .int)), .dat (.list zs), .dat (nat b), .dat (.list (wdsV b vs)), .own ((nz vs).map .int), .dat (.int (0 + (k : Nat))), s6, s7, s8, s9, s10, .any, s12, .any, .any, .any, .any, .any, .any]) (gx_rng1 bt.range (go_var 5)) ?_ ?_ ?_ rfl)
    · exact ⟨_, rfl⟩
    · rintro j d _ hd ⟨s10, rfl⟩
      obtain ⟨hj, rfl⟩ := rng_get hd
      have hj : j < k := by omega
      have hvk2 := List.getElem?_eq_getElem hk
      have hvj2 := List.getElem?_eq_getElem (Nat.lt_trans hj hk)
      have hne : vs[k] ≠ vs[j] := fun e => absurd e.symm (List.pairwise_iff_getElem.mp hvn j k (Nat.lt_trans hj hk) hk hj)
      have h1 := hvl _ (List.getElem_mem hk)
      have h2 := hvl _ (List.getElem_mem (Nat.lt_trans hj hk))
      generalize vs[k] = v at *
      generalize vs[j] = u at *
      have ha1 : atI (wdsV b vs) (0 + (k : Nat) : Int) = some (nats (dig (codeN b v))) := wds_at hvk2 (by omega)
      have ha2 : atI (wdsV b vs) (0 + (j : Nat) : Int) = some (nats (dig (codeN b u))) := wds_at hvj2 (by omega)
      have hfar := far hb4 h1 h2 hne
      have h40 : ∀ {n : Nat}, n < 2 ^ pls b → n < 2 ^ 40 := fun h => Nat.lt_of_lt_of_le h (Nat.pow_le_pow_right (by decide) (by omega))
      have hdl := diff_len (h40 (code_lt hb4 h1)) (h40 (code_lt hb4 h2))
      refine ⟨_, _, (gog_name 10 sc_law.nd), ?_⟩
      refine rn_cons (rs_if (k := false) (goT_is (gocT (gx_c (.of hr) (gx_len bt.len (go_of_new (gx_lc (own := [("_law_place", 13)]) rfl sc_law.nd (gx_rng1 bt.range go_int) (fun k x hx => ⟨_, _, fun s H C cl fp => (gog_name 13 sc_law.nd), fun s H C cl fp => goTs_one (gocT (gx_c (.of hr) (goc (gx_c (.of hr) (go_var 13) (gx_ix (go_var 3) (go_var 5)))) (goc (gx_c (.of hr) (go_var 13) (gx_ix (go_var 3) (go_var 10)))))), fun hq s H C cl fp => (go_var 13), by simp⟩) (by first | (show blkC ["_law_script", "_law_numbers_here", "_law_bits", "_law_words", "_law_values", "_law_k", "_law_value_here", "_law_ones", "_law_other", "_law_more", "_law_j", "_law_one", "_law_changed", "_law_place", "_law_many", "_law_clean", "_law_rows", "_law_found", "_law_row_here"] (defScope s_law) _ _ = true; decide +kernel) | (show blkC ["_law_script", "_law_numbers_here", "_law_bits", "_law_words", "_law_values", "_law_k", "_law_value_here", "_law_ones", "_law_other", "_law_more", "_law_j", "_law_one", "_law_changed", "_law_place", "_law_many", "_law_clean", "_law_rows", "_law_found", "_law_row_here"] (relS _ (defScope s_law)) _ _ = true; decide +kernel) | (show blkC ["_law_script", "_law_numbers_here", "_law_bits", "_law_words", "_law_values", "_law_k", "_law_value_here", "_law_ones", "_law_other", "_law_more", "_law_j", "_law_one", "_law_changed", "_law_place", "_law_many", "_law_clean", "_law_rows", "_law_found", "_law_row_here"] (relS _ (relS _ (defScope s_law))) _ _ = true; decide +kernel))))) go_int)) ?_) (fun h => nomatch h) fun _ => ?_)
      · rw [hdl]
        exact decide_eq_false (by omega)
      exact rn_nil (rn_nil ⟨_, rfl⟩)
    rintro _ ⟨s10, rfl⟩
    exact rn_nil ⟨_, _, rfl⟩
  rintro _ ⟨s5, s10, rfl⟩
  refine rn_cons (rs_set 14 (gx_call c__law_places hr (by decide) (goA_cons (go_var 2) goA_nil)) ?_ sc_law.nd)
  refine rn_cons (rs_unp (go_tup (god_cons go_int (god_cons go_int god_nil))) (gog_tup rfl (gogs_cons (gog_name 15 sc_law.nd) (gogs_cons (gog_name 16 sc_law.nd) gogs_nil))) ?_)
  refine rn_cons (rs_for (fun k Γ' => ∃ s5, Γ' = [.dat (.list (ns.map .int)), .dat (.list zs), .dat (nat b), .dat (.list (wdsV b vs)), .own ((nz vs).map .int), s5, s6, s7, s8, s9, s10, .any, s12, .any, .dat (nat (pls b)), .dat (nat (2 ^ k)), .dat (.int 1), .any, .any]) (gx_rng1 bt.range (go_var 2)) ?_ ?_ ?_ rfl)
  · exact ⟨_, rfl⟩
  · rintro k d _ hd ⟨s5, rfl⟩
    refine ⟨_, _, (gog_name 5 sc_law.nd), ?_⟩
    refine rn_cons (rs_set 15 (gx_bin go_int (go_var 15)) ?_ sc_law.nd)
    rw [dbl]
    exact rn_nil ⟨_, rfl⟩
  rintro _ ⟨s5, rfl⟩
  rw [rng_len, show (((b : Nat) : Int) - 0).toNat = b by omega]
  refine rn_cons (rs_for (fun k Γ' => ∃ s5, Γ' = [.dat (.list (ns.map .int)), .dat (.list zs), .dat (nat b), .dat (.list (wdsV b vs)), .own ((nz vs).map .int), s5, s6, s7, s8, s9, s10, .any, s12, .any, .dat (nat (pls b)), .dat (nat (2 ^ b)), .dat (nat (2 ^ k)), .any, .any]) (gx_rng1 bt.range (go_var 14)) ?_ ?_ ?_ rfl)
  · exact ⟨_, rfl⟩
  · rintro k d _ hd ⟨s5, rfl⟩
    refine ⟨_, _, (gog_name 5 sc_law.nd), ?_⟩
    refine rn_cons (rs_set 16 (gx_bin go_int (go_var 16)) ?_ sc_law.nd)
    rw [dbl]
    exact rn_nil ⟨_, rfl⟩
  rintro _ ⟨s5, rfl⟩
  rw [rng_len, show (((pls b : Nat) : Int) - 0).toNat = pls b by omega]
  have hcnt : PyData.tuple [nat (2 ^ b), .int (((pls b : Nat) : Int) * ((2 ^ b : Nat) : Int)), .int (((2 ^ pls b : Nat) : Int) - ((2 ^ b : Nat) : Int) - ((pls b : Nat) : Int) * ((2 ^ b : Nat) : Int))] = cntD b := by
    unfold cntD
    rw [Int.add_mul, Int.one_mul, Int.sub_sub, Int.add_comm ((2 ^ b : Nat) : Int)]
  have hsc : ∀ b, SeqAt.shaped (cntD b) = true := fun b => shp_cnt _ _ _
  have hsb := hsc b
  have hs4 := hsc 4
  refine rn_cons (rs_if (k := false) (goT_is (gocT (gc_neD (.of hr) (gx_call c_count_rows hr (by decide) (goA_cons (go_var 2) goA_nil)) (go_is (go_tup (god_cons (go_var 15) (god_cons (gx_bin (go_var 14) (go_var 15)) (god_cons (gx_bin (gx_bin (go_var 16) (go_var 15)) (gx_bin (go_var 14) (go_var 15))) god_nil)))) hcnt) hsb hsb)) ?_) (fun h => nomatch h) fun _ => ?_)
  · rw [eqv_refl (SeqAt.canLay_of_shaped hsb)]
    rfl
  refine rn_nil ?_
  refine rn_cons (rs_own 17 (goN_lst (god_cons go_int (god_cons go_int (god_cons go_int god_nil)))) ?_ sc_law.nd)
  have hB : Bt4 4 := ⟨by omega, by omega⟩
  refine rn_cons (rs_for (fun k Γ' => ∃ s13 s18, Γ' = [.dat (.list (ns.map .int)), .dat (.list zs), .dat (nat b), .dat (.list (wdsV b vs)), .own ((nz vs).map .int), s5, s6, s7, s8, s9, s10, .any, s12, s13, .dat (nat (pls b)), .dat (nat (2 ^ b)), .dat (nat (2 ^ pls b)), .own [nat (cn 0 k), nat (cn 1 k), nat (cn 2 k)], s18]) (gx_rng1 bt.range go_int) ?_ ?_ ?_ rfl)
  · exact ⟨_, _, rfl⟩
  · rintro k d _ hd ⟨s13, s18, rfl⟩
    obtain ⟨hk, rfl⟩ := rng_get hd
    have hk : k < 256 := hk
    have e0 : (0 + (k : Nat) : Int) = ((k : Nat) : Int) := by omega
    have hk64 : k < 2 ^ 64 := by omega
    have hb464 : Bt4 4 ∧ k < 2 ^ 64 := ⟨hB, hk64⟩
    refine ⟨_, _, (gog_name 18 sc_law.nd), ?_⟩
    rw [e0]
    have q0 := cn_step 0 k
    have q1 := cn_step 1 k
    have q2 := cn_step 2 k
    rcases cls_cases k with ⟨hc, hst⟩ | ⟨hc, hst⟩ | ⟨hc, hst⟩
    all_goals rw [hc] at q0 q1 q2
    · refine rn_cons (rs_set 13 (go_is (d' := .int 0) (go_indexD (.of hr) (go_lst (god_cons go_str (god_cons go_str (god_cons go_str god_nil)))) (gx_ix (go_is (gx_call c_state_of hr (by decide) (goA_cons (go_is (d' := nat 4) go_int rfl) (goA_cons (go_var 18) goA_nil))) hst) go_int rfl) (by decide +kernel) (by decide +kernel) (by decide +kernel)) ?_) ?_ sc_law.nd)
      · exact congrArg PyData.int (by decide +kernel)
      refine rn_cons (rs_setL (gol_name (ds := [nat (cn 0 k), nat (cn 1 k), nat (cn 2 k)]) 17) (go_thawI (ds := [nat (cn 0 k), nat (cn 1 k), nat (cn 2 k)]) 17 (gx_bin (gx_ix (go_var 17) (go_var 13)) go_int)) (go_var 13) rfl ?_ (by simp only [List.length_set, List.length_cons, List.length_nil]; decide))
      refine rn_nil ⟨.dat (.int 0), .dat (nat k), ?_⟩
      rw [q0, q1, q2]
      rfl
    · refine rn_cons (rs_set 13 (go_is (d' := .int 1) (go_indexD (.of hr) (go_lst (god_cons go_str (god_cons go_str (god_cons go_str god_nil)))) (gx_ix (go_is (gx_call c_state_of hr (by decide) (goA_cons (go_is (d' := nat 4) go_int rfl) (goA_cons (go_var 18) goA_nil))) hst) go_int rfl) (by decide +kernel) (by decide +kernel) (by decide +kernel)) ?_) ?_ sc_law.nd)
      · exact congrArg PyData.int (by decide +kernel)
      refine rn_cons (rs_setL (gol_name (ds := [nat (cn 0 k), nat (cn 1 k), nat (cn 2 k)]) 17) (go_thawI (ds := [nat (cn 0 k), nat (cn 1 k), nat (cn 2 k)]) 17 (gx_bin (gx_ix (go_var 17) (go_var 13)) go_int)) (go_var 13) rfl ?_ (by simp only [List.length_set, List.length_cons, List.length_nil]; decide))
      refine rn_nil ⟨.dat (.int 1), .dat (nat k), ?_⟩
      rw [q0, q1, q2]
      rfl
    · refine rn_cons (rs_set 13 (go_is (d' := .int 2) (go_indexD (.of hr) (go_lst (god_cons go_str (god_cons go_str (god_cons go_str god_nil)))) (gx_ix (go_is (gx_call c_state_of hr (by decide) (goA_cons (go_is (d' := nat 4) go_int rfl) (goA_cons (go_var 18) goA_nil))) hst) go_int rfl) (by decide +kernel) (by decide +kernel) (by decide +kernel)) ?_) ?_ sc_law.nd)
      · exact congrArg PyData.int (by decide +kernel)
      refine rn_cons (rs_setL (gol_name (ds := [nat (cn 0 k), nat (cn 1 k), nat (cn 2 k)]) 17) (go_thawI (ds := [nat (cn 0 k), nat (cn 1 k), nat (cn 2 k)]) 17 (gx_bin (gx_ix (go_var 17) (go_var 13)) go_int)) (go_var 13) rfl ?_ (by simp only [List.length_set, List.length_cons, List.length_nil]; decide))
      refine rn_nil ⟨.dat (.int 2), .dat (nat k), ?_⟩
      rw [q0, q1, q2]
      rfl
  rintro _ ⟨s13, s18, rfl⟩
  rw [show ((rngI 0 256).map PyData.int).length = 256 from rfl]
  obtain ⟨n0, n1, n2⟩ := cn_all
  rw [n0, n1, n2]
  refine rn_ice 17 rfl (by rw [hJ]; exact List.not_mem_nil) ?_
  refine rn_cons (rs_ret (go_is (goc (gc_eqD (.of hr) (gx_tuple bt.tuple (go_var 17)) (go_is (gx_call c_count_rows hr (by decide) (goA_cons (go_is (d' := nat 4) go_int rfl) goA_nil)) cnt4) (shp_cnt _ _ _) (shp_cnt _ _ _))) ?_))
  exact congrArg PyData.bool (eqv_refl (SeqAt.canLay_of_shaped (shp_cnt _ _ _)))
end
/-! ### what the top has written -/
section
theorem all_mk {l : PySem.W.OpenLaw} {w : World} {K : PySem.W.Frag} {h : Heap} {mg : Str → Option Value} {fa f0 f1 f2 f3 f4 f5 f6 f7 f8 f9 f10 f11 f12 f13 f14 f15 : Addr} (X : K.In h) (G : h.Ns mainGlobals mg) (hfa : mg "law" = some (.ref fa))
    {od0 an0 : Option Addr} {sl0 : Array (Option Value)} {oc0 kV0 dc0 pm0 cd0 ct0 : Value}
    (a0 : PySem.W.nsIn K mainGlobals "law" = some (some (.ref f0))) (l0 : K.lookup f0 = some ⟨oc0, od0, .func (PySem.W.fnOf "law" "law" (defArgs s_law) (defBody s_law) (defScope s_law) .none kV0 dc0 pm0 an0 cd0 ct0), sl0⟩) (c0 : PySem.W.codeIn K cd0 "law" = true) (k0 : PySem.W.keepIn K (.ref f0) = true)
    {od1 an1 : Option Addr} {sl1 : Array (Option Value)} {oc1 kV1 dc1 pm1 cd1 ct1 : Value}
    (a1 : PySem.W.nsIn K mainGlobals "_law_row" = some (some (.ref f1))) (l1 : K.lookup f1 = some ⟨oc1, od1, .func (PySem.W.fnOf "_law_row" "_law_row" (defArgs s__law_row) (defBody s__law_row) (defScope s__law_row) .none kV1 dc1 pm1 an1 cd1 ct1), sl1⟩) (c1 : PySem.W.codeIn K cd1 "_law_row" = true) (k1 : PySem.W.keepIn K (.ref f1) = true)
    {od2 an2 : Option Addr} {sl2 : Array (Option Value)} {oc2 kV2 dc2 pm2 cd2 ct2 : Value}
    (a2 : PySem.W.nsIn K mainGlobals "_law_numbers" = some (some (.ref f2))) (l2 : K.lookup f2 = some ⟨oc2, od2, .func (PySem.W.fnOf "_law_numbers" "_law_numbers" (defArgs s__law_numbers) (defBody s__law_numbers) (defScope s__law_numbers) .none kV2 dc2 pm2 an2 cd2 ct2), sl2⟩) (c2 : PySem.W.codeIn K cd2 "_law_numbers" = true) (k2 : PySem.W.keepIn K (.ref f2) = true)
    {od3 an3 : Option Addr} {sl3 : Array (Option Value)} {oc3 kV3 dc3 pm3 cd3 ct3 : Value}
    (a3 : PySem.W.nsIn K mainGlobals "check_places" = some (some (.ref f3))) (l3 : K.lookup f3 = some ⟨oc3, od3, .func (PySem.W.fnOf "check_places" "check_places" (defArgs s_check_places) (defBody s_check_places) (defScope s_check_places) .none kV3 dc3 pm3 an3 cd3 ct3), sl3⟩) (c3 : PySem.W.codeIn K cd3 "check_places" = true) (k3 : PySem.W.keepIn K (.ref f3) = true)
    {od4 an4 : Option Addr} {sl4 : Array (Option Value)} {oc4 kV4 dc4 pm4 cd4 ct4 : Value}
    (a4 : PySem.W.nsIn K mainGlobals "places_of" = some (some (.ref f4))) (l4 : K.lookup f4 = some ⟨oc4, od4, .func (PySem.W.fnOf "places_of" "places_of" (defArgs s_places_of) (defBody s_places_of) (defScope s_places_of) .none kV4 dc4 pm4 an4 cd4 ct4), sl4⟩) (c4 : PySem.W.codeIn K cd4 "places_of" = true) (k4 : PySem.W.keepIn K (.ref f4) = true)
    {od5 an5 : Option Addr} {sl5 : Array (Option Value)} {oc5 kV5 dc5 pm5 cd5 ct5 : Value}
    (a5 : PySem.W.nsIn K mainGlobals "digits_of" = some (some (.ref f5))) (l5 : K.lookup f5 = some ⟨oc5, od5, .func (PySem.W.fnOf "digits_of" "digits_of" (defArgs s_digits_of) (defBody s_digits_of) (defScope s_digits_of) .none kV5 dc5 pm5 an5 cd5 ct5), sl5⟩) (c5 : PySem.W.codeIn K cd5 "digits_of" = true) (k5 : PySem.W.keepIn K (.ref f5) = true)
    {od6 an6 : Option Addr} {sl6 : Array (Option Value)} {oc6 kV6 dc6 pm6 cd6 ct6 : Value}
    (a6 : PySem.W.nsIn K mainGlobals "spot_of" = some (some (.ref f6))) (l6 : K.lookup f6 = some ⟨oc6, od6, .func (PySem.W.fnOf "spot_of" "spot_of" (defArgs s_spot_of) (defBody s_spot_of) (defScope s_spot_of) .none kV6 dc6 pm6 an6 cd6 ct6), sl6⟩) (c6 : PySem.W.codeIn K cd6 "spot_of" = true) (k6 : PySem.W.keepIn K (.ref f6) = true)
    {od7 an7 : Option Addr} {sl7 : Array (Option Value)} {oc7 kV7 dc7 pm7 cd7 ct7 : Value}
    (a7 : PySem.W.nsIn K mainGlobals "state_of" = some (some (.ref f7))) (l7 : K.lookup f7 = some ⟨oc7, od7, .func (PySem.W.fnOf "state_of" "state_of" (defArgs s_state_of) (defBody s_state_of) (defScope s_state_of) .none kV7 dc7 pm7 an7 cd7 ct7), sl7⟩) (c7 : PySem.W.codeIn K cd7 "state_of" = true) (k7 : PySem.W.keepIn K (.ref f7) = true)
    {od8 an8 : Option Addr} {sl8 : Array (Option Value)} {oc8 kV8 dc8 pm8 cd8 ct8 : Value}
    (a8 : PySem.W.nsIn K mainGlobals "data_places" = some (some (.ref f8))) (l8 : K.lookup f8 = some ⟨oc8, od8, .func (PySem.W.fnOf "data_places" "data_places" (defArgs s_data_places) (defBody s_data_places) (defScope s_data_places) .none kV8 dc8 pm8 an8 cd8 ct8), sl8⟩) (c8 : PySem.W.codeIn K cd8 "data_places" = true) (k8 : PySem.W.keepIn K (.ref f8) = true)
    {od9 an9 : Option Addr} {sl9 : Array (Option Value)} {oc9 kV9 dc9 pm9 cd9 ct9 : Value}
    (a9 : PySem.W.nsIn K mainGlobals "coded" = some (some (.ref f9))) (l9 : K.lookup f9 = some ⟨oc9, od9, .func (PySem.W.fnOf "coded" "coded" (defArgs s_coded) (defBody s_coded) (defScope s_coded) .none kV9 dc9 pm9 an9 cd9 ct9), sl9⟩) (c9 : PySem.W.codeIn K cd9 "coded" = true) (k9 : PySem.W.keepIn K (.ref f9) = true)
    {od10 an10 : Option Addr} {sl10 : Array (Option Value)} {oc10 kV10 dc10 pm10 cd10 ct10 : Value}
    (a10 : PySem.W.nsIn K mainGlobals "count_rows" = some (some (.ref f10))) (l10 : K.lookup f10 = some ⟨oc10, od10, .func (PySem.W.fnOf "count_rows" "count_rows" (defArgs s_count_rows) (defBody s_count_rows) (defScope s_count_rows) .none kV10 dc10 pm10 an10 cd10 ct10), sl10⟩) (c10 : PySem.W.codeIn K cd10 "count_rows" = true) (k10 : PySem.W.keepIn K (.ref f10) = true)
    {od11 an11 : Option Addr} {sl11 : Array (Option Value)} {oc11 kV11 dc11 pm11 cd11 ct11 : Value}
    (a11 : PySem.W.nsIn K mainGlobals "_law_checks" = some (some (.ref f11))) (l11 : K.lookup f11 = some ⟨oc11, od11, .func (PySem.W.fnOf "_law_checks" "_law_checks" (defArgs s__law_checks) (defBody s__law_checks) (defScope s__law_checks) .none kV11 dc11 pm11 an11 cd11 ct11), sl11⟩) (c11 : PySem.W.codeIn K cd11 "_law_checks" = true) (k11 : PySem.W.keepIn K (.ref f11) = true)
    {od12 an12 : Option Addr} {sl12 : Array (Option Value)} {oc12 kV12 dc12 pm12 cd12 ct12 : Value}
    (a12 : PySem.W.nsIn K mainGlobals "_law_places" = some (some (.ref f12))) (l12 : K.lookup f12 = some ⟨oc12, od12, .func (PySem.W.fnOf "_law_places" "_law_places" (defArgs s__law_places) (defBody s__law_places) (defScope s__law_places) .none kV12 dc12 pm12 an12 cd12 ct12), sl12⟩) (c12 : PySem.W.codeIn K cd12 "_law_places" = true) (k12 : PySem.W.keepIn K (.ref f12) = true)
    {od13 an13 : Option Addr} {sl13 : Array (Option Value)} {oc13 kV13 dc13 pm13 cd13 ct13 : Value}
    (a13 : PySem.W.nsIn K mainGlobals "_law_digits" = some (some (.ref f13))) (l13 : K.lookup f13 = some ⟨oc13, od13, .func (PySem.W.fnOf "_law_digits" "_law_digits" (defArgs s__law_digits) (defBody s__law_digits) (defScope s__law_digits) .none kV13 dc13 pm13 an13 cd13 ct13), sl13⟩) (c13 : PySem.W.codeIn K cd13 "_law_digits" = true) (k13 : PySem.W.keepIn K (.ref f13) = true)
    {od14 an14 : Option Addr} {sl14 : Array (Option Value)} {oc14 kV14 dc14 pm14 cd14 ct14 : Value}
    (a14 : PySem.W.nsIn K mainGlobals "_law_row_of" = some (some (.ref f14))) (l14 : K.lookup f14 = some ⟨oc14, od14, .func (PySem.W.fnOf "_law_row_of" "_law_row_of" (defArgs s__law_row_of) (defBody s__law_row_of) (defScope s__law_row_of) .none kV14 dc14 pm14 an14 cd14 ct14), sl14⟩) (c14 : PySem.W.codeIn K cd14 "_law_row_of" = true) (k14 : PySem.W.keepIn K (.ref f14) = true)
    {od15 an15 : Option Addr} {sl15 : Array (Option Value)} {oc15 kV15 dc15 pm15 cd15 ct15 : Value}
    (a15 : PySem.W.nsIn K mainGlobals "_law_value" = some (some (.ref f15))) (l15 : K.lookup f15 = some ⟨oc15, od15, .func (PySem.W.fnOf "_law_value" "_law_value" (defArgs s__law_value) (defBody s__law_value) (defScope s__law_value) .none kV15 dc15 pm15 an15 cd15 ct15), sl15⟩) (c15 : PySem.W.codeIn K cd15 "_law_value" = true) (k15 : PySem.W.keepIn K (.ref f15) = true)
    (z0 : PySem.W.nsIn K mainGlobals "abs" = some none) (z1 : PySem.W.nsIn K mainGlobals "int" = some none) (z2 : PySem.W.nsIn K mainGlobals "len" = some none) (z3 : PySem.W.nsIn K mainGlobals "max" = some none) (z4 : PySem.W.nsIn K mainGlobals "range" = some none) (z5 : PySem.W.nsIn K mainGlobals "list" = some none) (z6 : PySem.W.nsIn K mainGlobals "all" = some none) (z7 : PySem.W.nsIn K mainGlobals "any" = some none) (z8 : PySem.W.nsIn K mainGlobals "sum" = some none) (z9 : PySem.W.nsIn K mainGlobals "tuple" = some none) (z10 : PySem.W.nsIn K mainGlobals "sorted" = some none) (z11 : PySem.W.nsIn K mainGlobals "set" = some none) (z12 : PySem.W.nsIn K mainGlobals "enumerate" = some none) (z13 : PySem.W.nsIn K mainGlobals "zip" = some none) (z14 : PySem.W.nsIn K mainGlobals "isinstance" = some none) (z15 : PySem.W.nsIn K mainGlobals "str" = some none) (z16 : PySem.W.nsIn K mainGlobals "bool" = some none) (z17 : PySem.W.nsIn K mainGlobals "min" = some none)  :
    ∃ fd : FuncData, (∀ (s : Shared) (v : Value), BindsTo s fd ⟨[v], []⟩ [("_law_script", v)]) ∧ ∀ base : Heap, K.In base → base.Ns mainGlobals mg → FnOk l.prog w K mg base CX0 5 fa fd ["_law_script"] (spLaw K) := by
  have F0 := fun_mk (st := s_law) l0 c0 k0
  have F1 := fun_mk (st := s__law_row) l1 c1 k1
  have F2 := fun_mk (st := s__law_numbers) l2 c2 k2
  have F3 := fun_mk (st := s_check_places) l3 c3 k3
  have F4 := fun_mk (st := s_places_of) l4 c4 k4
  have F5 := fun_mk (st := s_digits_of) l5 c5 k5
  have F6 := fun_mk (st := s_spot_of) l6 c6 k6
  have F7 := fun_mk (st := s_state_of) l7 c7 k7
  have F8 := fun_mk (st := s_data_places) l8 c8 k8
  have F9 := fun_mk (st := s_coded) l9 c9 k9
  have F10 := fun_mk (st := s_count_rows) l10 c10 k10
  have F11 := fun_mk (st := s__law_checks) l11 c11 k11
  have F12 := fun_mk (st := s__law_places) l12 c12 k12
  have F13 := fun_mk (st := s__law_digits) l13 c13 k13
  have F14 := fun_mk (st := s__law_row_of) l14 c14 k14
  have F15 := fun_mk (st := s__law_value) l15 c15 k15
  have e := hfa.symm.trans (PySem.W.mg_of X G a0)
  cases e
  have D__law_row : Dfn K mg "_law_row" s__law_row ["_law_cell", "_law_many"] := ⟨_, _, F1, PySem.W.mg_of X G a1, F1.binds fun _ _ _ _ _ _ us hl => match us, hl with | [_, _], _ => rfl⟩
  have D__law_numbers : Dfn K mg "_law_numbers" s__law_numbers ["_law_script", "_law_many"] := ⟨_, _, F2, PySem.W.mg_of X G a2, F2.binds fun _ _ _ _ _ _ us hl => match us, hl with | [_, _], _ => rfl⟩
  have D_check_places : Dfn K mg "check_places" s_check_places ["bits"] := ⟨_, _, F3, PySem.W.mg_of X G a3, F3.binds fun _ _ _ _ _ _ us hl => match us, hl with | [_], _ => rfl⟩
  have D_places_of : Dfn K mg "places_of" s_places_of ["bits"] := ⟨_, _, F4, PySem.W.mg_of X G a4, F4.binds fun _ _ _ _ _ _ us hl => match us, hl with | [_], _ => rfl⟩
  have D_digits_of : Dfn K mg "digits_of" s_digits_of ["row"] := ⟨_, _, F5, PySem.W.mg_of X G a5, F5.binds fun _ _ _ _ _ _ us hl => match us, hl with | [_], _ => rfl⟩
  have D_spot_of : Dfn K mg "spot_of" s_spot_of ["bits", "row"] := ⟨_, _, F6, PySem.W.mg_of X G a6, F6.binds fun _ _ _ _ _ _ us hl => match us, hl with | [_, _], _ => rfl⟩
  have D_state_of : Dfn K mg "state_of" s_state_of ["bits", "row"] := ⟨_, _, F7, PySem.W.mg_of X G a7, F7.binds fun _ _ _ _ _ _ us hl => match us, hl with | [_, _], _ => rfl⟩
  have D_data_places : Dfn K mg "data_places" s_data_places ["bits"] := ⟨_, _, F8, PySem.W.mg_of X G a8, F8.binds fun _ _ _ _ _ _ us hl => match us, hl with | [_], _ => rfl⟩
  have D_coded : Dfn K mg "coded" s_coded ["bits", "value"] := ⟨_, _, F9, PySem.W.mg_of X G a9, F9.binds fun _ _ _ _ _ _ us hl => match us, hl with | [_, _], _ => rfl⟩
  have D_count_rows : Dfn K mg "count_rows" s_count_rows ["bits"] := ⟨_, _, F10, PySem.W.mg_of X G a10, F10.binds fun _ _ _ _ _ _ us hl => match us, hl with | [_], _ => rfl⟩
  have D__law_checks : Dfn K mg "_law_checks" s__law_checks ["_law_bits"] := ⟨_, _, F11, PySem.W.mg_of X G a11, F11.binds fun _ _ _ _ _ _ us hl => match us, hl with | [_], _ => rfl⟩
  have D__law_places : Dfn K mg "_law_places" s__law_places ["_law_bits"] := ⟨_, _, F12, PySem.W.mg_of X G a12, F12.binds fun _ _ _ _ _ _ us hl => match us, hl with | [_], _ => rfl⟩
  have D__law_digits : Dfn K mg "_law_digits" s__law_digits ["_law_row_here"] := ⟨_, _, F13, PySem.W.mg_of X G a13, F13.binds fun _ _ _ _ _ _ us hl => match us, hl with | [_], _ => rfl⟩
  have D__law_row_of : Dfn K mg "_law_row_of" s__law_row_of ["_law_places_here"] := ⟨_, _, F14, PySem.W.mg_of X G a14, F14.binds fun _ _ _ _ _ _ us hl => match us, hl with | [_], _ => rfl⟩
  have D__law_value : Dfn K mg "_law_value" s__law_value ["_law_numbers_here", "_law_at", "_law_bits"] := ⟨_, _, F15, PySem.W.mg_of X G a15, F15.binds fun _ _ _ _ _ _ us hl => match us, hl with | [_, _, _], _ => rfl⟩
  have bt : Bt mg := ⟨PySem.W.mg_none_of X G z0, PySem.W.mg_none_of X G z1, PySem.W.mg_none_of X G z2, PySem.W.mg_none_of X G z3, PySem.W.mg_none_of X G z4, PySem.W.mg_none_of X G z5, PySem.W.mg_none_of X G z6, PySem.W.mg_none_of X G z7, PySem.W.mg_none_of X G z8, PySem.W.mg_none_of X G z9, PySem.W.mg_none_of X G z10, PySem.W.mg_none_of X G z11, PySem.W.mg_none_of X G z12, PySem.W.mg_none_of X G z13, PySem.W.mg_none_of X G z14, PySem.W.mg_none_of X G z15, PySem.W.mg_none_of X G z16, PySem.W.mg_none_of X G z17⟩
  refine ⟨PySem.W.fnOf "law" "law" (defArgs s_law) (defBody s_law) (defScope s_law) .none kV0 dc0 pm0 an0 cd0 ct0, fun s v => .of_eq rfl, fun base _ _ => ?_⟩
  have c__law_row := ok__law_row (P := l.prog) (w := w) (base := base) D__law_row  bt
  have c__law_numbers := ok__law_numbers (P := l.prog) (w := w) (base := base) D__law_numbers c__law_row bt
  have c_check_places := ok_check_places (P := l.prog) (w := w) (base := base) D_check_places  bt
  have c_places_of := ok_places_of (P := l.prog) (w := w) (base := base) D_places_of c_check_places bt
  have c_digits_of := ok_digits_of (P := l.prog) (w := w) (base := base) D_digits_of  bt
  have c_spot_of := ok_spot_of (P := l.prog) (w := w) (base := base) D_spot_of c_digits_of bt
  have c_state_of := ok_state_of (P := l.prog) (w := w) (base := base) D_state_of c_places_of c_digits_of c_spot_of bt
  have c_data_places := ok_data_places (P := l.prog) (w := w) (base := base) D_data_places c_check_places c_places_of bt
  have c_coded := ok_coded (P := l.prog) (w := w) (base := base) D_coded c_data_places c_digits_of c_spot_of bt
  have c_count_rows := ok_count_rows (P := l.prog) (w := w) (base := base) D_count_rows c_places_of bt
  have c__law_checks := ok__law_checks (P := l.prog) (w := w) (base := base) D__law_checks  bt
  have c__law_places := ok__law_places (P := l.prog) (w := w) (base := base) D__law_places c__law_checks bt
  have c__law_digits := ok__law_digits (P := l.prog) (w := w) (base := base) D__law_digits  bt
  have c__law_row_of := ok__law_row_of (P := l.prog) (w := w) (base := base) D__law_row_of  bt
  have c__law_value := ok__law_value (P := l.prog) (w := w) (base := base) D__law_value  bt
  exact ok_law F0 c_coded c_state_of c_count_rows c__law_numbers c__law_places c__law_digits c__law_row_of c__law_value bt
end
end K
open PySem PySem.W PyProof.Rows
set_option maxHeartbeats 0 in
theorem PySem.Challenge.cw_farword_k14_words_far_apart_holds : PySem.Challenge.rw_farword_k14_words_far_apart.Holds := by
  w_on; o_law; k_head; (case hw => w_witness2)
  k_fill
  refine L2.walk_of (l := PySem.Challenge.rw_farword_k14_words_far_apart) (n := 63) (k := 5) (x := "_law_script") (CX := fun _ => L2.CX0) (sp := fun w => PL.spLaw _) rfl (by decide) rfl ⟨rfl, by decide, by decide⟩ (fun w h Y => PySem.W.kIn_of Y) ?F (fun _ H a ns hl _ hS => PL.law_sp hl hS) (fun _ _ _ _ _ h => h)
  case F =>
    intro w mg fa h KX G hmg
    refine' K.all_mk KX G hmg ?a0 ?l0 ?c0 ?k0 ?a1 ?l1 ?c1 ?k1 ?a2 ?l2 ?c2 ?k2 ?a3 ?l3 ?c3 ?k3 ?a4 ?l4 ?c4 ?k4 ?a5 ?l5 ?c5 ?k5 ?a6 ?l6 ?c6 ?k6 ?a7 ?l7 ?c7 ?k7 ?a8 ?l8 ?c8 ?k8 ?a9 ?l9 ?c9 ?k9 ?a10 ?l10 ?c10 ?k10 ?a11 ?l11 ?c11 ?k11 ?a12 ?l12 ?c12 ?k12 ?a13 ?l13 ?c13 ?k13 ?a14 ?l14 ?c14 ?k14 ?a15 ?l15 ?c15 ?k15 ?z0 ?z1 ?z2 ?z3 ?z4 ?z5 ?z6 ?z7 ?z8 ?z9 ?z10 ?z11 ?z12 ?z13 ?z14 ?z15 ?z16 ?z17
    (case a0 => k_is); (case l0 => k_is); (case c0 => k_is); (case k0 => k_is); (case a1 => k_is); (case l1 => k_is); (case c1 => k_is); (case k1 => k_is); (case a2 => k_is); (case l2 => k_is); (case c2 => k_is); (case k2 => k_is); (case a3 => k_is); (case l3 => k_is); (case c3 => k_is); (case k3 => k_is); (case a4 => k_is); (case l4 => k_is); (case c4 => k_is); (case k4 => k_is); (case a5 => k_is); (case l5 => k_is); (case c5 => k_is); (case k5 => k_is); (case a6 => k_is); (case l6 => k_is); (case c6 => k_is); (case k6 => k_is); (case a7 => k_is); (case l7 => k_is); (case c7 => k_is); (case k7 => k_is); (case a8 => k_is); (case l8 => k_is); (case c8 => k_is); (case k8 => k_is); (case a9 => k_is); (case l9 => k_is); (case c9 => k_is); (case k9 => k_is); (case a10 => k_is); (case l10 => k_is); (case c10 => k_is); (case k10 => k_is); (case a11 => k_is); (case l11 => k_is); (case c11 => k_is); (case k11 => k_is); (case a12 => k_is); (case l12 => k_is); (case c12 => k_is); (case k12 => k_is); (case a13 => k_is); (case l13 => k_is); (case c13 => k_is); (case k13 => k_is); (case a14 => k_is); (case l14 => k_is); (case c14 => k_is); (case k14 => k_is); (case a15 => k_is); (case l15 => k_is); (case c15 => k_is); (case k15 => k_is); (case z0 => k_is); (case z1 => k_is); (case z2 => k_is); (case z3 => k_is); (case z4 => k_is); (case z5 => k_is); (case z6 => k_is); (case z7 => k_is); (case z8 => k_is); (case z9 => k_is); (case z10 => k_is); (case z11 => k_is); (case z12 => k_is); (case z13 => k_is); (case z14 => k_is); (case z15 => k_is); (case z16 => k_is); (case z17 => k_is)


