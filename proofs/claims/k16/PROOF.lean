import PyProof.Rows.All
import Wide.All
import OpenK.AllK
import Wide.FinOn
import HandS.ForMost
import HandS.Flow
import HandS.Style
import HandS.Wide
import HandS.WideBits
import HandS.Walk
import HandS.EndBits
import HandS.Deep
import HandS.IsInst
import HandS.TupAny
import HandS.Text
import HandS.Conv
import HandS.NoneIn
import HandS.SetFor
import HandS.ExcOwn
import HandS.WordsExc
import HandS.ExcField
import KE.KExcIs
import HandS.Dict
import HandS.ExcIs
import HandS.SuiteRaise
import KE.KExcSuper
import HandS.TupSets
import HandS.SortInts
import KE.KTupSum
import KE.DataMinMax
import KE.OsRunLaw
import PySem.Challenge.RW_farword_k16_scrubbed_cells
set_option Elab.async false
set_option linter.all false
set_option maxRecDepth 100000
set_option maxHeartbeats 2000000
/-! PL: symbolic running of a def over plain data (PyData), on top of the hand layer. -/
namespace PL
open PySem PySem.Spec PyProof.Rows L2

abbrev D := PyData
/-- what was known stays known -/
def Ex (H H' : Hp) : Prop := ∀ a o, H a = some o → H' a = some o
theorem Ex.refl (H : Hp) : Ex H H := fun _ _ h => h
theorem Ex.trans {H H1 H2 : Hp} (a : Ex H H1) (b : Ex H1 H2) : Ex H H2 := fun x o h => b x o (a x o h)
theorem Ex.new {H : Hp} {p : Addr} {o : HO} (h : H p = none) : Ex H (upd H p o) := fun a u e => by
  rw [upd_ne (ne_of_none e h)]
  exact e
theorem Ex.rd {H H' : Hp} {a : Addr} {u : HO} (e : Ex H H') (h : Rd H a u) : Rd H' a u := by
  rcases h with h | ⟨o, h⟩
  · exact .inl (e a _ h)
  · exact .inr ⟨o, e a _ h⟩
theorem Ex.sl {K : PySem.W.Frag} {H H' : Hp} {a : Addr} {xs : List V} (e : Ex H H') (h : SqL K H a xs) : SqL K H' a xs := by
  rcases h with h | h
  · exact .inl (e.rd h)
  · exact .inr h
theorem Ex.st {K : PySem.W.Frag} {H H' : Hp} {a : Addr} {xs : List V} (e : Ex H H') (h : SqT K H a xs) : SqT K H' a xs := by
  rcases h with h | h
  · exact .inl (e.rd h)
  · exact .inr h
theorem Ex.none {H H' : Hp} (e : Ex H H') {a : Addr} (h : H' a = none) : H a = none := by
  cases q : H a with
  | none => rfl
  | some o =>
    rw [e a o q] at h
    cases h
mutual
theorem dpUp {K : PySem.W.Frag} {H H' : Hp} (e : Ex H H') {v : V} {d : D} : Dp K H v d → Dp K H' v d
  | .non => .non
  | .bl b => .bl b
  | .int i => .int i
  | .str x => .str x
  | .lst s h => .lst (e.sl s) (dpsUp e h)
  | .tup s h => .tup (e.st s) (dpsUp e h)
theorem dpsUp {K : PySem.W.Frag} {H H' : Hp} (e : Ex H H') {vs : List V} {ds : List D} : DpAll K H vs ds → DpAll K H' vs ds
  | .nil => .nil
  | .cons h t => .cons (dpUp e h) (dpsUp e t)
end
theorem dps_len {K : PySem.W.Frag} {H : Hp} : ∀ {vs : List V} {ds : List D}, DpAll K H vs ds → vs.length = ds.length
  | _, _, .nil => rfl
  | _, _, .cons _ t => by
    rw [List.length_cons, List.length_cons, dps_len t]
theorem dps_get {K : PySem.W.Frag} {H : Hp} : ∀ {vs : List V} {ds : List D} {i : Nat} {d : D}, DpAll K H vs ds → ds[i]? = some d → ∃ v, vs[i]? = some v ∧ Dp K H v d
  | _, _, _, _, .nil, e => by simp at e
  | _, _, 0, _, .cons h _, e => by
    simp only [List.getElem?_cons_zero, Option.some.injEq] at e
    subst e
    exact ⟨_, rfl, h⟩
  | _, _, i + 1, d, .cons _ t, e => by
    obtain ⟨v, h1, h2⟩ := dps_get (i := i) (d := d) t (by simpa using e)
    exact ⟨v, by simpa using h1, h2⟩
theorem dps_getv {K : PySem.W.Frag} {H : Hp} : ∀ {vs : List V} {ds : List D} {i : Nat} {v : V}, DpAll K H vs ds → vs[i]? = some v → ∃ d, ds[i]? = some d ∧ Dp K H v d
  | _, _, _, _, .nil, e => by simp at e
  | _, _, 0, _, .cons h _, e => by
    simp only [List.getElem?_cons_zero, Option.some.injEq] at e
    subst e
    exact ⟨_, rfl, h⟩
  | _, _, i + 1, v, .cons _ t, e => by
    obtain ⟨d, h1, h2⟩ := dps_getv (i := i) (v := v) t (by simpa using e)
    exact ⟨d, by simpa using h1, h2⟩
theorem dps_app {K : PySem.W.Frag} {H : Hp} : ∀ {vs us : List V} {ds es : List D}, DpAll K H vs ds → DpAll K H us es → DpAll K H (vs ++ us) (ds ++ es)
  | _, _, _, _, .nil, s => s
  | _, _, _, _, .cons h t, s => .cons h (dps_app t s)
theorem dps_take {K : PySem.W.Frag} {H : Hp} : ∀ {vs : List V} {ds : List D} (n : Nat), DpAll K H vs ds → DpAll K H (vs.take n) (ds.take n)
  | _, _, 0, _ => .nil
  | _, _, _ + 1, .nil => .nil
  | _, _, n + 1, .cons h t => .cons h (dps_take n t)
theorem dps_drop {K : PySem.W.Frag} {H : Hp} : ∀ {vs : List V} {ds : List D} (n : Nat), DpAll K H vs ds → DpAll K H (vs.drop n) (ds.drop n)
  | _, _, 0, r => r
  | _, _, _ + 1, .nil => .nil
  | _, _, n + 1, .cons _ t => dps_drop n t
theorem dps_set {K : PySem.W.Frag} {H : Hp} {v : V} {d : D} (h : Dp K H v d) : ∀ {vs : List V} {ds : List D} (n : Nat), DpAll K H vs ds → DpAll K H (vs.set n v) (ds.set n d)
  | _, _, _, .nil => .nil
  | _, _, 0, .cons _ t => .cons h t
  | _, _, n + 1, .cons q t => .cons q (dps_set h n t)
theorem dps_rev {K : PySem.W.Frag} {H : Hp} : ∀ {vs : List V} {ds : List D}, DpAll K H vs ds → DpAll K H vs.reverse ds.reverse
  | _, _, .nil => .nil
  | _, _, .cons h t => by
    rw [List.reverse_cons, List.reverse_cons]
    exact dps_app (dps_rev t) (.cons h .nil)
theorem dps_ints {K : PySem.W.Frag} {H : Hp} : ∀ ns : List Int, DpAll K H (ns.map V.int) (ns.map PyData.int)
  | [] => .nil
  | n :: r => .cons (.int n) (dps_ints r)
theorem dps_ints_inv {K : PySem.W.Frag} {H : Hp} : ∀ {ns : List Int} {vs : List V}, DpAll K H vs (ns.map PyData.int) → vs = ns.map V.int
  | [], _, .nil => rfl
  | n :: r, _, .cons (.int _) t => by
    rw [dps_ints_inv t, List.map_cons]
theorem dps_strs_inv {K : PySem.W.Frag} {H : Hp} : ∀ {ns : List Str} {vs : List V}, DpAll K H vs (ns.map PyData.str) → vs = ns.map V.str
  | [], _, .nil => rfl
  | n :: r, _, .cons (.str _) t => by
    rw [dps_strs_inv t, List.map_cons]

/-! ### what a slot holds -/
/-- a thing that is not changed any more -/
structure Mn where
  p : PySem.W.Frag → Hp → V → Prop
  up : ∀ {K H H' v}, Ex H H' → p K H v → p K H' v
def datP (d : D) : Mn := ⟨fun K H v => Dp K H v d, fun e h => dpUp e h⟩
/-- a thing of our own, which may be changed: B what is not changed any more, H the heap, F its places -/
structure Ow where
  p : PySem.W.Frag → Hp → Hp → V → List Addr → Prop
  upB : ∀ {K B B' H v F}, Ex B B' → p K B H v F → p K B' H v F
  loc : ∀ {K B H H' v F}, (∀ a ∈ F, H' a = H a) → p K B H v F → p K B H' v F
  dom : ∀ {K B H v F}, p K B H v F → ∀ a ∈ F, H a ≠ none
def lstO (ds : List D) : Ow where
  p := fun K B H v F => ∃ a vs, v = .ref a ∧ F = [a] ∧ H a = some (.lst vs) ∧ DpAll K B vs ds
  upB := fun e ⟨a, vs, h1, h2, h3, h4⟩ => ⟨a, vs, h1, h2, h3, dpsUp e h4⟩
  loc := fun e ⟨a, vs, h1, h2, h3, h4⟩ => ⟨a, vs, h1, h2, (e a (by rw [h2]; exact List.mem_cons_self)).trans h3, h4⟩
  dom := fun ⟨a, vs, h1, h2, h3, h4⟩ b hb => by
    rw [h2] at hb
    rw [List.mem_singleton.mp hb, h3]
    exact fun z => nomatch z
inductive Sl
  | any
  | pr (P : Mn)
  | ob (P : Ow)
abbrev Sl.dat (d : D) : Sl := .pr (datP d)
abbrev Sl.own (ds : List D) : Sl := .ob (lstO ds)
def SlR (K : PySem.W.Frag) (B H : Hp) (o : Option (Option V)) (F : List Addr) : Sl → Prop
  | .any => True
  | .pr P => ∃ v, o = some (some v) ∧ P.p K B v
  | .ob P => ∃ v, o = some (some v) ∧ P.p K B H v F
abbrev Ga := List Sl
structure En (K : PySem.W.Frag) (B H : Hp) (σ : L2.St) (Γ : Ga) (Fs : Nat → List Addr) : Prop where
  bh : Ex B H
  len : σ.length = Γ.length
  at_ : ∀ i s, Γ[i]? = some s → SlR K B H σ[i]? (Fs i) s
  fre : ∀ i a, a ∈ Fs i → B a = none ∧ H a ≠ none
  dis : ∀ i j a, a ∈ Fs i → a ∈ Fs j → i = j
/-- behind an evaluation -/
structure Nw (B H B2 H2 : Hp) : Prop where
  bb : Ex B B2
  bh : Ex B2 H2
  hh : Ex H H2
  nu : ∀ a, B a = none → H a ≠ none → B2 a = none
theorem Nw.same {B H : Hp} (h : Ex B H) : Nw B H B H := ⟨.refl B, h, .refl H, fun _ h _ => h⟩
theorem Nw.trans {B H B1 H1 B2 H2 : Hp} (a : Nw B H B1 H1) (b : Nw B1 H1 B2 H2) : Nw B H B2 H2 where
  bb := a.bb.trans b.bb
  bh := b.bh
  hh := a.hh.trans b.hh
  nu := fun x h1 h2 => b.nu x (a.nu x h1 h2) fun z => h2 (a.hh.none z)
/-- a new object, frozen at once -/
theorem Nw.new {B H : Hp} {p : Addr} {o : HO} (h : Ex B H) (hp : H p = none) : Nw B H (upd B p o) (upd H p o) where
  bb := Ex.new (h.none hp)
  bh := fun a u e => by
    by_cases ha : a = p
    · subst ha
      rw [upd_same] at e ⊢
      exact e
    · rw [upd_ne ha] at e ⊢
      exact h a u e
  hh := Ex.new hp
  nu := fun a h1 h2 => by
    have : a ≠ p := fun z => h2 (by rw [z]; exact hp)
    rw [upd_ne this]
    exact h1
/-- a new object that is not frozen -/
theorem Nw.lay {B H : Hp} {p : Addr} {o : HO} (h : Ex B H) (hp : H p = none) : Nw B H B (upd H p o) where
  bb := .refl B
  bh := h.trans (Ex.new hp)
  hh := Ex.new hp
  nu := fun _ h1 _ => h1
/-- a thing that lies in the heap is frozen -/
theorem Nw.ice {B H : Hp} {p : Addr} {o : HO} (h : Ex B H) (hb : B p = none) (hp : H p = some o) : Ex B (upd B p o) ∧ Ex (upd B p o) H :=
  ⟨Ex.new hb, fun a u e => by
    by_cases ha : a = p
    · subst ha
      rw [upd_same] at e
      rw [hp]
      exact e
    · rw [upd_ne ha] at e
      exact h a u e⟩
section
variable {K : PySem.W.Frag} {B H B2 H2 : Hp} {σ : L2.St} {Γ : Ga} {Fs : Nat → List Addr}
theorem En.nw (E : En K B H σ Γ Fs) (n : Nw B H B2 H2) : En K B2 H2 σ Γ Fs where
  bh := n.bh
  len := E.len
  at_ := fun i s hs => by
    have := E.at_ i s hs
    cases s with
    | any => trivial
    | pr P =>
      obtain ⟨v, h1, h2⟩ := this
      exact ⟨v, h1, P.up n.bb h2⟩
    | ob P =>
      obtain ⟨v, h1, h2⟩ := this
      refine ⟨v, h1, P.loc (fun a ha => ?_) (P.upB n.bb h2)⟩
      cases q : H a with
      | none => exact absurd q (E.fre i a ha).2
      | some o => exact n.hh a o q
  fre := fun i a ha => ⟨n.nu a (E.fre i a ha).1 (E.fre i a ha).2, fun z => (E.fre i a ha).2 (n.hh.none z)⟩
  dis := E.dis
end
/-- the end of an evaluation -/
abbrev EQ (X : Cx) (B H : Hp) (P : Mn) (Q : VK) : Prop := ∀ v B2 H2, Nw B H B2 H2 → P.p X.K B2 v → Q v H2

/-! ### readings by what they are -/
def wpE (X : Cx) (e : Expr) : TE := fun σ H Q => ∀ pins s, Inv X pins σ H s → wpAny (model X.prog X.w) X.A (eval e X.env) (EP X pins σ Q) X.xe s
def wpT (X : Cx) (e : Expr) : TT := fun σ H Q => ∀ pins s, Inv X pins σ H s → wpAny (model X.prog X.w) X.A (isTrue e X.env (eval e X.env)) (TP X pins σ Q) X.xe s
def wpW (X : Cx) (e : Expr) : TT := fun σ H Q => ∀ whole pins s, Inv X pins σ H s → wpAny (model X.prog X.w) X.A (isTrue e X.env whole) (TP X pins σ Q) X.xe s
def wpA (X : Cx) (es : List Expr) : TA := fun σ H Q => ∀ pos pins s, Inv X pins σ H s → wpAny (model X.prog X.w) X.A (spliced (backTo pos (starEach es X.env))) (AP X pins σ Q) X.xe s
def wpS (X : Cx) (st : Stmt) : TS := fun D σ H => ∀ pins s, Inv X pins σ H s → wpAny (model X.prog X.w) X.A (exec st X.env) (SP X pins D) X.xe s
def wpSs (X : Cx) (st : List Stmt) : TS := fun D σ H => ∀ pins s, Inv X pins σ H s → wpAny (model X.prog X.w) X.A (execs st X.env) (SP X pins D) X.xe s
section
variable {X : Cx} {e : Expr} {es : List Expr} {st : Stmt} {sts : List Stmt}
theorem sE : PE X e (wpE X e) := ⟨fun pins s _ _ _ I h => h pins s I⟩
theorem sT : PT X e (wpT X e) := ⟨fun pins s _ _ _ I h => h pins s I⟩
theorem sW : PW X e (wpW X e) := ⟨fun wh pins s _ _ _ I h => h wh pins s I⟩
theorem sA : PA X es (wpA X es) := ⟨fun pos pins s _ _ _ I h => h pos pins s I⟩
theorem sS : PS X st (wpS X st) := ⟨fun pins s _ _ _ I h => h pins s I⟩
theorem sSs : PSs X sts (wpSs X sts) := ⟨fun pins s _ _ _ I h => h pins s I⟩
theorem toE {t : TE} {σ : L2.St} {H : Hp} {Q : VK} (p : PE X e t) (h : t σ H Q) : wpE X e σ H Q := fun pins s I => p.run pins s σ H Q I h
theorem toT {t : TT} {σ : L2.St} {H : Hp} {Q : Bool → Hp → Prop} (p : PT X e t) (h : t σ H Q) : wpT X e σ H Q := fun pins s I => p.run pins s σ H Q I h
theorem toW {t : TT} {σ : L2.St} {H : Hp} {Q : Bool → Hp → Prop} (p : PW X e t) (h : t σ H Q) : wpW X e σ H Q := fun wh pins s I => p.run wh pins s σ H Q I h
theorem toA {t : TA} {σ : L2.St} {H : Hp} {Q : List V → Hp → Prop} (p : PA X es t) (h : t σ H Q) : wpA X es σ H Q := fun pos pins s I => p.run pos pins s σ H Q I h
theorem toS {t : TS} {σ : L2.St} {H : Hp} {D : Ends} (p : PS X st t) (h : t D σ H) : wpS X st D σ H := fun pins s I => p.run pins s σ H D I h
theorem toSs {t : TS} {σ : L2.St} {H : Hp} {D : Ends} (p : PSs X sts t) (h : t D σ H) : wpSs X sts D σ H := fun pins s I => p.run pins s σ H D I h
end

/-! ### an expression over slots -/
structure GoP (X : Cx) (Γ : Ga) (e : Expr) (P : Mn) : Prop where
  run : ∀ σ B H Fs, En X.K B H σ Γ Fs → ∀ Q, EQ X B H P Q → wpE X e σ H Q
instance {X : Cx} {Γ : Ga} {e : Expr} {P : Mn} : CoeFun (GoP X Γ e P) fun _ => ∀ σ B H Fs, En X.K B H σ Γ Fs → ∀ Q, EQ X B H P Q → wpE X e σ H Q := ⟨GoP.run⟩
abbrev Go (X : Cx) (Γ : Ga) (e : Expr) (d : D) : Prop := GoP X Γ e (datP d)
/-- a new list -/
structure GoN (X : Cx) (Γ : Ga) (e : Expr) (ds : List D) : Prop where
  run : ∀ σ B H Fs, En X.K B H σ Γ Fs → ∀ Q : VK,
  (∀ p vs B2 H2, Nw B H B2 H2 → H p = none → B2 p = none → H2 p = some (.lst vs) → DpAll X.K B2 vs ds → Q (.ref p) H2) → wpE X e σ H Q
instance {X : Cx} {Γ : Ga} {e : Expr} {ds : List D} : CoeFun (GoN X Γ e ds) fun _ => ∀ σ B H Fs, En X.K B H σ Γ Fs → ∀ Q : VK,
    (∀ p vs B2 H2, Nw B H B2 H2 → H p = none → B2 p = none → H2 p = some (.lst vs) → DpAll X.K B2 vs ds → Q (.ref p) H2) → wpE X e σ H Q := ⟨GoN.run⟩
structure GoT (X : Cx) (Γ : Ga) (e : Expr) (b : Bool) : Prop where
  run : ∀ σ B H Fs, En X.K B H σ Γ Fs → ∀ Q : Bool → Hp → Prop, (∀ B2 H2, Nw B H B2 H2 → Q b H2) → wpT X e σ H Q
instance {X : Cx} {Γ : Ga} {e : Expr} {b : Bool} : CoeFun (GoT X Γ e b) fun _ => ∀ σ B H Fs, En X.K B H σ Γ Fs → ∀ Q : Bool → Hp → Prop, (∀ B2 H2, Nw B H B2 H2 → Q b H2) → wpT X e σ H Q := ⟨GoT.run⟩
structure GoW (X : Cx) (Γ : Ga) (e : Expr) (b : Bool) : Prop where
  run : ∀ σ B H Fs, En X.K B H σ Γ Fs → ∀ Q : Bool → Hp → Prop, (∀ B2 H2, Nw B H B2 H2 → Q b H2) → wpW X e σ H Q
instance {X : Cx} {Γ : Ga} {e : Expr} {b : Bool} : CoeFun (GoW X Γ e b) fun _ => ∀ σ B H Fs, En X.K B H σ Γ Fs → ∀ Q : Bool → Hp → Prop, (∀ B2 H2, Nw B H B2 H2 → Q b H2) → wpW X e σ H Q := ⟨GoW.run⟩
def wpC (X : Cx) (op : CmpOp) (a b : Expr) : TE := fun σ H Q => ∀ pins s, Inv X pins σ H s → wpAny (model X.prog X.w) X.A (eval a X.env) (fun v s₁ => wpAny (model X.prog X.w) X.A (eval b X.env) (fun u s₂ => wpAny (model X.prog X.w) X.A (compareOp op v u) (EP X pins σ Q) X.xe s₂) X.xe s₁) X.xe s
theorem sC {X : Cx} {op : CmpOp} {a b : Expr} : PC X op a b (wpC X op a b) := ⟨fun pins s _ _ _ I h => h pins s I⟩
theorem toC {X : Cx} {op : CmpOp} {a b : Expr} {t : TE} {σ : L2.St} {H : Hp} {Q : VK} (p : PC X op a b t) (h : t σ H Q) : wpC X op a b σ H Q := fun pins s I => p.run pins s σ H Q I h
theorem pc_op {X : Cx} {op : CmpOp} {a b : Expr} {r : V → V → Hp → VK → Prop} {ta tb : TE} (ho : OpR X (compareOp op) r) (ha : PE X a ta) (hb : PE X b tb) : PC X op a b (tOp r ta tb) :=
  ⟨fun pins s σ H Q I h => bin ha hb I h fun v u s2 x y H2 I2 rx ry q => ho pins s2 σ H2 x y v u Q I2 rx ry q⟩
structure GoC (X : Cx) (Γ : Ga) (op : CmpOp) (a b : Expr) (k : Bool) : Prop where
  run : ∀ σ B H Fs, En X.K B H σ Γ Fs → ∀ Q : VK, (∀ B2 H2, Nw B H B2 H2 → Q (.bl k) H2) → wpC X op a b σ H Q
instance {X : Cx} {Γ : Ga} {op : CmpOp} {a b : Expr} {k : Bool} : CoeFun (GoC X Γ op a b k) fun _ => ∀ σ B H Fs, En X.K B H σ Γ Fs → ∀ Q : VK, (∀ B2 H2, Nw B H B2 H2 → Q (.bl k) H2) → wpC X op a b σ H Q := ⟨GoC.run⟩
inductive MnAll (K : PySem.W.Frag) (B : Hp) : List V → List Mn → Prop
  | nil : MnAll K B [] []
  | cons {v : V} {vs : List V} {P : Mn} {Ps : List Mn} : P.p K B v → MnAll K B vs Ps → MnAll K B (v :: vs) (P :: Ps)
structure GoA (X : Cx) (Γ : Ga) (es : List Expr) (Ps : List Mn) : Prop where
  run : ∀ σ B H Fs, En X.K B H σ Γ Fs → ∀ Q : List V → Hp → Prop, (∀ vs B2 H2, Nw B H B2 H2 → MnAll X.K B2 vs Ps → Q vs H2) → wpA X es σ H Q
instance {X : Cx} {Γ : Ga} {es : List Expr} {Ps : List Mn} : CoeFun (GoA X Γ es Ps) fun _ => ∀ σ B H Fs, En X.K B H σ Γ Fs → ∀ Q : List V → Hp → Prop, (∀ vs B2 H2, Nw B H B2 H2 → MnAll X.K B2 vs Ps → Q vs H2) → wpA X es σ H Q := ⟨GoA.run⟩
theorem MnAll.up {K : PySem.W.Frag} {B B' : Hp} (e : Ex B B') : ∀ {vs : List V} {Ps : List Mn}, MnAll K B vs Ps → MnAll K B' vs Ps
  | _, _, .nil => .nil
  | _, _, .cons (P := P) h t => .cons (P.up e h) (MnAll.up e t)
theorem MnAll.dps {K : PySem.W.Frag} {B : Hp} : ∀ {ds : List D} {vs : List V}, MnAll K B vs (ds.map datP) → DpAll K B vs ds
  | [], _, .nil => .nil
  | _ :: _, _, .cons h t => .cons h (MnAll.dps t)
section
variable {X : Cx} {Γ : Ga} {e a b : Expr} {es : List Expr} {P : Mn} {d : D} {ds : List D} {pos : Pos}
theorem go_of_new (h : GoN X Γ e ds) : Go X Γ e (.list ds) := .mk fun σ B H Fs E Q q => h σ B H Fs E Q fun p vs B2 H2 n hp hb hH hd => by
  obtain ⟨e1, e2⟩ := Nw.ice n.bh hb hH
  refine q _ _ _ ⟨n.bb.trans e1, e2, n.hh, fun a h1 h2 => ?_⟩ (show Dp _ _ _ _ from .lst (.of upd_same) (dpsUp e1 hd))
  have : a ≠ p := fun z => h2 (by rw [z]; exact hp)
  rw [upd_ne this]
  exact n.nu a h1 h2
theorem go_is {d' : D} (h : Go X Γ e d) (he : d = d') : Go X Γ e d' := he ▸ h
theorem goT_is {b b' : Bool} (h : GoT X Γ e b) (he : b = b') : GoT X Γ e b' := he ▸ h
theorem goP_imp {P' : Mn} (h : GoP X Γ e P) (hp : ∀ K B v, P.p K B v → P'.p K B v) : GoP X Γ e P' := .mk fun σ B H Fs E Q q => h σ B H Fs E Q fun v B2 H2 n r => q v B2 H2 n (hp _ _ _ r)
theorem goA_nil : GoA X Γ [] [] := .mk fun σ B H Fs E Q q => toA pa_nil (q [] B H (.same E.bh) .nil)
theorem goA_cons {Ps : List Mn} (he : GoP X Γ e P) (ht : GoA X Γ es Ps) (hs : starEach (e :: es) X.env = (false, eval e X.env) :: starEach es X.env := by rfl) : GoA X Γ (e :: es) (P :: Ps) := .mk fun σ B H Fs E Q q =>
  toA (pa_cons sE sA hs) (he σ B H Fs E _ fun v B1 H1 n1 r1 => ht σ B1 H1 Fs (E.nw n1) _ fun vs B2 H2 n2 r2 => q (v :: vs) B2 H2 (n1.trans n2) (.cons (P.up n2.bb r1) r2))
theorem go_var (i : Nat) {x : Str} (hΓ : Γ[i]? = some (.pr P) := by rfl) (hN : X.N[i]? = some x := by rfl) (hv : Vis X.env.scope x := by first | exact Or.inl rfl | exact Or.inr (Or.inl rfl) | exact Or.inr (Or.inr rfl))
    (hd : (x == ("__debug__" : Str)) = false := by decide) (hcd : (x == ("__classdict__" : Str)) = false := by decide) : GoP X Γ (.Name x pos) P := .mk fun σ B H Fs E Q q => by
  obtain ⟨v, h1, h2⟩ := E.at_ i _ hΓ
  exact toE (pe_var hN hv hd hcd) ⟨v, h1, q v B H (.same E.bh) h2⟩
theorem go_int {i : Int} {j} : Go X Γ (.Constant (.int i) j pos) (.int i) := .mk fun σ B H Fs E Q q => toE pe_int (q _ B H (.same E.bh) (Dp.int i))
theorem go_bl {i : Bool} {j} : Go X Γ (.Constant (.bool i) j pos) (.bool i) := .mk fun σ B H Fs E Q q => toE pe_bl (q _ B H (.same E.bh) (Dp.bl i))
theorem go_non {j} : Go X Γ (.Constant .none j pos) .none := .mk fun σ B H Fs E Q q => toE pe_non (q _ B H (.same E.bh) Dp.non)
theorem go_str {x : Str} {j} : Go X Γ (.Constant (.str x) j pos) (.str x) := .mk fun σ B H Fs E Q q => toE pe_str (q _ B H (.same E.bh) (Dp.str x))
/-- an operator on flat values -/
theorem go_op2 {op : Operator} {r : V → V → Hp → VK → Prop} {x y : D} {P : Mn} (ho : OpR X (binaryOp op) r) (ha : Go X Γ a x) (hb : Go X Γ b y)
    (hr : ∀ v w B H, Ex B H → Dp X.K B v x → Dp X.K B w y → ∀ Q, EQ X B H P Q → r v w H Q) : GoP X Γ (.BinOp a op b pos) P := .mk fun σ B H Fs E Q q =>
  toE (pe_op ho sE sE) (ha σ B H Fs E _ fun v B1 H1 n1 r1 => hb σ B1 H1 Fs (E.nw n1) _ fun w B2 H2 n2 r2 =>
    hr v w B2 H2 n2.bh (dpUp n2.bb r1) r2 Q fun z B3 H3 n3 r3 => q z B3 H3 ((n1.trans n2).trans n3) r3)
theorem go_cmp2 {op : CmpOp} {r : V → V → Hp → VK → Prop} {x y : D} {c : Bool} (ho : OpR X (compareOp op) r) (ha : Go X Γ a x) (hb : Go X Γ b y)
    (hr : ∀ v w B H, Ex B H → Dp X.K B v x → Dp X.K B w y → ∀ Q : VK, Q (.bl c) H → r v w H Q) : GoC X Γ op a b c := .mk fun σ B H Fs E Q q =>
  toC (pc_op ho sE sE) (ha σ B H Fs E _ fun v B1 H1 n1 r1 => hb σ B1 H1 Fs (E.nw n1) _ fun w B2 H2 n2 r2 =>
    hr v w B2 H2 n2.bh (dpUp n2.bb r1) r2 Q (q B2 H2 (n1.trans n2)))
theorem goc {op : CmpOp} {k : Bool} (h : GoC X Γ op a b k) (hm : behindInMarks op b = false := by first | exact nobehind _ (by decide) (by decide) | rfl) : Go X Γ (.Compare a [op] [b] pos) (.bool k) := .mk fun σ B H Fs E Q q =>
  toE (pe_cmp sC hm) (h σ B H Fs E _ fun B2 H2 n => q _ B2 H2 n (Dp.bl k))
theorem gocT {op : CmpOp} {k : Bool} (h : GoC X Γ op a b k) (hm : behindInMarks op b = false := by first | exact nobehind _ (by decide) (by decide) | rfl) : GoT X Γ (.Compare a [op] [b] pos) k := .mk fun σ B H Fs E Q q =>
  toT (pt_cmp sC hm) (h σ B H Fs E _ fun B2 H2 n => ⟨k, rfl, q B2 H2 n⟩)
end

/-! ### arithmetic, comparisons -/
section
variable {X : Cx} {Γ : Ga} {e a b c : Expr} {es : List Expr} {P : Mn} {d : D} {ds : List D} {pos : Pos}
theorem dp_int {K : PySem.W.Frag} {H : Hp} {v : V} {i : Int} (h : Dp K H v (.int i)) : v = .int i := by
  cases h
  rfl
theorem dp_bl {K : PySem.W.Frag} {H : Hp} {v : V} {i : Bool} (h : Dp K H v (.bool i)) : v = .bl i := by
  cases h
  rfl
theorem dp_str {K : PySem.W.Frag} {H : Hp} {v : V} {i : Str} (h : Dp K H v (.str i)) : v = .str i := by
  cases h
  rfl
theorem dp_non {K : PySem.W.Frag} {H : Hp} {v : V} (h : Dp K H v .none) : v = .non := by
  cases h
  rfl
theorem dp_lst {K : PySem.W.Frag} {H : Hp} {v : V} (h : Dp K H v (.list ds)) : ∃ a vs, v = .ref a ∧ SqL K H a vs ∧ DpAll K H vs ds := by
  cases h with
  | lst h1 h2 => exact ⟨_, _, rfl, h1, h2⟩
theorem dp_tup {K : PySem.W.Frag} {H : Hp} {v : V} (h : Dp K H v (.tuple ds)) : ∃ a vs, v = .ref a ∧ SqT K H a vs ∧ DpAll K H vs ds := by
  cases h with
  | tup h1 h2 => exact ⟨_, _, rfl, h1, h2⟩
theorem go_ar {op : Operator} {C : Int → Int → Prop} {g : Int → Int → Int} {i j : Int} (ho : OpR X (binaryOp op) (rI C fun i j => .int (g i j))) (ha : Go X Γ a (.int i)) (hb : Go X Γ b (.int j)) (hc : C i j) :
    Go X Γ (.BinOp a op b pos) (.int (g i j)) := go_op2 ho ha hb fun v w B H hB r1 r2 Q q => by
  have e1 := dp_int r1
  have e2 := dp_int r2
  subst e1 e2
  exact ⟨i, j, rfl, rfl, hc, q _ B H (.same hB) (Dp.int _)⟩
theorem go_ar0 {op : Operator} {g : Int → Int → Int} {i j : Int} (ho : OpR X (binaryOp op) (rI0 fun i j => .int (g i j))) (ha : Go X Γ a (.int i)) (hb : Go X Γ b (.int j)) :
    Go X Γ (.BinOp a op b pos) (.int (g i j)) := go_op2 ho ha hb fun v w B H hB r1 r2 Q q => by
  have e1 := dp_int r1
  have e2 := dp_int r2
  subst e1 e2
  exact ⟨i, j, rfl, rfl, q _ B H (.same hB) (Dp.int _)⟩
theorem go_add {i j : Int} (ha : Go X Γ a (.int i)) (hb : Go X Γ b (.int j)) : Go X Γ (.BinOp a .Add b pos) (.int (i + j)) := go_ar0 op_add ha hb
theorem go_sub {i j : Int} (ha : Go X Γ a (.int i)) (hb : Go X Γ b (.int j)) : Go X Γ (.BinOp a .Sub b pos) (.int (i - j)) := go_ar0 op_sub ha hb
theorem go_mul {i j : Int} (ha : Go X Γ a (.int i)) (hb : Go X Γ b (.int j)) (hc : CMul i j) : Go X Γ (.BinOp a .Mult b pos) (.int (i * j)) := go_ar op_mul ha hb hc
theorem go_mulX {i j : Int} (ha : Go X Γ a (.int i)) (hb : Go X Γ b (.int j)) (hc : CMulX i j) : Go X Γ (.BinOp a .Mult b pos) (.int (i * j)) := go_ar op_mulX ha hb hc
theorem go_fdiv {i j : Int} (ha : Go X Γ a (.int i)) (hb : Go X Γ b (.int j)) (hc : CDiv i j) : Go X Γ (.BinOp a .FloorDiv b pos) (.int (i / j)) := go_ar op_fdiv ha hb hc
theorem go_mod {i j : Int} (ha : Go X Γ a (.int i)) (hb : Go X Γ b (.int j)) (hc : 0 < j) : Go X Γ (.BinOp a .Mod b pos) (.int (i % j)) := go_ar op_mod ha hb hc
theorem go_pow {i j : Int} (ha : Go X Γ a (.int i)) (hb : Go X Γ b (.int j)) (hc : CPow i j) : Go X Γ (.BinOp a .Pow b pos) (.int (i ^ j.toNat)) := go_ar op_pow ha hb hc
theorem go_shl {i j : Int} (ha : Go X Γ a (.int i)) (hb : Go X Γ b (.int j)) (hc : CPow i j) : Go X Γ (.BinOp a .LShift b pos) (.int (i * 2 ^ j.toNat)) := go_ar (g := fun i j => i * 2 ^ j.toNat) op_shl ha hb hc
theorem go_shr {i j : Int} (ha : Go X Γ a (.int i)) (hb : Go X Γ b (.int j)) (hc : 0 ≤ j) : Go X Γ (.BinOp a .RShift b pos) (.int (i / 2 ^ j.toNat)) := go_ar (g := fun i j => i / 2 ^ j.toNat) (C := fun _ j => 0 ≤ j) op_shr ha hb hc
theorem go_and {i j : Int} (ha : Go X Γ a (.int i)) (hb : Go X Γ b (.int j)) : Go X Γ (.BinOp a .BitAnd b pos) (.int (Builtin.bitAnd i j)) := go_ar0 op_and ha hb
theorem go_or {i j : Int} (ha : Go X Γ a (.int i)) (hb : Go X Γ b (.int j)) : Go X Γ (.BinOp a .BitOr b pos) (.int (Builtin.bitOr i j)) := go_ar0 op_or ha hb
theorem go_xor {i j : Int} (ha : Go X Γ a (.int i)) (hb : Go X Γ b (.int j)) : Go X Γ (.BinOp a .BitXor b pos) (.int (Builtin.bitXor i j)) := go_ar0 op_xor ha hb
theorem go_neg {i : Int} (ha : Go X Γ a (.int i)) : Go X Γ (.UnaryOp .USub a pos) (.int (-i)) := .mk fun σ B H Fs E Q q =>
  toE (pe_un un_neg sE) (ha σ B H Fs E _ fun v B1 H1 n1 r1 => ⟨i, dp_int r1, q _ B1 H1 n1 (Dp.int _)⟩)
theorem go_addS {i j : Str} (ha : Go X Γ a (.str i)) (hb : Go X Γ b (.str j)) (hl : i.length + j.length ≤ sizeLine) : Go X Γ (.BinOp a .Add b pos) (.str (i ++ j)) := go_op2 op_add_str ha hb fun v w B H hB r1 r2 Q q => by
  have e1 := dp_str r1
  have e2 := dp_str r2
  subst e1 e2
  exact ⟨i, j, rfl, rfl, hl, q _ B H (.same hB) (Dp.str _)⟩
theorem go_cmpI {op : CmpOp} {g : Int → Int → Bool} {i j : Int} (ho : OpR X (compareOp op) (rI0 fun i j => .bl (g i j))) (ha : Go X Γ a (.int i)) (hb : Go X Γ b (.int j)) :
    GoC X Γ op a b (g i j) := go_cmp2 ho ha hb (fun v w B H hB r1 r2 Q q => ⟨i, j, dp_int r1, dp_int r2, q⟩)
theorem gc_lt {i j : Int} (ha : Go X Γ a (.int i)) (hb : Go X Γ b (.int j)) : GoC X Γ .Lt a b (decide (i < j)) := go_cmpI op_lt ha hb
theorem gc_le {i j : Int} (ha : Go X Γ a (.int i)) (hb : Go X Γ b (.int j)) : GoC X Γ .LtE a b (decide (i ≤ j)) := go_cmpI op_le ha hb
theorem gc_gt {i j : Int} (ha : Go X Γ a (.int i)) (hb : Go X Γ b (.int j)) : GoC X Γ .Gt a b (decide (j < i)) := go_cmpI op_gt ha hb
theorem gc_ge {i j : Int} (ha : Go X Γ a (.int i)) (hb : Go X Γ b (.int j)) : GoC X Γ .GtE a b (decide (j ≤ i)) := go_cmpI op_ge ha hb
theorem gc_eqI {i j : Int} (ha : Go X Γ a (.int i)) (hb : Go X Γ b (.int j)) : GoC X Γ .Eq a b (decide (i = j)) := go_cmp2 op_eq ha hb (fun v w B H hB r1 r2 Q q => by
  rw [dp_int r1, dp_int r2]
  refine ⟨rfl, ?_⟩
  rw [show decide (V.int i = V.int j) = decide (i = j) from decide_eq_decide.mpr ⟨V.int.inj, congrArg _⟩]
  exact q)
theorem gc_neI {i j : Int} (ha : Go X Γ a (.int i)) (hb : Go X Γ b (.int j)) : GoC X Γ .NotEq a b (!decide (i = j)) := go_cmp2 op_ne ha hb (fun v w B H hB r1 r2 Q q => by
  rw [dp_int r1, dp_int r2]
  refine ⟨rfl, ?_⟩
  rw [show decide (V.int i = V.int j) = decide (i = j) from decide_eq_decide.mpr ⟨V.int.inj, congrArg _⟩]
  exact q)
theorem gc_eqS {i j : Str} (ha : Go X Γ a (.str i)) (hb : Go X Γ b (.str j)) : GoC X Γ .Eq a b (decide (i = j)) := go_cmp2 op_eq ha hb (fun v w B H hB r1 r2 Q q => by
  rw [dp_str r1, dp_str r2]
  refine ⟨rfl, ?_⟩
  rw [show decide (V.str i = V.str j) = decide (i = j) from decide_eq_decide.mpr ⟨V.str.inj, congrArg _⟩]
  exact q)
theorem gc_neS {i j : Str} (ha : Go X Γ a (.str i)) (hb : Go X Γ b (.str j)) : GoC X Γ .NotEq a b (!decide (i = j)) := go_cmp2 op_ne ha hb (fun v w B H hB r1 r2 Q q => by
  rw [dp_str r1, dp_str r2]
  refine ⟨rfl, ?_⟩
  rw [show decide (V.str i = V.str j) = decide (i = j) from decide_eq_decide.mpr ⟨V.str.inj, congrArg _⟩]
  exact q)
theorem gc_eqB {i j : Bool} (ha : Go X Γ a (.bool i)) (hb : Go X Γ b (.bool j)) : GoC X Γ .Eq a b (i == j) := go_cmp2 op_eq ha hb (fun v w B H hB r1 r2 Q q => by
  rw [dp_bl r1, dp_bl r2]
  refine ⟨rfl, ?_⟩
  rw [show decide (V.bl i = V.bl j) = (i == j) by cases i <;> cases j <;> rfl]
  exact q)
theorem gc_neB {i j : Bool} (ha : Go X Γ a (.bool i)) (hb : Go X Γ b (.bool j)) : GoC X Γ .NotEq a b (i != j) := go_cmp2 op_ne ha hb (fun v w B H hB r1 r2 Q q => by
  rw [dp_bl r1, dp_bl r2]
  refine ⟨rfl, ?_⟩
  rw [show (!decide (V.bl i = V.bl j)) = (i != j) by cases i <;> cases j <;> rfl]
  exact q)
/-- room for what runs below -/
def UOk (X : Cx) : Prop := X.A.units + 200 < cLine
theorem UOk.of {X : Cx} {k : Nat} (r : Room k X.A) : UOk X := by
  have := r.un
  show X.A.units + 200 < cLine
  omega
theorem UOk.u65 {X : Cx} (h : UOk X) : X.A.units + 65 < cLine := by
  have h' : X.A.units + 200 < cLine := h
  omega
theorem UOk.u64 {X : Cx} (h : UOk X) : X.A.units + 64 < cLine := by
  have h' : X.A.units + 200 < cLine := h
  omega
theorem UOk.u1 {X : Cx} (h : UOk X) : X.A.units + 1 < cLine := by
  have h' : X.A.units + 200 < cLine := h
  omega
theorem UOk.u0 {X : Cx} (h : UOk X) : X.A.units < cLine := by
  have h' : X.A.units + 200 < cLine := h
  omega
theorem gc_eqD {x y : D} (hu : UOk X) (ha : Go X Γ a x) (hb : Go X Γ b y) (h1 : SeqAt.shaped x = true) (h2 : SeqAt.shaped y = true) : GoC X Γ .Eq a b (PyData.eqv x y) :=
  go_cmp2 (op_eqD hu.u64) ha hb (fun v w B H hB r1 r2 Q q => ⟨x, y, dpUp hB r1, dpUp hB r2, h1, h2, q⟩)
theorem gc_neD {x y : D} (hu : UOk X) (ha : Go X Γ a x) (hb : Go X Γ b y) (h1 : SeqAt.shaped x = true) (h2 : SeqAt.shaped y = true) : GoC X Γ .NotEq a b (!PyData.eqv x y) :=
  go_cmp2 (op_neD hu.u64) ha hb (fun v w B H hB r1 r2 Q q => ⟨x, y, dpUp hB r1, dpUp hB r2, h1, h2, q⟩)
/-- x in xs, by == of data of any depth -/
def hasD (ds : List D) (d : D) : Bool := ds.any fun z => PyData.eqv z d
end

/-! ### tests, truth, in -/
section
variable {X : Cx} {Γ : Ga} {e a b c : Expr} {es rest : List Expr} {P : Mn} {d : D} {ds : List D} {pos : Pos} {k l : Bool}
theorem goW_T (h : GoW X Γ e k) : GoT X Γ e k := .mk fun σ B H Fs E Q q pins s I => h σ B H Fs E Q q (eval e X.env) pins s I
/-- a test that is a value of its own -/
theorem goT_val (h : Go X Γ e (.bool k)) (he : ∀ whole, isTrue e X.env whole = (do let v ← whole; standAt e.pos; holding [v] (truthy v)) := by intro _; rfl) : GoT X Γ e k := .mk fun σ B H Fs E Q q =>
  toT (pt_val sE he) (h σ B H Fs E _ fun v B1 H1 n1 r1 => ⟨k, dp_bl r1, q B1 H1 n1⟩)
theorem goT_not (h : GoT X Γ a k) : GoT X Γ (.UnaryOp .Not a pos) (!k) := .mk fun σ B H Fs E Q q => toT (pt_not sT) (h σ B H Fs E _ fun B1 H1 n1 => q B1 H1 n1)
theorem goW_and1 (h : GoT X Γ a k) : GoW X Γ (.BoolOp .And [a] pos) k := .mk fun σ B H Fs E Q q => toW (pw_and1 sT) (h σ B H Fs E _ q)
theorem goW_or1 (h : GoT X Γ a k) : GoW X Γ (.BoolOp .Or [a] pos) k := .mk fun σ B H Fs E Q q => toW (pw_or1 sT) (h σ B H Fs E _ q)
theorem goW_and (h : GoT X Γ a k) (h2 : k = true → GoW X Γ (.BoolOp .And (b :: rest) pos) l) : GoW X Γ (.BoolOp .And (a :: b :: rest) pos) (k && l) := .mk fun σ B H Fs E Q q =>
  toW (pw_and sT sW) (h σ B H Fs E _ fun B1 H1 n1 => by
    cases k with
    | false => exact iteF (q B1 H1 n1)
    | true => exact iteT (h2 rfl σ B1 H1 Fs (E.nw n1) _ fun B2 H2 n2 => q B2 H2 (n1.trans n2)))
theorem goW_or (h : GoT X Γ a k) (h2 : k = false → GoW X Γ (.BoolOp .Or (b :: rest) pos) l) : GoW X Γ (.BoolOp .Or (a :: b :: rest) pos) (k || l) := .mk fun σ B H Fs E Q q =>
  toW (pw_or sT sW) (h σ B H Fs E _ fun B1 H1 n1 => by
    cases k with
    | true => exact iteT (q B1 H1 n1)
    | false => exact iteF (h2 rfl σ B1 H1 Fs (E.nw n1) _ fun B2 H2 n2 => q B2 H2 (n1.trans n2)))
/-! the same as values -/
theorem go_one {op} (h : GoP X Γ a P) : GoP X Γ (.BoolOp op [a] pos) P := .mk fun σ B H Fs E Q q => toE (pe_one sE) (h σ B H Fs E Q q)
theorem go_andV (h : Go X Γ a (.bool k)) (h2 : k = true → Go X Γ (.BoolOp .And (b :: rest) pos) (.bool l)) : Go X Γ (.BoolOp .And (a :: b :: rest) pos) (.bool (k && l)) := .mk fun σ B H Fs E Q q =>
  toE (pe_and sE sE) (h σ B H Fs E _ fun v B1 H1 n1 r1 => ⟨k, dp_bl r1, by
    cases k with
    | false => exact iteF (q _ B1 H1 n1 (Dp.bl _))
    | true => exact iteT (h2 rfl σ B1 H1 Fs (E.nw n1) _ fun v B2 H2 n2 r2 => q v B2 H2 (n1.trans n2) r2)⟩)
theorem go_orV (h : Go X Γ a (.bool k)) (h2 : k = false → Go X Γ (.BoolOp .Or (b :: rest) pos) (.bool l)) : Go X Γ (.BoolOp .Or (a :: b :: rest) pos) (.bool (k || l)) := .mk fun σ B H Fs E Q q =>
  toE (pe_or sE sE) (h σ B H Fs E _ fun v B1 H1 n1 r1 => ⟨k, dp_bl r1, by
    cases k with
    | true => exact iteT (q _ B1 H1 n1 (Dp.bl _))
    | false => exact iteF (h2 rfl σ B1 H1 Fs (E.nw n1) _ fun v B2 H2 n2 r2 => q v B2 H2 (n1.trans n2) r2)⟩)
theorem go_notV (h : Go X Γ a (.bool k)) : Go X Γ (.UnaryOp .Not a pos) (.bool (!k)) := .mk fun σ B H Fs E Q q =>
  toE (pe_not sE) (h σ B H Fs E _ fun v B1 H1 n1 r1 => ⟨k, dp_bl r1, q _ B1 H1 n1 (Dp.bl _)⟩)
theorem go_ifE (h : GoT X Γ c k) (h1 : k = true → GoP X Γ a P) (h2 : k = false → GoP X Γ b P) : GoP X Γ (.IfExp c a b pos) P := .mk fun σ B H Fs E Q q =>
  toE (pe_ifExp sT sE sE) (h σ B H Fs E _ fun B1 H1 n1 => by
    cases k with
    | true => exact iteT (h1 rfl σ B1 H1 Fs (E.nw n1) _ fun v B2 H2 n2 r2 => q v B2 H2 (n1.trans n2) r2)
    | false => exact iteF (h2 rfl σ B1 H1 Fs (E.nw n1) _ fun v B2 H2 n2 r2 => q v B2 H2 (n1.trans n2) r2))
def isNonD : D → Bool
  | .none => true
  | _ => false
theorem gc_isN {j pos'} (h : Go X Γ a d) : GoC X Γ .Is a (.Constant .none j pos') (isNonD d) := .mk fun σ B H Fs E Q q =>
  toC (pc_isN sE) (h σ B H Fs E _ fun v B1 H1 n1 r1 => by
    have : decide (v = V.non) = isNonD d := by
      cases r1 <;> rfl
    show Q (.bl (decide (v = V.non))) H1
    rw [this]
    exact q B1 H1 n1)
theorem gc_notN {j pos'} (h : Go X Γ a d) : GoC X Γ .IsNot a (.Constant .none j pos') (!isNonD d) := .mk fun σ B H Fs E Q q =>
  toC (pc_notN sE) (h σ B H Fs E _ fun v B1 H1 n1 r1 => by
    have : decide (v = V.non) = isNonD d := by
      cases r1 <;> rfl
    show Q (.bl (!decide (v = V.non))) H1
    rw [this]
    exact q B1 H1 n1)
/-- the truth of a value -/
def truD : D → Bool
  | .none => false
  | .bool b => b
  | .int i => i != 0
  | .str y => (y.length : Int) != 0
  | .list xs => (xs.length : Int) != 0
  | .tuple xs => (xs.length : Int) != 0
  | .dict _ => false
theorem goT_tru (h : Go X Γ a d) (hd : ∀ y, d = .str y → y.length ≤ sizeLine) (hn : ∀ z, d ≠ .dict z) (he : ∀ whole, isTrue a X.env whole = (do let v ← whole; standAt a.pos; holding [v] (truthy v)) := by intro _; rfl) : GoT X Γ a (truD d) := .mk fun σ B H Fs E Q q =>
  toT (pt_truth sE he) (h σ B H Fs E _ fun v B1 H1 n1 r1 => by
    have e1 := n1.bh
    cases r1 with
    | non => exact ⟨_, rfl, q B1 H1 n1⟩
    | bl b => exact ⟨_, rfl, q B1 H1 n1⟩
    | int b => exact ⟨_, rfl, q B1 H1 n1⟩
    | str y => exact ⟨_, ⟨hd y rfl, rfl⟩, q B1 H1 n1⟩
    | lst h1 h2 =>
      refine ⟨_, .inl ⟨_, e1.sl h1, rfl⟩, ?_⟩
      cases h2 <;> exact q B1 H1 n1
    | tup h1 h2 =>
      refine ⟨_, .inr (.inl ⟨_, e1.st h1, rfl⟩), ?_⟩
      cases h2 <;> exact q B1 H1 n1)
theorem gc_in {x : D} (hu : UOk X) (ha : Go X Γ a x) (hb : Go X Γ b (.list ds)) (h1 : SeqAt.shaped x = true) (h2 : SeqAt.shaped (.list ds) = true) : GoC X Γ .In a b (hasD ds x) :=
  go_cmp2 (op_inD hu.u65) ha hb (fun v w B H hB r1 r2 Q q => ⟨x, ds, dpUp hB r1, dpUp hB r2, h1, h2, q⟩)
theorem gc_notIn {x : D} (hu : UOk X) (ha : Go X Γ a x) (hb : Go X Γ b (.list ds)) (h1 : SeqAt.shaped x = true) (h2 : SeqAt.shaped (.list ds) = true) : GoC X Γ .NotIn a b (!hasD ds x) :=
  go_cmp2 (op_notInD hu.u65) ha hb (fun v w B H hB r1 r2 Q q => ⟨x, ds, dpUp hB r1, dpUp hB r2, h1, h2, q⟩)
end

/-! ### displays, subscripts, slices -/
abbrev GoDs (X : Cx) (Γ : Ga) (es : List Expr) (ds : List D) : Prop := GoA X Γ es (ds.map datP)
def slD (ds : List D) (lo hi : Option Int) : List D := (ds.drop (HT.sIx ds.length 0 lo)).take (HT.sIx ds.length ds.length hi - HT.sIx ds.length 0 lo)
theorem dps_cut {K : PySem.W.Frag} {H : Hp} {vs : List V} {ds : List D} (h : DpAll K H vs ds) (lo hi : Option Int) : DpAll K H (cutV vs lo hi) (slD ds lo hi) := by
  unfold cutV slD
  rw [dps_len h]
  exact dps_take _ (dps_drop _ h)
theorem dps_atI {K : PySem.W.Frag} {H : Hp} {vs : List V} {ds : List D} {i : Int} {d : D} (h : DpAll K H vs ds) (e : atI ds i = some d) : ∃ v, atI vs i = some v ∧ Dp K H v d := by
  unfold atI at e ⊢
  rw [dps_len h]
  cases q : ixN ds.length i with
  | none =>
    rw [q] at e
    cases e
  | some j =>
    rw [q] at e
    exact dps_get h e
def GoO (X : Cx) (Γ : Ga) : Option Expr → Option Int → Prop
  | none, o => o = none
  | some e, o => ∃ i, o = some i ∧ Go X Γ e (.int i)
section
variable {X : Cx} {Γ : Ga} {e a b c : Expr} {es rest : List Expr} {P : Mn} {d : D} {ds : List D} {pos : Pos} {k l : Bool}
theorem god_nil : GoDs X Γ [] [] := goA_nil
theorem god_cons (he : Go X Γ e d) (ht : GoDs X Γ es ds) (hs : starEach (e :: es) X.env = (false, eval e X.env) :: starEach es X.env := by rfl) : GoDs X Γ (e :: es) (d :: ds) := goA_cons he ht hs
theorem goN_lst (h : GoDs X Γ es ds) (hl : ds.length ≤ sizeLine := by show _ ≤ _; simp only [List.length]; decide) : GoN X Γ (.List es pos) ds := .mk fun σ B H Fs E Q q =>
  toE (pe_lst sA) (h σ B H Fs E _ fun vs B1 H1 n1 r1 => by
    have r2 := r1.dps
    refine ⟨by rw [dps_len r2]; exact hl, fun p hp => ?_⟩
    exact q p vs B1 _ (n1.trans (.lay n1.bh hp)) (n1.hh.none hp) (n1.bh.none hp) upd_same r2)
theorem go_lst (h : GoDs X Γ es ds) (hl : ds.length ≤ sizeLine := by show _ ≤ _; simp only [List.length]; decide) : Go X Γ (.List es pos) (.list ds) := go_of_new (goN_lst h hl)
theorem go_tup {j} (h : GoDs X Γ es ds) (hl : ds.length ≤ sizeLine := by show _ ≤ _; simp only [List.length]; decide) : Go X Γ (.Tuple es j pos) (.tuple ds) := .mk fun σ B H Fs E Q q =>
  toE (pe_tup sA) (h σ B H Fs E _ fun vs B1 H1 n1 r1 => by
    have r2 := r1.dps
    refine ⟨by rw [dps_len r2]; exact hl, fun p hp => ?_⟩
    have n2 := Nw.new (o := .tup vs) n1.bh hp
    exact q _ _ _ (n1.trans n2) (Dp.tup (.of upd_same) (dpsUp n2.bb r2)))
theorem go_ixL {i : Int} (ha : Go X Γ a (.list ds)) (hb : Go X Γ b (.int i)) (hi : atI ds i = some d) (hs : PlainIx b := by exact fun _ _ => rfl) : Go X Γ (.Subscript a b pos) d := .mk fun σ B H Fs E Q q =>
  toE (pe_ix ix_list sE sE hs) (ha σ B H Fs E _ fun v B1 H1 n1 r1 => hb σ B1 H1 Fs (E.nw n1) _ fun w B2 H2 n2 r2 => by
    obtain ⟨p, vs, e1, e2, e3⟩ := dp_lst (dpUp n2.bb r1)
    obtain ⟨u, e4, e5⟩ := dps_atI e3 hi
    exact ⟨p, vs, i, u, e1, dp_int r2, n2.bh.sl e2, e4, q u B2 H2 (n1.trans n2) e5⟩)
theorem go_ixT {i : Int} (ha : Go X Γ a (.tuple ds)) (hb : Go X Γ b (.int i)) (hi : atI ds i = some d) (hs : PlainIx b := by exact fun _ _ => rfl) : Go X Γ (.Subscript a b pos) d := .mk fun σ B H Fs E Q q =>
  toE (pe_ix ix_tup sE sE hs) (ha σ B H Fs E _ fun v B1 H1 n1 r1 => hb σ B1 H1 Fs (E.nw n1) _ fun w B2 H2 n2 r2 => by
    obtain ⟨p, vs, e1, e2, e3⟩ := dp_tup (dpUp n2.bb r1)
    obtain ⟨u, e4, e5⟩ := dps_atI e3 hi
    exact ⟨p, vs, i, u, e1, dp_int r2, n2.bh.st e2, e4, q u B2 H2 (n1.trans n2) e5⟩)
theorem go_ixS {i : Int} {z : Str} {m : Nat} (ha : Go X Γ a (.str z)) (hb : Go X Γ b (.int i)) (hl : z.length ≤ sizeLine) (hi : atI z.cps.toList i = some m) (hs : PlainIx b := by exact fun _ _ => rfl) : Go X Γ (.Subscript a b pos) (.str ⟨#[m]⟩) := .mk fun σ B H Fs E Q q =>
  toE (pe_ix ix_str sE sE hs) (ha σ B H Fs E _ fun v B1 H1 n1 r1 => hb σ B1 H1 Fs (E.nw n1) _ fun w B2 H2 n2 r2 =>
    ⟨z, i, m, dp_str r1, dp_int r2, hl, hi, q _ B2 H2 (n1.trans n2) (Dp.str _)⟩)
def wpO (X : Cx) : Option Expr → TO
  | none => tNoPart
  | some e => tPart (wpE X e)
theorem sO : ∀ {o : Option Expr}, PO X o (wpO X o)
  | none => po_none
  | some _ => po_some sE
theorem goO_run {oe : Option Expr} {o : Option Int} (h : GoO X Γ oe o) {σ B H Fs} (E : En X.K B H σ Γ Fs) {Q : Option Int → Hp → Prop} (q : ∀ B2 H2, Nw B H B2 H2 → Q o H2) : wpO X oe σ H Q := by
  cases oe with
  | none =>
    have e : o = none := h
    subst e
    exact q B H (.same E.bh)
  | some e =>
    obtain ⟨i, rfl, h⟩ := h
    exact h σ B H Fs E _ fun v B1 H1 n1 r1 => ⟨i, dp_int r1, q B1 H1 n1⟩
theorem goO_none : GoO X Γ none none := rfl
theorem goO_some {i : Int} (h : Go X Γ e (.int i)) : GoO X Γ (some e) (some i) := ⟨i, rfl, h⟩
theorem goN_sl {lo hi : Option Expr} {x y : Option Int} {p2 : Pos} (ha : Go X Γ a (.list ds)) (hl : GoO X Γ lo x) (hh : GoO X Γ hi y) : GoN X Γ (.Subscript a (.Slice lo hi none p2) pos) (slD ds x y) := .mk fun σ B H Fs E Q q =>
  toE (pe_slice sl_list sE sO sO) (ha σ B H Fs E _ fun v B1 H1 n1 r1 => goO_run hl (E.nw n1) fun B2 H2 n2 => goO_run hh ((E.nw n1).nw n2) fun B3 H3 n3 => by
    obtain ⟨p, vs, e1, e2, e3⟩ := dp_lst (dpUp (n2.bb.trans n3.bb) r1)
    refine ⟨p, vs, e1, n3.bh.sl e2, fun l hl => ?_⟩
    have n := (n1.trans n2).trans n3
    exact q l _ B3 _ (n.trans (.lay n.bh hl)) (n.hh.none hl) (n.bh.none hl) upd_same (dps_cut e3 x y))
/-! ### calls of built-in functions -/
theorem go_callB {x : Str} {id : String} {r : List V → Hp → VK → Prop} {Ps : List Mn} {p : Pos} (hc : CallR X (.builtin id) r) (hg : Gl X x) (hm : X.mg x = none) (hv : bootBuiltins x = some (.builtin id)) (ha : GoA X Γ (e :: es) Ps)
    (hr : ∀ vs B H, Ex B H → MnAll X.K B vs Ps → ∀ Q, EQ X B H P Q → r vs H Q) (hn : x ≠ "__name__" := by decide) (hdb : (x == ("__debug__" : Str)) = false := by decide)
    (he : starEach (e :: es) X.env = (false, eval e X.env) :: starEach es X.env := by rfl) (hpl : (backTo pos (starEach es X.env)).any (·.1) = false := by rfl) : GoP X Γ (.Call (.Name x p) (e :: es) [] pos) P := .mk fun σ B H Fs E Q q =>
  toE (pe_callB hc hg hm hv sA hn hdb he hpl) (ha σ B H Fs E _ fun vs B1 H1 n1 r1 => hr vs B1 H1 n1.bh r1 Q fun v B2 H2 n2 r2 => q v B2 H2 (n1.trans n2) r2)
theorem go_callTy {x : Str} {id : String} {r : List V → Hp → VK → Prop} {Ps : List Mn} {p : Pos} (hc : CallR X (.type id) r) (hg : Gl X x) (hm : X.mg x = none) (hv : bootBuiltins x = some (.type id)) (ha : GoA X Γ (e :: es) Ps)
    (hr : ∀ vs B H, Ex B H → MnAll X.K B vs Ps → ∀ Q, EQ X B H P Q → r vs H Q) (hn : x ≠ "__name__" := by decide) (hdb : (x == ("__debug__" : Str)) = false := by decide)
    (he : starEach (e :: es) X.env = (false, eval e X.env) :: starEach es X.env := by rfl) (hpl : (backTo pos (starEach es X.env)).any (·.1) = false := by rfl) : GoP X Γ (.Call (.Name x p) (e :: es) [] pos) P := .mk fun σ B H Fs E Q q =>
  toE (pe_callTy hc hg hm hv sA hn hdb he hpl) (ha σ B H Fs E _ fun vs B1 H1 n1 r1 => hr vs B1 H1 n1.bh r1 Q fun v B2 H2 n2 r2 => q v B2 H2 (n1.trans n2) r2)
/-- a new list by a built-in function -/
theorem goN_callTy {x : Str} {id : String} {r : List V → Hp → VK → Prop} {Ps : List Mn} {p : Pos} (hc : CallR X (.type id) r) (hg : Gl X x) (hm : X.mg x = none) (hv : bootBuiltins x = some (.type id)) (ha : GoA X Γ (e :: es) Ps)
    (hr : ∀ vs B H, Ex B H → MnAll X.K B vs Ps → ∀ Q : VK, (∀ p us, H p = none → DpAll X.K B us ds → Q (.ref p) (upd H p (.lst us))) → r vs H Q) (hn : x ≠ "__name__" := by decide) (hdb : (x == ("__debug__" : Str)) = false := by decide)
    (he : starEach (e :: es) X.env = (false, eval e X.env) :: starEach es X.env := by rfl) (hpl : (backTo pos (starEach es X.env)).any (·.1) = false := by rfl) : GoN X Γ (.Call (.Name x p) (e :: es) [] pos) ds := .mk fun σ B H Fs E Q q =>
  toE (pe_callTy hc hg hm hv sA hn hdb he hpl) (ha σ B H Fs E _ fun vs B1 H1 n1 r1 => hr vs B1 H1 n1.bh r1 Q fun p us hp hd =>
    q p us B1 _ (n1.trans (.lay n1.bh hp)) (n1.hh.none hp) (n1.bh.none hp) upd_same hd)
theorem goN_callB {x : Str} {id : String} {r : List V → Hp → VK → Prop} {Ps : List Mn} {p : Pos} (hc : CallR X (.builtin id) r) (hg : Gl X x) (hm : X.mg x = none) (hv : bootBuiltins x = some (.builtin id)) (ha : GoA X Γ (e :: es) Ps)
    (hr : ∀ vs B H, Ex B H → MnAll X.K B vs Ps → ∀ Q : VK, (∀ p us, H p = none → DpAll X.K B us ds → Q (.ref p) (upd H p (.lst us))) → r vs H Q) (hn : x ≠ "__name__" := by decide) (hdb : (x == ("__debug__" : Str)) = false := by decide)
    (he : starEach (e :: es) X.env = (false, eval e X.env) :: starEach es X.env := by rfl) (hpl : (backTo pos (starEach es X.env)).any (·.1) = false := by rfl) : GoN X Γ (.Call (.Name x p) (e :: es) [] pos) ds := .mk fun σ B H Fs E Q q =>
  toE (pe_callB hc hg hm hv sA hn hdb he hpl) (ha σ B H Fs E _ fun vs B1 H1 n1 r1 => hr vs B1 H1 n1.bh r1 Q fun p us hp hd =>
    q p us B1 _ (n1.trans (.lay n1.bh hp)) (n1.hh.none hp) (n1.bh.none hp) upd_same hd)
theorem mn1 {K : PySem.W.Frag} {B : Hp} {vs : List V} {P : Mn} (h : MnAll K B vs [P]) : ∃ v, vs = [v] ∧ P.p K B v := by
  cases h with
  | cons h t =>
    cases t
    exact ⟨_, rfl, h⟩
theorem mn2 {K : PySem.W.Frag} {B : Hp} {vs : List V} {P P' : Mn} (h : MnAll K B vs [P, P']) : ∃ v w, vs = [v, w] ∧ P.p K B v ∧ P'.p K B w := by
  cases h with
  | cons h t =>
    obtain ⟨w, rfl, h2⟩ := mn1 t
    exact ⟨_, w, rfl, h, h2⟩
theorem mn3 {K : PySem.W.Frag} {B : Hp} {vs : List V} {P P' P'' : Mn} (h : MnAll K B vs [P, P', P'']) : ∃ v w u, vs = [v, w, u] ∧ P.p K B v ∧ P'.p K B w ∧ P''.p K B u := by
  cases h with
  | cons h t =>
    obtain ⟨w, u, rfl, h2, h3⟩ := mn2 t
    exact ⟨_, w, u, rfl, h, h2, h3⟩
variable {p : Pos}
theorem go_len (ha : Go X Γ e (.list ds)) (hm : X.mg "len" = none) (hg : Gl X "len" := by rfl) (he : starEach [e] X.env = (false, eval e X.env) :: starEach [] X.env := by rfl) : Go X Γ (.Call (.Name "len" p) [e] [] pos) (.int ds.length) :=
  go_callB call_len_seq hg hm PySem.boot_len (goA_cons ha goA_nil he) (fun vs B H hB r Q q => by
    obtain ⟨v, rfl, h⟩ := mn1 r
    obtain ⟨p, us, rfl, h2, h3⟩ := dp_lst h
    refine ⟨p, us, rfl, .inl (hB.sl h2), ?_⟩
    rw [dps_len h3]
    exact q _ B H (.same hB) (Dp.int _)) (by decide) (by decide) he rfl
theorem go_lenT (ha : Go X Γ e (.tuple ds)) (hm : X.mg "len" = none) (hg : Gl X "len" := by rfl) (he : starEach [e] X.env = (false, eval e X.env) :: starEach [] X.env := by rfl) : Go X Γ (.Call (.Name "len" p) [e] [] pos) (.int ds.length) :=
  go_callB call_len_seq hg hm PySem.boot_len (goA_cons ha goA_nil he) (fun vs B H hB r Q q => by
    obtain ⟨v, rfl, h⟩ := mn1 r
    obtain ⟨p, us, rfl, h2, h3⟩ := dp_tup h
    refine ⟨p, us, rfl, .inr (hB.st h2), ?_⟩
    rw [dps_len h3]
    exact q _ B H (.same hB) (Dp.int _)) (by decide) (by decide) he rfl
theorem go_lenS {z : Str} (ha : Go X Γ e (.str z)) (hl : z.length ≤ sizeLine) (hm : X.mg "len" = none) (hg : Gl X "len" := by rfl) (he : starEach [e] X.env = (false, eval e X.env) :: starEach [] X.env := by rfl) : Go X Γ (.Call (.Name "len" p) [e] [] pos) (.int z.length) :=
  go_callB call_len_str hg hm PySem.boot_len (goA_cons ha goA_nil he) (fun vs B H hB r Q q => by
    obtain ⟨v, rfl, h⟩ := mn1 r
    have e1 := dp_str h
    subst e1
    exact ⟨z, rfl, hl, q _ B H (.same hB) (Dp.int _)⟩) (by decide) (by decide) he rfl
theorem boot_abs : bootBuiltins "abs" = some (.builtin "abs") := by decide +kernel
theorem go_abs {i : Int} (ha : Go X Γ e (.int i)) (hm : X.mg "abs" = none) (hg : Gl X "abs" := by rfl) (he : starEach [e] X.env = (false, eval e X.env) :: starEach [] X.env := by rfl) : Go X Γ (.Call (.Name "abs" p) [e] [] pos) (.int (if i < 0 then -i else i)) :=
  go_callB call_abs hg hm boot_abs (goA_cons ha goA_nil he) (fun vs B H hB r Q q => by
    obtain ⟨v, rfl, h⟩ := mn1 r
    have e1 := dp_int h
    subst e1
    exact ⟨i, rfl, q _ B H (.same hB) (Dp.int _)⟩) (by decide) (by decide) he rfl
theorem go_intI {i : Int} (ha : Go X Γ e (.int i)) (hm : X.mg "int" = none) (hg : Gl X "int" := by rfl) (he : starEach [e] X.env = (false, eval e X.env) :: starEach [] X.env := by rfl) : Go X Γ (.Call (.Name "int" p) [e] [] pos) (.int i) :=
  go_callTy call_int1 hg hm PyProof.Rows.boot_int (goA_cons ha goA_nil he) (fun vs B H hB r Q q => by
    obtain ⟨v, rfl, h⟩ := mn1 r
    have e1 := dp_int h
    subst e1
    exact .inl ⟨i, rfl, q _ B H (.same hB) (Dp.int _)⟩) (by decide) (by decide) he rfl
theorem go_intB (ha : Go X Γ e (.bool k)) (hm : X.mg "int" = none) (hg : Gl X "int" := by rfl) (he : starEach [e] X.env = (false, eval e X.env) :: starEach [] X.env := by rfl) : Go X Γ (.Call (.Name "int" p) [e] [] pos) (.int (if k then 1 else 0)) :=
  go_callTy call_int1 hg hm PyProof.Rows.boot_int (goA_cons ha goA_nil he) (fun vs B H hB r Q q => by
    obtain ⟨v, rfl, h⟩ := mn1 r
    have e1 := dp_bl h
    subst e1
    exact .inr ⟨k, rfl, q _ B H (.same hB) (Dp.int _)⟩) (by decide) (by decide) he rfl
theorem go_max2 {i j : Int} (hc : X.calm = true) (ha : Go X Γ a (.int i)) (hb : Go X Γ b (.int j)) (hm : X.mg "max" = none) (hg : Gl X "max" := by rfl) (he : starEach [a, b] X.env = (false, eval a X.env) :: starEach [b] X.env := by rfl) (he2 : starEach [b] X.env = (false, eval b X.env) :: starEach [] X.env := by rfl) :
    Go X Γ (.Call (.Name "max" p) [a, b] [] pos) (.int (if j > i then j else i)) :=
  go_callB (call_max2 hc) hg hm PyProof.Rows.boot_max (goA_cons ha (goA_cons hb goA_nil he2) he) (fun vs B H hB r Q q => by
    obtain ⟨v, w, rfl, h, h2⟩ := mn2 r
    have e1 := dp_int h
    have e2 := dp_int h2
    subst e1 e2
    exact ⟨i, j, rfl, q _ B H (.same hB) (Dp.int _)⟩) (by decide) (by decide) he (by rw [he2]; rfl)
theorem go_sum {ns : List Int} (hc : X.calm = true) (ha : Go X Γ e (.list (ns.map .int))) (hm : X.mg "sum" = none) (hg : Gl X "sum" := by rfl) (he : starEach [e] X.env = (false, eval e X.env) :: starEach [] X.env := by rfl) : Go X Γ (.Call (.Name "sum" p) [e] [] pos) (.int ns.sum) :=
  go_callB (cr_sum hc) hg hm PyProof.Rows.boot_sum (goA_cons ha goA_nil he) (fun vs B H hB r Q q => by
    obtain ⟨v, rfl, h⟩ := mn1 r
    obtain ⟨p, us, rfl, h2, h3⟩ := dp_lst h
    rw [dps_ints_inv h3] at h2
    exact ⟨p, ns, rfl, hB.sl h2, q _ B H (.same hB) (Dp.int _)⟩) (by decide) (by decide) he rfl
theorem dps_bools_inv {K : PySem.W.Frag} {H : Hp} : ∀ {ns : List Bool} {vs : List V}, DpAll K H vs (ns.map PyData.bool) → vs = ns.map V.bl
  | [], _, .nil => rfl
  | n :: r, _, .cons (.bl _) t => by
    rw [dps_bools_inv t, List.map_cons]
theorem boot_all : bootBuiltins "all" = some (.builtin "all") := by decide +kernel
theorem boot_any : bootBuiltins "any" = some (.builtin "any") := by decide +kernel
theorem go_all {ns : List Bool} (hc : X.calm = true) (ha : Go X Γ e (.list (ns.map .bool))) (hm : X.mg "all" = none) (hg : Gl X "all" := by rfl) (he : starEach [e] X.env = (false, eval e X.env) :: starEach [] X.env := by rfl) : Go X Γ (.Call (.Name "all" p) [e] [] pos) (.bool (ns.all id)) :=
  go_callB (cr_all hc) hg hm boot_all (goA_cons ha goA_nil he) (fun vs B H hB r Q q => by
    obtain ⟨v, rfl, h⟩ := mn1 r
    obtain ⟨p, us, rfl, h2, h3⟩ := dp_lst h
    rw [dps_bools_inv h3] at h2
    exact ⟨p, ns, rfl, hB.sl h2, q _ B H (.same hB) (Dp.bl _)⟩) (by decide) (by decide) he rfl
theorem go_any {ns : List Bool} (hc : X.calm = true) (ha : Go X Γ e (.list (ns.map .bool))) (hm : X.mg "any" = none) (hg : Gl X "any" := by rfl) (he : starEach [e] X.env = (false, eval e X.env) :: starEach [] X.env := by rfl) : Go X Γ (.Call (.Name "any" p) [e] [] pos) (.bool (ns.any id)) :=
  go_callB (cr_any hc) hg hm boot_any (goA_cons ha goA_nil he) (fun vs B H hB r Q q => by
    obtain ⟨v, rfl, h⟩ := mn1 r
    obtain ⟨p, us, rfl, h2, h3⟩ := dp_lst h
    rw [dps_bools_inv h3] at h2
    exact ⟨p, ns, rfl, hB.sl h2, q _ B H (.same hB) (Dp.bl _)⟩) (by decide) (by decide) he rfl
theorem goN_list (ha : Go X Γ e (.list ds)) (hm : X.mg "list" = none) (hg : Gl X "list" := by rfl) (he : starEach [e] X.env = (false, eval e X.env) :: starEach [] X.env := by rfl) : GoN X Γ (.Call (.Name "list" p) [e] [] pos) ds :=
  goN_callTy call_list_of hg hm PyProof.Rows.boot_list (goA_cons ha goA_nil he) (fun vs B H hB r Q q => by
    obtain ⟨v, rfl, h⟩ := mn1 r
    obtain ⟨p, us, rfl, h2, h3⟩ := dp_lst h
    exact ⟨p, us, rfl, .inl (hB.sl h2), fun l hl => q l us hl h3⟩) (by decide) (by decide) he rfl
theorem goN_listT (ha : Go X Γ e (.tuple ds)) (hm : X.mg "list" = none) (hg : Gl X "list" := by rfl) (he : starEach [e] X.env = (false, eval e X.env) :: starEach [] X.env := by rfl) : GoN X Γ (.Call (.Name "list" p) [e] [] pos) ds :=
  goN_callTy call_list_of hg hm PyProof.Rows.boot_list (goA_cons ha goA_nil he) (fun vs B H hB r Q q => by
    obtain ⟨v, rfl, h⟩ := mn1 r
    obtain ⟨p, us, rfl, h2, h3⟩ := dp_tup h
    exact ⟨p, us, rfl, .inr (hB.st h2), fun l hl => q l us hl h3⟩) (by decide) (by decide) he rfl
theorem go_tupleL (ha : Go X Γ e (.list ds)) (hm : X.mg "tuple" = none) (hg : Gl X "tuple" := by rfl) (he : starEach [e] X.env = (false, eval e X.env) :: starEach [] X.env := by rfl) : Go X Γ (.Call (.Name "tuple" p) [e] [] pos) (.tuple ds) :=
  go_callTy call_tuple_of hg hm PyProof.Rows.boot_tuple (goA_cons ha goA_nil he) (fun vs B H hB r Q q => by
    obtain ⟨v, rfl, h⟩ := mn1 r
    obtain ⟨p, us, rfl, h2, h3⟩ := dp_lst h
    refine ⟨p, us, rfl, .inl ⟨hB.sl h2, fun l hl => ?_⟩⟩
    have n := Nw.new (o := .tup us) hB hl
    exact q _ _ _ n (Dp.tup (.of upd_same) (dpsUp n.bb h3))) (by decide) (by decide) he rfl
end
end PL

set_option maxHeartbeats 2000000
namespace PL
open PySem PySem.Spec PyProof.Rows L2

/-! ### slots changed -/
section
variable {K : PySem.W.Frag} {B H B2 H2 : Hp} {σ : L2.St} {Γ : Ga} {Fs : Nat → List Addr}
/-- the places of the slot i are let go -/
def off (Fs : Nat → List Addr) (i : Nat) (F : List Addr) : Nat → List Addr := fun j => if j = i then F else Fs j
theorem off_same {i : Nat} {F : List Addr} : off Fs i F i = F := if_pos rfl
theorem off_ne {i j : Nat} {F : List Addr} (h : j ≠ i) : off Fs i F j = Fs j := if_neg h
theorem off_sub {i j : Nat} {a : Addr} (h : a ∈ off Fs i [] j) : a ∈ Fs j := by
  by_cases e : j = i
  · subst e
    rw [off_same] at h
    cases h
  · rw [off_ne e] at h
    exact h
theorem En.setP {P : Mn} {v : V} (E : En K B H σ Γ Fs) (i : Nat) (h : P.p K B v) : En K B H (σ.set i (some v)) (Γ.set i (.pr P)) (off Fs i []) where
  bh := E.bh
  len := by rw [List.length_set, List.length_set, E.len]
  at_ := fun j s hs => by
    by_cases e : j = i
    · subst e
      have hl : j < Γ.length := by
        by_cases hl : j < Γ.length
        · exact hl
        · rw [List.getElem?_eq_none (by rw [List.length_set]; omega)] at hs
          cases hs
      rw [List.getElem?_set_self hl] at hs
      cases hs
      exact ⟨v, List.getElem?_set_self (by rw [E.len]; exact hl), h⟩
    · rw [List.getElem?_set_ne (Ne.symm e)] at hs
      rw [List.getElem?_set_ne (Ne.symm e), off_ne e]
      exact E.at_ j s hs
  fre := fun j a ha => E.fre j a (off_sub ha)
  dis := fun j k a h1 h2 => E.dis j k a (off_sub h1) (off_sub h2)
theorem En.setO {P : Ow} {v : V} {F : List Addr} (E : En K B H σ Γ Fs) (i : Nat) (h : P.p K B H v F) (hb : ∀ a ∈ F, B a = none) (hd : ∀ j a, a ∈ Fs j → a ∉ F) : En K B H (σ.set i (some v)) (Γ.set i (.ob P)) (off Fs i F) where
  bh := E.bh
  len := by rw [List.length_set, List.length_set, E.len]
  at_ := fun j s hs => by
    by_cases e : j = i
    · subst e
      have hl : j < Γ.length := by
        by_cases hl : j < Γ.length
        · exact hl
        · rw [List.getElem?_eq_none (by rw [List.length_set]; omega)] at hs
          cases hs
      rw [List.getElem?_set_self hl] at hs
      cases hs
      rw [off_same]
      exact ⟨v, List.getElem?_set_self (by rw [E.len]; exact hl), h⟩
    · rw [List.getElem?_set_ne (Ne.symm e)] at hs
      rw [List.getElem?_set_ne (Ne.symm e), off_ne e]
      exact E.at_ j s hs
  fre := fun j a ha => by
    by_cases e : j = i
    · subst e
      rw [off_same] at ha
      exact ⟨hb a ha, P.dom h a ha⟩
    · rw [off_ne e] at ha
      exact E.fre j a ha
  dis := fun j k a h1 h2 => by
    by_cases e : j = i
    · by_cases e2 : k = i
      · rw [e, e2]
      · rw [e, off_same] at h1
        rw [off_ne e2] at h2
        exact absurd h1 (hd k a h2)
    · rw [off_ne e] at h1
      by_cases e2 : k = i
      · rw [e2, off_same] at h2
        exact absurd h2 (hd j a h1)
      · rw [off_ne e2] at h2
        exact E.dis j k a h1 h2
/-- an object that no slot has is laid or changed -/
theorem En.upd {p : Addr} {o : HO} (E : En K B H σ Γ Fs) (hb : B p = none) (hf : ∀ j, p ∉ Fs j) : En K B (upd H p o) σ Γ Fs where
  bh := fun a u e => by
    rw [upd_ne (ne_of_none e hb)]
    exact E.bh a u e
  len := E.len
  at_ := fun j s hs => by
    have := E.at_ j s hs
    cases s with
    | any => trivial
    | pr P => exact this
    | ob P =>
      obtain ⟨v, h1, h2⟩ := this
      exact ⟨v, h1, P.loc (fun a ha => upd_ne fun z => hf j (z ▸ ha)) h2⟩
  fre := fun j a ha => ⟨(E.fre j a ha).1, fun z => by
    have ne : a ≠ p := fun z => hf j (z ▸ ha)
    rw [upd_ne ne] at z
    exact (E.fre j a ha).2 z⟩
  dis := E.dis
/-- the list in the slot i is changed -/
theorem En.mutL {i : Nat} {a : Addr} {vs us : List V} {ds es : List D} (E : En K B H σ Γ Fs) (hΓ : Γ[i]? = some (.own ds)) (hσ : σ[i]? = some (some (.ref a))) (hH : H a = some (.lst vs)) (hF : Fs i = [a]) (hd : DpAll K B us es) :
    En K B (L2.upd H a (.lst us)) σ (Γ.set i (.own es)) Fs := by
  have hb : B a = none := (E.fre i a (by rw [hF]; exact List.mem_cons_self)).1
  have nf : ∀ j, j ≠ i → a ∉ Fs j := fun j hj ha => hj (E.dis j i a ha (by rw [hF]; exact List.mem_cons_self))
  refine ⟨fun b u e => ?_, ?_, fun j s hs => ?_, fun j b hb' => ⟨(E.fre j b hb').1, fun z => ?_⟩, E.dis⟩
  · rw [upd_ne (ne_of_none e hb)]
    exact E.bh b u e
  · rw [List.length_set, E.len]
  · by_cases e : j = i
    · subst e
      have hl : j < Γ.length := by
        by_cases hl : j < Γ.length
        · exact hl
        · rw [List.getElem?_eq_none (by omega)] at hΓ
          cases hΓ
      rw [List.getElem?_set_self hl] at hs
      cases hs
      exact ⟨.ref a, hσ, a, us, rfl, hF, upd_same, hd⟩
    · rw [List.getElem?_set_ne (Ne.symm e)] at hs
      have := E.at_ j s hs
      cases s with
      | any => trivial
      | pr P => exact this
      | ob P =>
        obtain ⟨v, h1, h2⟩ := this
        exact ⟨v, h1, P.loc (fun b hb' => upd_ne fun z => nf j e (z ▸ hb')) h2⟩
  · by_cases e : b = a
    · rw [e, upd_same] at z
      cases z
    · rw [upd_ne e] at z
      exact (E.fre j b hb').2 z
/-- .. is frozen -/
theorem En.ice {i : Nat} {a : Addr} {vs : List V} {ds : List D} (E : En K B H σ Γ Fs) (hΓ : Γ[i]? = some (.own ds)) (hσ : σ[i]? = some (some (.ref a))) (hH : H a = some (.lst vs)) (hF : Fs i = [a]) (hd : DpAll K B vs ds) :
    En K (L2.upd B a (.lst vs)) H σ (Γ.set i (.dat (.list ds))) (off Fs i []) ∧ Ex B (L2.upd B a (.lst vs)) := by
  have hb : B a = none := (E.fre i a (by rw [hF]; exact List.mem_cons_self)).1
  obtain ⟨e1, e2⟩ := Nw.ice E.bh hb hH
  have nf : ∀ j, j ≠ i → a ∉ Fs j := fun j hj ha => hj (E.dis j i a ha (by rw [hF]; exact List.mem_cons_self))
  refine ⟨⟨e2, by rw [List.length_set, E.len], fun j s hs => ?_, fun j b hb' => ?_, fun j k b h1 h2 => E.dis j k b (off_sub h1) (off_sub h2)⟩, e1⟩
  · by_cases e : j = i
    · subst e
      have hl : j < Γ.length := by
        by_cases hl : j < Γ.length
        · exact hl
        · rw [List.getElem?_eq_none (by omega)] at hΓ
          cases hΓ
      rw [List.getElem?_set_self hl] at hs
      cases hs
      exact ⟨.ref a, hσ, show Dp _ _ _ _ from .lst (.of upd_same) (dpsUp e1 hd)⟩
    · rw [List.getElem?_set_ne (Ne.symm e)] at hs
      rw [off_ne e]
      have := E.at_ j s hs
      cases s with
      | any => trivial
      | pr P =>
        obtain ⟨v, h1, h2⟩ := this
        exact ⟨v, h1, P.up e1 h2⟩
      | ob P =>
        obtain ⟨v, h1, h2⟩ := this
        exact ⟨v, h1, P.upB e1 h2⟩
  · have hj : j ≠ i := fun e => by
      rw [e, off_same] at hb'
      cases hb'
    rw [off_ne hj] at hb'
    refine ⟨?_, (E.fre j b hb').2⟩
    have ne : b ≠ a := fun z => nf j hj (z ▸ hb')
    rw [upd_ne ne]
    exact (E.fre j b hb').1
theorem En.own {i : Nat} {ds : List D} (E : En K B H σ Γ Fs) (hΓ : Γ[i]? = some (.own ds)) : ∃ a vs, σ[i]? = some (some (.ref a)) ∧ H a = some (.lst vs) ∧ Fs i = [a] ∧ DpAll K B vs ds ∧ B a = none := by
  obtain ⟨v, h1, a, vs, rfl, h3, h4, h5⟩ := E.at_ i _ hΓ
  exact ⟨a, vs, h1, h4, h3, h5, (E.fre i a (by rw [h3]; exact List.mem_cons_self)).1⟩
def wipeG (Γ : Ga) : List Nat → Ga
  | [] => Γ
  | v :: vs => (wipeG Γ vs).set v .any
theorem En.setN (E : En K B H σ Γ Fs) (i : Nat) (o : Option V) : En K B H (σ.set i o) (Γ.set i .any) Fs where
  bh := E.bh
  len := by rw [List.length_set, List.length_set, E.len]
  at_ := fun j s hs => by
    by_cases e : j = i
    · subst e
      by_cases hl : j < Γ.length
      · rw [List.getElem?_set_self hl] at hs
        cases hs
        trivial
      · rw [List.getElem?_eq_none (by rw [List.length_set]; omega)] at hs
        cases hs
    · rw [List.getElem?_set_ne (Ne.symm e)] at hs
      rw [List.getElem?_set_ne (Ne.symm e)]
      exact E.at_ j s hs
  fre := E.fre
  dis := E.dis
theorem En.wipe (E : En K B H σ Γ Fs) : ∀ vs : List Nat, En K B H (wipe σ vs) (wipeG Γ vs) Fs
  | [] => E
  | v :: vs => (En.wipe E vs).setN v none
/-- less is known -/
inductive Wk : Ga → Ga → Prop
  | nil : Wk [] []
  | same {s : Sl} {a b : Ga} : Wk a b → Wk (s :: a) (s :: b)
  | any {s : Sl} {a b : Ga} : Wk a b → Wk (s :: a) (.any :: b)
theorem Wk.refl : ∀ a : Ga, Wk a a
  | [] => .nil
  | _ :: r => .same (Wk.refl r)
theorem Wk.len : ∀ {a b : Ga}, Wk a b → a.length = b.length
  | _, _, .nil => rfl
  | _, _, .same h => by rw [List.length_cons, List.length_cons, h.len]
  | _, _, .any h => by rw [List.length_cons, List.length_cons, h.len]
theorem Wk.get : ∀ {a b : Ga} {i : Nat} {s : Sl}, Wk a b → b[i]? = some s → s = .any ∨ a[i]? = some s
  | _, _, _, _, .nil, h => by simp at h
  | _, _, 0, _, .same _, h => .inr (by simpa using h)
  | _, _, 0, _, .any _, h => by
    simp only [List.getElem?_cons_zero, Option.some.injEq] at h
    exact .inl h.symm
  | _, _, i + 1, s, .same t, h => by
    have := Wk.get (i := i) (s := s) t (by simpa using h)
    simpa using this
  | _, _, i + 1, s, .any t, h => by
    have := Wk.get (i := i) (s := s) t (by simpa using h)
    simpa using this
theorem En.wk {Γ' : Ga} (E : En K B H σ Γ Fs) (w : Wk Γ Γ') : En K B H σ Γ' Fs where
  bh := E.bh
  len := by rw [E.len, w.len]
  at_ := fun j s hs => by
    rcases w.get hs with e | e
    · subst e
      trivial
    · exact E.at_ j s e
  fre := E.fre
  dis := E.dis
end

/-! ### the def's own story: what stood at its entry -/
structure Jd where
  H : Hp
  M : List Addr
  S : List Nat
structure Jn (J : Jd) (B0 B H : Hp) (Fs : Nat → List Addr) : Prop where
  b0 : Ex B0 B
  nb : ∀ a, B a ≠ none → B0 a = none → J.H a = none
  h0 : ∀ a o, J.H a = some o → a ∉ J.M → H a = some o
  h1 : ∀ a, J.H a ≠ none → H a ≠ none
  fm : ∀ i a, a ∈ Fs i → J.H a = none ∨ (a ∈ J.M ∧ i ∈ J.S)
section
variable {J : Jd} {B0 B H B2 H2 : Hp} {Fs Fs2 : Nat → List Addr}
theorem Jn.nw (j : Jn J B0 B H Fs) (n : Nw B H B2 H2) : Jn J B0 B2 H2 Fs where
  b0 := j.b0.trans n.bb
  nb := fun a h1 h2 => by
    cases q : B a with
    | some o => exact j.nb a (by rw [q]; exact fun z => nomatch z) h2
    | none =>
      cases r : J.H a with
      | none => rfl
      | some o => exact absurd (n.nu a q (j.h1 a (by rw [r]; exact fun z => nomatch z))) h1
  h0 := fun a o h1 h2 => n.hh a o (j.h0 a o h1 h2)
  h1 := fun a h => fun z => j.h1 a h (n.hh.none z)
  fm := j.fm
theorem Jn.trans {B' H' : Hp} {Fs' : Nat → List Addr} (j : Jn J B0 B H Fs) (j2 : Jn J B B' H' Fs') : Jn J B0 B' H' Fs' := ⟨j.b0.trans j2.b0, fun a h1 h2 => by
  cases q : B a with
  | none => exact j2.nb a h1 q
  | some o => exact j.nb a (by rw [q]; exact fun z => nomatch z) h2, j2.h0, j2.h1, j2.fm⟩
theorem Jn.fresh (j : Jn J B0 B H Fs) : Jn J B B H Fs := ⟨.refl _, fun a h1 h2 => absurd h2 h1, j.h0, j.h1, j.fm⟩
theorem Jn.sub (j : Jn J B0 B H Fs) (h : ∀ i a, a ∈ Fs2 i → a ∈ Fs i) : Jn J B0 B H Fs2 := ⟨j.b0, j.nb, j.h0, j.h1, fun i a ha => j.fm i a (h i a ha)⟩
/-- a new place -/
theorem Jn.lay {i : Nat} {F : List Addr} (j : Jn J B0 B H Fs) (h : ∀ a ∈ F, J.H a = none) : Jn J B0 B H (off Fs i F) := ⟨j.b0, j.nb, j.h0, j.h1, fun k a ha => by
  by_cases e : k = i
  · subst e
    rw [off_same] at ha
    exact .inl (h a ha)
  · rw [off_ne e] at ha
    exact j.fm k a ha⟩
theorem Jn.upd {p : Addr} {o : HO} (j : Jn J B0 B H Fs) (h : J.H p = none ∨ p ∈ J.M) : Jn J B0 B (L2.upd H p o) Fs := ⟨j.b0, j.nb, fun a u h1 h2 => by
  have : a ≠ p := fun z => by
    rcases h with h | h
    · rw [z, h] at h1
      cases h1
    · exact h2 (z ▸ h)
  rw [upd_ne this]
  exact j.h0 a u h1 h2, fun a h1 z => by
  by_cases e : a = p
  · rw [e, upd_same] at z
    cases z
  · rw [upd_ne e] at z
    exact j.h1 a h1 z, j.fm⟩
theorem Jn.ice {i : Nat} {a : Addr} {o : HO} (j : Jn J B0 B H Fs) (hb : B a = none) (h : J.H a = none) : Jn J B0 (L2.upd B a o) H Fs where
  b0 := j.b0.trans (Ex.new hb)
  nb := fun b h1 h2 => by
    by_cases q : b = a
    · rw [q]
      exact h
    · rw [upd_ne q] at h1
      exact j.nb b h1 h2
  h0 := j.h0
  h1 := j.h1
  fm := j.fm
end
/-- what a block is to reach -/
structure Nd where
  nx : Ga → Prop
  rt : Mn
  bk : Ga → Prop := fun _ => False
  ct : Ga → Prop := fun _ => False
  rG : Ga → Prop := fun _ => True
  rn : Option Ow := none
/-- what is handed back: a thing that is not changed any more, or a new one of the caller's own -/
def Rt (K : PySem.W.Frag) (J : Jd) (B H : Hp) (v : V) (P : Mn) (Fs : Nat → List Addr) : Option Ow → Prop
  | none => P.p K B v
  | some W => ∃ F, W.p K B H v F ∧ (∀ a ∈ F, J.H a = none ∧ B a = none) ∧ ∀ i ∈ J.S, ∀ a ∈ F, a ∉ Fs i
def At (X : Cx) (J : Jd) (B0 : Hp) (N : Ga → Prop) : L2.St → Hp → Prop := fun σ' H' => ∃ B' Γ' Fs', En X.K B' H' σ' Γ' Fs' ∧ Jn J B0 B' H' Fs' ∧ N Γ'
def Nd.ends (X : Cx) (J : Jd) (B0 : Hp) (N : Nd) : Ends where
  nx := At X J B0 N.nx
  bk := At X J B0 N.bk
  ct := At X J B0 N.ct
  rt := fun v H' => ∃ σ' B' Γ' Fs', En X.K B' H' σ' Γ' Fs' ∧ Jn J B0 B' H' Fs' ∧ N.rG Γ' ∧ Rt X.K J B' H' v N.rt Fs' N.rn
/-- a block (a statement) runs from the slots Γ to what is wanted -/
structure Rn (X : Cx) (J : Jd) (N : Nd) (Γ : Ga) (sts : List Stmt) : Prop where
  run : ∀ B0 σ B H Fs, En X.K B H σ Γ Fs → Jn J B0 B H Fs → wpSs X sts (N.ends X J B0) σ H
instance {X : Cx} {J : Jd} {N : Nd} {Γ : Ga} {sts : List Stmt} : CoeFun (Rn X J N Γ sts) fun _ => ∀ B0 σ B H Fs, En X.K B H σ Γ Fs → Jn J B0 B H Fs → wpSs X sts (N.ends X J B0) σ H := ⟨Rn.run⟩
structure RnS (X : Cx) (J : Jd) (N : Nd) (Γ : Ga) (st : Stmt) : Prop where
  run : ∀ B0 σ B H Fs, En X.K B H σ Γ Fs → Jn J B0 B H Fs → wpS X st (N.ends X J B0) σ H
instance {X : Cx} {J : Jd} {N : Nd} {Γ : Ga} {st : Stmt} : CoeFun (RnS X J N Γ st) fun _ => ∀ B0 σ B H Fs, En X.K B H σ Γ Fs → Jn J B0 B H Fs → wpS X st (N.ends X J B0) σ H := ⟨RnS.run⟩
abbrev Nd.thn (N : Nd) (X : Cx) (J : Jd) (rest : List Stmt) : Nd := { N with nx := fun Γ' => Rn X J N Γ' rest }
section
variable {X : Cx} {J : Jd} {N : Nd} {Γ : Ga} {e a b c : Expr} {st : Stmt} {sts rest body : List Stmt} {P : Mn} {d : D} {ds : List D} {pos : Pos} {k : Bool}
theorem wpS_mono {D1 D2 : Ends} {σ : L2.St} {H : Hp} (h : wpS X st D1 σ H) (h1 : ∀ σ H, D1.nx σ H → D2.nx σ H) (h2 : ∀ v H, D1.rt v H → D2.rt v H) (h3 : ∀ σ H, D1.bk σ H → D2.bk σ H) (h4 : ∀ σ H, D1.ct σ H → D2.ct σ H) : wpS X st D2 σ H := fun pins s I =>
  thn (h pins s I) fun f s1 q => by
    cases f with
    | next =>
      obtain ⟨σ', H', I', q⟩ := q
      exact ⟨σ', H', I', h1 _ _ q⟩
    | ret v =>
      obtain ⟨v, σ', H', I', r, q⟩ := q
      exact ⟨v, σ', H', I', r, h2 _ _ q⟩
    | brk =>
      obtain ⟨σ', H', I', q⟩ := q
      exact ⟨σ', H', I', h3 _ _ q⟩
    | cont =>
      obtain ⟨σ', H', I', q⟩ := q
      exact ⟨σ', H', I', h4 _ _ q⟩
theorem wpSs_mono {D1 D2 : Ends} {σ : L2.St} {H : Hp} (h : wpSs X sts D1 σ H) (h1 : ∀ σ H, D1.nx σ H → D2.nx σ H) (h2 : ∀ v H, D1.rt v H → D2.rt v H) (h3 : ∀ σ H, D1.bk σ H → D2.bk σ H) (h4 : ∀ σ H, D1.ct σ H → D2.ct σ H) : wpSs X sts D2 σ H := fun pins s I =>
  thn (h pins s I) fun f s1 q => by
    cases f with
    | next =>
      obtain ⟨σ', H', I', q⟩ := q
      exact ⟨σ', H', I', h1 _ _ q⟩
    | ret v =>
      obtain ⟨v, σ', H', I', r, q⟩ := q
      exact ⟨v, σ', H', I', r, h2 _ _ q⟩
    | brk =>
      obtain ⟨σ', H', I', q⟩ := q
      exact ⟨σ', H', I', h3 _ _ q⟩
    | cont =>
      obtain ⟨σ', H', I', q⟩ := q
      exact ⟨σ', H', I', h4 _ _ q⟩
theorem rn_cons (h : RnS X J (N.thn X J rest) Γ st) : Rn X J N Γ (st :: rest) := .mk fun B0 σ B H Fs E j =>
  toSs (pss_cons sS sSs) (wpS_mono (h B0 σ B H Fs E j) (fun σ' H' ⟨B', Γ', Fs', e1, e2, e3⟩ => e3 B0 σ' B' H' Fs' e1 e2) (fun _ _ z => z) (fun _ _ z => z) fun _ _ z => z)
theorem rn_nil (h : N.nx Γ) : Rn X J N Γ [] := .mk fun B0 σ B H Fs E j => toSs pss_nil ⟨B, Γ, Fs, E, j, h⟩
theorem rn_nilw {Γ' : Ga} (w : Wk Γ Γ') (h : N.nx Γ') : Rn X J N Γ [] := .mk fun B0 σ B H Fs E j => toSs pss_nil ⟨B, Γ', Fs, E.wk w, j, h⟩
theorem rn_wk {Γ' : Ga} (w : Wk Γ Γ') (h : Rn X J N Γ' sts) : Rn X J N Γ sts := .mk fun B0 σ B H Fs E j => h B0 σ B H Fs (E.wk w) j
theorem rs_wk {Γ' : Ga} (w : Wk Γ Γ') (h : RnS X J N Γ' st) : RnS X J N Γ st := .mk fun B0 σ B H Fs E j => h B0 σ B H Fs (E.wk w) j
/-- an own list is not changed any more -/
theorem rn_ice (i : Nat) (hΓ : Γ[i]? = some (.own ds)) (hi : i ∉ J.S) (h : Rn X J N (Γ.set i (.dat (.list ds))) sts) : Rn X J N Γ sts := .mk fun B0 σ B H Fs E j => by
  obtain ⟨a, vs, h1, h2, h3, h4, h5⟩ := E.own hΓ
  obtain ⟨E2, _⟩ := E.ice hΓ h1 h2 h3 h4
  have ja : J.H a = none := by
    rcases j.fm i a (by rw [h3]; exact List.mem_cons_self) with z | z
    · exact z
    · exact absurd z.2 hi
  exact h B0 σ _ H _ E2 ((j.ice (i := i) h5 ja).sub fun _ _ z => off_sub z)
theorem rs_pass : N.nx Γ → RnS X J N Γ (.Pass pos) := fun h => .mk fun B0 σ B H Fs E j => toS ps_pass ⟨B, Γ, Fs, E, j, h⟩
theorem rs_break : N.bk Γ → RnS X J N Γ (.Break pos) := fun h => .mk fun B0 σ B H Fs E j => toS ps_break ⟨B, Γ, Fs, E, j, h⟩
theorem rs_breakw {Γ' : Ga} (w : Wk Γ Γ') : N.bk Γ' → RnS X J N Γ (.Break pos) := fun h => .mk fun B0 σ B H Fs E j => toS ps_break ⟨B, Γ', Fs, E.wk w, j, h⟩
theorem rs_contw {Γ' : Ga} (w : Wk Γ Γ') : N.ct Γ' → RnS X J N Γ (.Continue pos) := fun h => .mk fun B0 σ B H Fs E j => toS ps_continue ⟨B, Γ', Fs, E.wk w, j, h⟩
theorem rs_doc {x : Str} {j pos'} : N.nx Γ → RnS X J N Γ (.Expr (.Constant (.str x) j pos) pos') := fun h => .mk fun B0 σ B H Fs E j => toS ps_doc ⟨B, Γ, Fs, E, j, h⟩
theorem rs_ret (h : GoP X Γ e N.rt) (hG : N.rG Γ := by exact trivial) (hn : N.rn = none := by rfl) : RnS X J N Γ (.Return (some e) pos) := .mk fun B0 σ B H Fs E j =>
  toS (ps_ret sE) (h σ B H Fs E _ fun v B2 H2 n r => ⟨σ, B2, Γ, Fs, E.nw n, j.nw n, hG, by rw [hn]; exact r⟩)
theorem rs_retN (h : ∀ K B, N.rt.p K B .non) (hG : N.rG Γ := by exact trivial) (hn : N.rn = none := by rfl) : RnS X J N Γ (.Return none pos) := .mk fun B0 σ B H Fs E j =>
  toS ps_retN ⟨σ, B, Γ, Fs, E, j, hG, by rw [hn]; exact h _ _⟩
theorem rs_set (i : Nat) {x : Str} {p' : Pos} (he : GoP X Γ e P) (h : N.nx (Γ.set i (.pr P))) (hN : X.N.Nodup) (hi : X.N[i]? = some x := by rfl) (hx : Loc X.env.scope x := by first | exact .inl rfl | exact .inr rfl)
    (hs : swapsWith e (some (.Name x p')) pos.line X.env = pure false := by rfl) (hf : X.fn x = true ∨ X.env.scope.names.lookup x = some .local := by first | exact .inl rfl | exact .inr rfl) : RnS X J N Γ (.Assign [.Name x p'] e pos) := .mk fun B0 σ B H Fs E j =>
  toS (ps_set hN hi hx sE hs hf) (he σ B H Fs E _ fun v B2 H2 n r => ⟨B2, _, _, (E.nw n).setP i r, (j.nw n).sub fun _ _ z => off_sub z, h⟩)
/-- a new list of our own -/
theorem rs_own (i : Nat) {x : Str} {p' : Pos} (he : GoN X Γ e ds) (h : N.nx (Γ.set i (.own ds))) (hN : X.N.Nodup) (hi : X.N[i]? = some x := by rfl) (hx : Loc X.env.scope x := by first | exact .inl rfl | exact .inr rfl)
    (hs : swapsWith e (some (.Name x p')) pos.line X.env = pure false := by rfl) (hf : X.fn x = true ∨ X.env.scope.names.lookup x = some .local := by first | exact .inl rfl | exact .inr rfl) : RnS X J N Γ (.Assign [.Name x p'] e pos) := .mk fun B0 σ B H Fs E j =>
  toS (ps_set hN hi hx sE hs hf) (he σ B H Fs E _ fun p vs B2 H2 n hp hb hH hd => ⟨B2, _, _, (E.nw n).setO (P := lstO ds) (F := [p]) i ⟨p, vs, rfl, rfl, hH, hd⟩ (fun a ha => by rw [List.mem_singleton.mp ha]; exact hb)
    (fun k a ha hm => (E.fre k a ha).2 (by rw [List.mem_singleton.mp hm]; exact hp)), (j.nw n).lay fun a ha => by
      rw [List.mem_singleton.mp ha]
      cases q : J.H p with
      | none => rfl
      | some o => exact absurd hp (j.h1 p (by rw [q]; exact fun z => nomatch z)), h⟩)
theorem rs_expr (he : GoP X Γ e P) (h : N.nx Γ) (hs : swapsWith e none pos.line X.env = pure false := by rfl) : RnS X J N Γ (.Expr e pos) := .mk fun B0 σ B H Fs E j =>
  toS (ps_expr sE hs) (he σ B H Fs E _ fun v B2 H2 n r => ⟨B2, Γ, Fs, E.nw n, j.nw n, h⟩)
theorem rs_if {th el : List Stmt} (hc : GoT X Γ c k) (h1 : k = true → Rn X J N Γ th) (h2 : k = false → Rn X J N Γ el) : RnS X J N Γ (.If c th el pos) := .mk fun B0 σ B H Fs E j =>
  toS (ps_if sT sSs sSs) (hc σ B H Fs E _ fun B2 H2 n => by
    cases k with
    | true => exact iteT (h1 rfl B0 σ B2 H2 Fs (E.nw n) (j.nw n))
    | false => exact iteF (h2 rfl B0 σ B2 H2 Fs (E.nw n) (j.nw n)))
/-- x += e, by an operator on ints -/
theorem rs_aug (i : Nat) {x : Str} {p' : Pos} {op : Operator} {ti : TIp} {d d' d2 : D} (hΓ : Γ[i]? = some (.dat d)) (he : Go X Γ e d') (ho : PIp X op ti)
    (hr : ∀ v w B H, Ex B H → Dp X.K B v d → Dp X.K B w d' → ∀ Q, EQ X B H (datP d2) Q → ti v w H Q) (h : N.nx (Γ.set i (.dat d2))) (hN : X.N.Nodup) (hi : X.N[i]? = some x := by rfl) (hx : Loc X.env.scope x := by first | exact .inl rfl | exact .inr rfl)
    (hf : X.fn x = true ∨ X.env.scope.names.lookup x = some .local := by first | exact .inl rfl | exact .inr rfl) : RnS X J N Γ (.AugAssign (.Name x p') op e pos) := .mk fun B0 σ B H Fs E j => by
  obtain ⟨v, h1, h2⟩ := E.at_ i _ hΓ
  refine toS (ps_aug hN hi hx sE ho hf) ⟨v, h1, he σ B H Fs E _ fun w B2 H2 n r => hr v w B2 H2 n.bh (dpUp n.bb h2) r _ fun z B3 H3 n3 r3 => ?_⟩
  have n' := n.trans n3
  exact ⟨B3, _, _, (E.nw n').setP i r3, (j.nw n').sub fun _ _ z => off_sub z, h⟩
/-- x.append(e) -/
theorem rs_app (i : Nat) {x : Str} {p' ap cp : Pos} (hΓ : Γ[i]? = some (.own ds)) (he : Go X Γ e d) (hl : ds.length < sizeLine) (h : N.nx (Γ.set i (.own (ds ++ [d])))) (hN : X.N[i]? = some x := by rfl) (hv : Vis X.env.scope x := by first | exact Or.inl rfl | exact Or.inr (Or.inl rfl) | exact Or.inr (Or.inr rfl))
    (hd : (x == ("__debug__" : Str)) = false := by decide) (hcd : (x == ("__classdict__" : Str)) = false := by decide)
    (hbase : attributeBase (.Name x p') "append" X.env (eval (.Name x p') X.env) = eval (.Name x p') X.env := by rfl)
    (hfew : ((backTo cp (starEach [e] X.env)).all (fun x => !x.1) && (backToKw cp (keywordEach [] X.env)).all (fun x => x.1.isSome)
      && decide ([e].length + ([] : List Keyword).length + (if ([] : List Keyword).isEmpty then 0 else 1) < 30)) = true := by rfl)
    (hline : (ap.endLine == cp.line) = true := by rfl) (hs : starEach [e] X.env = (false, eval e X.env) :: starEach [] X.env := by rfl) (hplain : (backTo cp (starEach [] X.env)).any (·.1) = false := by rfl)
    (hsw : swapsWith (.Call (.Attribute (.Name x p') "append" ap) [e] [] cp) none pos.line X.env = pure false := by rfl) : RnS X J N Γ (.Expr (.Call (.Attribute (.Name x p') "append" ap) [e] [] cp) pos) := .mk fun B0 σ B H Fs E j => by
  obtain ⟨a, vs, h1, h2, h3, h4, h5⟩ := E.own hΓ
  refine toS (ps_expr (pe_bm PySem.F.plainAttrs_list PySem.F.slot_list_append PySem.F.type_list_append mt_append (pe_var hN hv hd hcd) (pa_cons sE pa_nil hs) hbase hfew hline hs hplain) hsw) ⟨.ref a, h1, .inl ⟨rfl, vs, .of h2⟩, he σ B H Fs E _ fun v B2 H2 n r => ?_⟩
  have E2 := E.nw n
  have e2 : H2 a = some (.lst vs) := n.hh a _ h2
  refine ⟨a, vs, v, rfl, rfl, e2, by rw [dps_len h4]; exact hl, B2, _, _, E2.mutL hΓ h1 e2 h3 (dps_app (dpsUp n.bb h4) (.cons r .nil)), (j.nw n).upd ?_, h⟩
  rcases j.fm i a (by rw [h3]; exact List.mem_cons_self) with z | z
  · exact .inl z
  · exact .inr z.1
end
end PL

set_option maxHeartbeats 2000000
namespace PL
open PySem PySem.Spec PyProof.Rows L2

/-! ### targets -/
def wpG (X : Cx) (tg : Expr) : TG := fun v σ H Q => ∀ pins s u, Inv X pins σ H s → RelV v u → wpAny (model X.prog X.w) X.A (assign tg X.env u) (fun _ s' => ∃ σ' H', Inv X pins σ' H' s' ∧ Q σ' H') X.xe s
def wpGs (X : Cx) (ts : List Expr) : TGs := fun vs σ H Q => ∀ pins s us, Inv X pins σ H s → Vals vs us → wpAny (model X.prog X.w) X.A (assignInOrder ((assignEach ts X.env).map (·.2)) us) (fun _ s' => ∃ σ' H', Inv X pins σ' H' s' ∧ Q σ' H') X.xe s
/-- the target tg takes d: the slots are then Γ'; ts are its places -/
structure GoG (X : Cx) (Γ : Ga) (tg : Expr) (d : D) (Γ' : Ga) (ts : List Nat) : Prop where
  run : ∀ σ B H Fs v, En X.K B H σ Γ Fs → Dp X.K B v d → ∀ Q : L2.St → Hp → Prop,
  (∀ σ' Fs', En X.K B H σ' Γ' Fs' → (∀ i a, a ∈ Fs' i → a ∈ Fs i) → (∀ vs, (∀ t ∈ ts, t ∈ vs) → wipe σ' vs = wipe σ vs) → Q σ' H) → wpG X tg v σ H Q
instance {X : Cx} {Γ : Ga} {tg : Expr} {d : D} {Γ' : Ga} {ts : List Nat} : CoeFun (GoG X Γ tg d Γ' ts) fun _ => ∀ σ B H Fs v, En X.K B H σ Γ Fs → Dp X.K B v d → ∀ Q : L2.St → Hp → Prop,
    (∀ σ' Fs', En X.K B H σ' Γ' Fs' → (∀ i a, a ∈ Fs' i → a ∈ Fs i) → (∀ vs, (∀ t ∈ ts, t ∈ vs) → wipe σ' vs = wipe σ vs) → Q σ' H) → wpG X tg v σ H Q := ⟨GoG.run⟩
structure GoGs (X : Cx) (Γ : Ga) (tg : List Expr) (ds : List D) (Γ' : Ga) (ts : List Nat) : Prop where
  run : ∀ σ B H Fs vs, En X.K B H σ Γ Fs → DpAll X.K B vs ds → ∀ Q : L2.St → Hp → Prop,
  (∀ σ' Fs', En X.K B H σ' Γ' Fs' → (∀ i a, a ∈ Fs' i → a ∈ Fs i) → (∀ vs, (∀ t ∈ ts, t ∈ vs) → wipe σ' vs = wipe σ vs) → Q σ' H) → wpGs X tg vs σ H Q
instance {X : Cx} {Γ : Ga} {tg : List Expr} {ds : List D} {Γ' : Ga} {ts : List Nat} : CoeFun (GoGs X Γ tg ds Γ' ts) fun _ => ∀ σ B H Fs vs, En X.K B H σ Γ Fs → DpAll X.K B vs ds → ∀ Q : L2.St → Hp → Prop,
    (∀ σ' Fs', En X.K B H σ' Γ' Fs' → (∀ i a, a ∈ Fs' i → a ∈ Fs i) → (∀ vs, (∀ t ∈ ts, t ∈ vs) → wipe σ' vs = wipe σ vs) → Q σ' H) → wpGs X tg vs σ H Q := ⟨GoGs.run⟩
theorem wipe_set {σ : L2.St} {i : Nat} {o : Option V} : ∀ {vs : List Nat}, i ∈ vs → wipe (σ.set i o) vs = wipe σ vs
  | v :: vs, h => by
    have com : ∀ (vs : List Nat), (wipe (σ.set i o) vs).set i none = (wipe σ vs).set i none := fun vs => by
      induction vs with
      | nil => exact List.set_set o
      | cons w ws ih =>
        show ((wipe (σ.set i o) ws).set w none).set i none = ((wipe σ ws).set w none).set i none
        by_cases e : w = i
        · rw [e, List.set_set, List.set_set]
          exact ih
        · rw [List.set_comm _ _ e, ih, List.set_comm _ _ (Ne.symm e)]
    show (wipe (σ.set i o) vs).set v none = (wipe σ vs).set v none
    rcases List.mem_cons.mp h with e | e
    · rw [← e]
      exact com vs
    · rw [wipe_set e]
section
variable {X : Cx} {J : Jd} {N : Nd} {Γ Γ1 Γ2 : Ga} {e a b c tg iter : Expr} {es : List Expr} {st : Stmt} {sts rest body : List Stmt} {P : Mn} {d : D} {ds : List D} {pos : Pos} {k : Bool} {ts us : List Nat}
theorem sG : PG X tg (wpG X tg) := ⟨fun pins s _ _ _ u _ I r h => h pins s u I r⟩
theorem sGs : PGs X es (wpGs X es) := ⟨fun pins s _ _ _ u _ I r h => h pins s u I r⟩
theorem toG {t : TG} {v : V} {σ : L2.St} {H : Hp} {Q : L2.St → Hp → Prop} (p : PG X tg t) (h : t v σ H Q) : wpG X tg v σ H Q := fun pins s u I r => p.run pins s σ H v u Q I r h
theorem toGs {t : TGs} {v : List V} {σ : L2.St} {H : Hp} {Q : L2.St → Hp → Prop} (p : PGs X es t) (h : t v σ H Q) : wpGs X es v σ H Q := fun pins s u I r => p.run pins s σ H v u Q I r h
theorem gog_name (i : Nat) {x : Str} (hN : X.N.Nodup) (hi : X.N[i]? = some x := by rfl) (hx : Loc X.env.scope x := by first | exact .inl rfl | exact .inr rfl) (hf : X.fn x = true ∨ X.env.scope.names.lookup x = some .local := by first | exact .inl rfl | exact .inr rfl) :
    GoG X Γ (.Name x pos) d (Γ.set i (.dat d)) [i] := .mk fun σ B H Fs v E r Q q =>
  toG (pg_name hN hi hx hf) (q _ _ (E.setP (P := datP d) i r) (fun _ _ z => off_sub z) fun vs hv => wipe_set (hv i List.mem_cons_self))
theorem gogs_nil : GoGs X Γ [] [] Γ [] := .mk fun σ B H Fs vs E r Q q => by
  cases r
  exact toGs pgs_nil ⟨rfl, q σ Fs E (fun _ _ z => z) fun _ _ => rfl⟩
theorem gogs_cons (h1 : GoG X Γ e d Γ1 ts) (h2 : GoGs X Γ1 es ds Γ2 us) (hs : (assignEach (e :: es) X.env).map (·.2) = assign e X.env :: (assignEach es X.env).map (·.2) := by rfl) : GoGs X Γ (e :: es) (d :: ds) Γ2 (ts ++ us) := .mk fun σ B H Fs vs E r Q q => by
  cases r with
  | cons r rr =>
    refine toGs (pgs_cons sG sGs hs) ⟨_, _, rfl, h1 σ B H Fs _ E r _ fun σ1 F1 E1 s1 w1 => h2 σ1 B H F1 _ E1 rr _ fun σ2 F2 E2 s2 w2 => q σ2 F2 E2 (fun i a z => s1 i a (s2 i a z)) fun vs hv => ?_⟩
    rw [w2 vs fun t ht => hv t (List.mem_append_right _ ht), w1 vs fun t ht => hv t (List.mem_append_left _ ht)]
theorem gog_tup {j : Nat} {n : Nat} (hc : X.calm = true) (h : GoGs X Γ es ds Γ2 ts) (hl : ds.length = n := by rfl) (hn : (assignEach es X.env).length = n := by rfl) (hst : (assignEach es X.env).findIdx? (·.1) = none := by rfl) : GoG X Γ (.Tuple es j pos) (.tuple ds) Γ2 ts := .mk fun σ B H Fs v E r Q q => by
  obtain ⟨a, vs, rfl, h2, h3⟩ := dp_tup r
  exact toG (pg_tup hc sGs hn hst) ⟨a, vs, rfl, E.bh.st h2, by rw [dps_len h3]; exact hl, h σ B H Fs vs E h3 Q q⟩
/-- a, b = e -/
theorem rs_unp (he : Go X Γ e d) (hg : GoG X Γ tg d Γ2 ts) (h : N.nx Γ2) (hs : swapsWithSole [tg] e pos.line X.env = pure false := by rfl) (hw : swappedStores [tg] e X.env = pure none := by rfl)
    (h1 : (assignEach [tg] X.env).map (·.2) = [assign tg X.env] := by rfl) : RnS X J N Γ (.Assign [tg] e pos) := .mk fun B0 σ B H Fs E j =>
  toS (ps_asg sE sG hs hw h1) (he σ B H Fs E _ fun v B2 H2 n r => hg σ B2 H2 Fs v (E.nw n) r _ fun σ' Fs' E' sb _ => ⟨B2, Γ2, Fs', E', (j.nw n).sub sb, h⟩)

/-! ### what is walked -/
structure IsIt (K : PySem.W.Frag) (I : It) (B : Hp) (ds : List D) : Prop where
  go : ∀ i H, i < ds.length → Ex B H → I.go i H
  stop : ∀ H, Ex B H → I.stop ds.length H
  yld : ∀ i H x H' Bc d, ds[i]? = some d → Ex B Bc → Ex Bc H → I.yld i H x H' → ∃ B', Nw Bc H B' H' ∧ Dp K B' x d
def wpI (X : Cx) (tg iter : Expr) : TI := fun σ H R => ∀ pins s, Inv X pins σ H s → wpAny (model X.prog X.w) X.A (eval iter X.env) (fun v s1 => wpAny (model X.prog X.w) X.A (pyIter v) (PIE X pins σ tg R) X.xe s1) X.xe s
theorem sI : PI X tg iter (wpI X tg iter) := ⟨fun pins s _ _ _ I h => h pins s I⟩
theorem toI {t : TI} {σ : L2.St} {H : Hp} {R : It → Hp → Prop} (p : PI X tg iter t) (h : t σ H R) : wpI X tg iter σ H R := fun pins s I => p.run pins s σ H R I h
structure GoI (X : Cx) (Γ : Ga) (tg iter : Expr) (ds : List D) : Prop where
  run : ∀ σ B H Fs, En X.K B H σ Γ Fs → ∀ R : It → Hp → Prop, (∀ I B2 H2, Nw B H B2 H2 → IsIt X.K I B2 ds → R I H2) → wpI X tg iter σ H R
instance {X : Cx} {Γ : Ga} {tg iter : Expr} {ds : List D} : CoeFun (GoI X Γ tg iter ds) fun _ => ∀ σ B H Fs, En X.K B H σ Γ Fs → ∀ R : It → Hp → Prop, (∀ I B2 H2, Nw B H B2 H2 → IsIt X.K I B2 ds → R I H2) → wpI X tg iter σ H R := ⟨GoI.run⟩
theorem goi_list (h : Go X Γ iter (.list ds)) : GoI X Γ tg iter ds := .mk fun σ B H Fs E R q =>
  toI (pi_list sE) (h σ B H Fs E _ fun v B2 H2 n r => by
    obtain ⟨a, vs, rfl, h2, h3⟩ := dp_lst r
    refine ⟨a, rfl, ⟨vs, n.bh.sl h2⟩, q _ B2 H2 n ⟨fun i H' hi hB => ?_, fun H' hB => ⟨vs, hB.sl h2, by rw [dps_len h3]; exact Nat.le_refl _⟩, fun i H' x H2 Bc d hd hB hC y => ?_⟩⟩
    · obtain ⟨u, e1, _⟩ := dps_get h3 (List.getElem?_eq_getElem hi)
      exact ⟨vs, u, hB.sl h2, e1⟩
    · obtain ⟨e1, y⟩ := y
      subst e1
      obtain ⟨d', e3, e4⟩ := dps_getv h3 (y vs ((hB.trans hC).sl h2))
      rw [hd] at e3
      cases e3
      exact ⟨Bc, .same hC, dpUp hB e4⟩)
theorem goi_tup (h : Go X Γ iter (.tuple ds)) : GoI X Γ tg iter ds := .mk fun σ B H Fs E R q =>
  toI (pi_tup sE) (h σ B H Fs E _ fun v B2 H2 n r => by
    obtain ⟨a, vs, rfl, h2, h3⟩ := dp_tup r
    refine ⟨a, rfl, ⟨vs, n.bh.st h2⟩, q _ B2 H2 n ⟨fun i H' hi hB => ?_, fun H' hB => ⟨vs, hB.st h2, by rw [dps_len h3]; exact Nat.le_refl _⟩, fun i H' x H2 Bc d hd hB hC y => ?_⟩⟩
    · obtain ⟨u, e1, _⟩ := dps_get h3 (List.getElem?_eq_getElem hi)
      exact ⟨vs, u, hB.st h2, e1⟩
    · obtain ⟨e1, y⟩ := y
      subst e1
      obtain ⟨d', e3, e4⟩ := dps_getv h3 (y vs ((hB.trans hC).st h2))
      rw [hd] at e3
      cases e3
      exact ⟨Bc, .same hC, dpUp hB e4⟩)
/-- lo, lo + 1, .. -/
def rngI (lo hi : Int) : List Int := (List.range (hi - lo).toNat).map fun i => lo + (i : Nat)
theorem isIt_rng {K : PySem.W.Frag} {B : Hp} {lo : Int} {n : Nat} : IsIt K (Itr lo n) B (((List.range n).map fun i => lo + (i : Nat)).map PyData.int) := by
  have hl : (((List.range n).map fun i => lo + (i : Nat)).map PyData.int).length = n := by
    rw [List.length_map, List.length_map, List.length_range]
  refine ⟨fun i H hi _ => ?_, fun H _ => ?_, fun i H x H' Bc d hd _ hC y => ?_⟩
  · rw [hl] at hi
    exact hi
  · show n ≤ _
    rw [hl]
    exact Nat.le_refl _
  · obtain ⟨e1, e2⟩ := y
    subst e1 e2
    refine ⟨Bc, .same hC, ?_⟩
    have hi : i < n := by
      by_cases hi : i < n
      · exact hi
      · rw [List.getElem?_eq_none (by omega)] at hd
        cases hd
    simp only [List.map_map, List.getElem?_map, List.getElem?_range hi, Option.map_some, Option.some.injEq, Function.comp] at hd
    subst hd
    exact Dp.int _
theorem goi_rng1 {j : Int} {p : Pos} (ha : Go X Γ a (.int j)) (h1 : -(2 ^ 62) ≤ j) (h2 : j < 2 ^ 62) (hm : X.mg "range" = none) (hg : Gl X "range" := by rfl) (hs : starEach [a] X.env = [(false, eval a X.env)] := by rfl) :
    GoI X Γ tg (.Call (.Name "range" p) [a] [] pos) ((rngI 0 j).map PyData.int) := .mk fun σ B H Fs E R q =>
  toI (pi_range1 hg hm (pa_cons sE pa_nil hs) hs) (ha σ B H Fs E _ fun v B2 H2 n r => ⟨j, by rw [dp_int r], h1, h2, q _ B2 H2 n (by
    unfold rngI
    rw [show j - 0 = j by omega]
    exact isIt_rng)⟩)
theorem goi_rng2 {i j : Int} {p : Pos} (ha : Go X Γ a (.int i)) (hb : Go X Γ b (.int j)) (h1 : -(2 ^ 62) ≤ i) (h2 : i < 2 ^ 62) (h3 : -(2 ^ 62) ≤ j) (h4 : j < 2 ^ 62) (hm : X.mg "range" = none) (hg : Gl X "range" := by rfl)
    (hs : starEach [a, b] X.env = [(false, eval a X.env), (false, eval b X.env)] := by rfl) (hs2 : starEach [b] X.env = [(false, eval b X.env)] := by rfl) :
    GoI X Γ tg (.Call (.Name "range" p) [a, b] [] pos) ((rngI i j).map PyData.int) := .mk fun σ B H Fs E R q =>
  toI (pi_range2 hg hm (pa_cons sE (pa_cons sE pa_nil hs2) (by rw [hs2]; exact hs)) hs hs2) (ha σ B H Fs E _ fun v B1 H1 n1 r1 => hb σ B1 H1 Fs (E.nw n1) _ fun w B2 H2 n2 r2 => ⟨i, j, by rw [dp_int r1, dp_int r2], ⟨h1, h2, h3, h4⟩, q _ B2 H2 (n1.trans n2) isIt_rng⟩)
/-- the pairs of enumerate -/
def enumD (ds : List D) : List D := ds.zipIdx.map fun p => .tuple [.int (p.2 : Nat), p.1]
theorem goi_enum {elts : List Expr} {kk : Nat} {tpos p : Pos} (ha : Go X Γ a (.list ds)) (hm : X.mg "enumerate" = none) (hg : Gl X "enumerate" := by rfl) (hs : starEach [a] X.env = [(false, eval a X.env)] := by rfl) :
    GoI X Γ (.Tuple elts kk tpos) (.Call (.Name "enumerate" p) [a] [] pos) (enumD ds) := .mk fun σ B H Fs E R q =>
  toI (pi_enum hg hm (pa_cons sE pa_nil hs) hs) (ha σ B H Fs E _ fun v B2 H2 n r => by
    obtain ⟨l, vs, rfl, h2, h3⟩ := dp_lst r
    have hl : (enumD ds).length = ds.length := by
      unfold enumD
      rw [List.length_map, List.length_zipIdx]
    refine ⟨l, vs, rfl, n.bh.sl h2, q _ B2 H2 n ⟨fun i H' hi hB => ?_, fun H' hB => ⟨vs, hB.sl h2, by rw [dps_len h3, hl]; exact Nat.le_refl _⟩, fun i H' x H2 Bc d hd hB hC y => ?_⟩⟩
    · rw [hl] at hi
      obtain ⟨u, e1, _⟩ := dps_get h3 (List.getElem?_eq_getElem hi)
      exact ⟨vs, u, hB.sl h2, e1⟩
    · obtain ⟨T, u, e1, e2, e3, e4⟩ := y
      subst e1 e3
      obtain ⟨d', e5, e6⟩ := dps_getv h3 (e4 vs ((hB.trans hC).sl h2))
      have hd2 : d = .tuple [.int (i : Nat), d'] := by
        unfold enumD at hd
        rw [List.getElem?_map, List.getElem?_zipIdx, e5] at hd
        simpa using hd.symm
      subst hd2
      have nn := Nw.new (o := .tup [.int (i : Nat), u]) hC e2
      exact ⟨_, nn, .tup (.of upd_same) (.cons (.int _) (.cons (dpUp (hB.trans nn.bb) e6) .nil))⟩)
/-- the pairs of zip -/
def zipD (ds es : List D) : List D := (ds.zip es).map fun p => .tuple [p.1, p.2]
theorem goi_zip {elts : List Expr} {kk : Nat} {tpos p : Pos} {es : List D} (ha : Go X Γ a (.list ds)) (hb : Go X Γ b (.list es)) (hm : X.mg "zip" = none) (hg : Gl X "zip" := by rfl) (hs : starEach [a, b] X.env = (false, eval a X.env) :: starEach [b] X.env := by rfl) (hs2 : starEach [b] X.env = (false, eval b X.env) :: starEach [] X.env := by rfl) :
    GoI X Γ (.Tuple elts kk tpos) (.Call (.Name "zip" p) [a, b] [] pos) (zipD ds es) := .mk fun σ B H Fs E R q =>
  toI (pi_zip hg hm (pa_cons sE (pa_cons sE pa_nil hs2) hs) hs (by rw [hs2]; rfl)) (ha σ B H Fs E _ fun v B1 H1 n1 r1 => hb σ B1 H1 Fs (E.nw n1) _ fun w B2 H2 n2 r2 => by
    obtain ⟨l, vs, rfl, h2, h3⟩ := dp_lst (dpUp n2.bb r1)
    obtain ⟨m, ws, rfl, h4, h5⟩ := dp_lst r2
    have n := n1.trans n2
    have hl : (zipD ds es).length = min ds.length es.length := by
      unfold zipD
      rw [List.length_map, List.length_zip]
    refine ⟨l, m, vs, ws, rfl, n.bh.sl h2, n.bh.sl h4, q _ B2 H2 n ⟨fun i H' hi hB => ?_, fun H' hB => ⟨vs, ws, hB.sl h2, hB.sl h4, by rw [dps_len h3, dps_len h5, hl]; omega⟩, fun i H' x H2 Bc d hd hB hC y => ?_⟩⟩
    · rw [hl] at hi
      obtain ⟨u, e1, _⟩ := dps_get h3 (List.getElem?_eq_getElem (show i < ds.length by omega))
      obtain ⟨u2, e2, _⟩ := dps_get h5 (List.getElem?_eq_getElem (show i < es.length by omega))
      exact ⟨vs, ws, u, u2, hB.sl h2, hB.sl h4, e1, e2⟩
    · obtain ⟨T, u, u2, e1, e2, e3, e4, e5⟩ := y
      subst e1 e3
      obtain ⟨d1, f1, g1⟩ := dps_getv h3 (e4 vs ((hB.trans hC).sl h2))
      obtain ⟨d2, f2, g2⟩ := dps_getv h5 (e5 ws ((hB.trans hC).sl h4))
      have hd2 : d = .tuple [d1, d2] := by
        unfold zipD at hd
        have hz : (ds.zip es)[i]? = some (d1, d2) := by
          rw [List.getElem?_zip_eq_some]
          exact ⟨f1, f2⟩
        rw [List.getElem?_map, hz] at hd
        simpa using hd.symm
      subst hd2
      have nn := Nw.new (o := .tup [u, u2]) hC e2
      exact ⟨_, nn, .tup (.of upd_same) (.cons (dpUp (hB.trans nn.bb) g1) (.cons (dpUp (hB.trans nn.bb) g2) .nil))⟩)
def signsD (z : Str) : List D := z.cps.toList.map fun c => .str ⟨#[c]⟩
theorem goi_str {z : Str} (h : Go X Γ iter (.str z)) : GoI X Γ tg iter (signsD z) := .mk fun σ B H Fs E R q =>
  toI (pi_str sE) (h σ B H Fs E _ fun v B2 H2 n r => by
    have hl : (signsD z).length = z.cps.size := by
      unfold signsD
      rw [List.length_map, Array.length_toList]
    refine ⟨z, dp_str r, q _ B2 H2 n ⟨fun i H' hi hB => by rw [hl] at hi; exact hi, fun H' hB => by rw [hl]; exact Nat.le_refl _, fun i H' x H2 Bc d hd hB hC y => ?_⟩⟩
    obtain ⟨e1, c, e2, e3⟩ := y
    subst e1 e3
    have hd2 : d = .str ⟨#[c]⟩ := by
      unfold signsD at hd
      rw [List.getElem?_map, Array.getElem?_toList, e2] at hd
      simpa using hd.symm
    subst hd2
    exact ⟨Bc, .same hC, .str _⟩)

/-! ### loops -/
structure GoIx (X : Cx) (Γ : Ga) (tg iter : Expr) (p : List D → Prop) : Prop where
  run : ∀ σ B H Fs, En X.K B H σ Γ Fs → ∀ R : It → Hp → Prop, (∀ I B2 H2 ds, p ds → Nw B H B2 H2 → IsIt X.K I B2 ds → R I H2) → wpI X tg iter σ H R
instance {X : Cx} {Γ : Ga} {tg iter : Expr} {p : List D → Prop} : CoeFun (GoIx X Γ tg iter p) fun _ => ∀ σ B H Fs, En X.K B H σ Γ Fs → ∀ R : It → Hp → Prop, (∀ I B2 H2 ds, p ds → Nw B H B2 H2 → IsIt X.K I B2 ds → R I H2) → wpI X tg iter σ H R := ⟨GoIx.run⟩
/-- for: Iv by the turn -/
theorem rs_forX {p : List D → Prop} (Iw : List D → Nat → Ga → Prop) (hi : GoIx X Γ tg iter p) (h0 : ∀ ds, p ds → Iw ds 0 Γ)
    (hb : ∀ ds, p ds → ∀ k d Γ', ds[k]? = some d → Iw ds k Γ' → ∃ Γ2 ts, GoG X Γ' tg d Γ2 ts ∧ Rn X J { N with nx := Iw ds (k + 1), ct := Iw ds (k + 1), bk := N.nx } Γ2 body)
    (hd : ∀ ds, p ds → ∀ Γ', Iw ds ds.length Γ' → N.nx Γ') (hc : X.calm = true) (hp : PassesOwn (model X.prog X.w) X.A X.env X.xe := by exact PassesOwn.never) (hs : ∀ x, foldedSetIterable iter X.env x = pure x := by intro _; rfl) :
    RnS X J N Γ (.For tg iter body [] pos) := .mk fun B0 σ B H Fs E j =>
  toS (ps_for hp hc sI sG sSs hs) (hi σ B H Fs E _ fun I B2 H2 ds pd n it => by
    have h0 := h0 ds pd
    have hb := hb ds pd
    have hd := hd ds pd
    revert h0 hb hd
    generalize Iw ds = Iv
    intro h0 hb hd
    refine ⟨fun i m σ' H' => m = ds.length - i ∧ i ≤ ds.length ∧ ∃ B' Γ' Fs', Ex B2 B' ∧ En X.K B' H' σ' Γ' Fs' ∧ Jn J B0 B' H' Fs' ∧ Iv i Γ', ⟨ds.length, by omega, Nat.zero_le _, B2, Γ, Fs, .refl _, E.nw n, j.nw n, h0⟩, ?_⟩
    rintro i m σ' H' ⟨rfl, hi, B', Γ', Fs', e1, E', j', v⟩
    by_cases hlt : i < ds.length
    · refine .inr ⟨it.go i H' hlt (e1.trans E'.bh), fun σ' H' => ∃ B' Γ' Fs', Ex B2 B' ∧ En X.K B' H' σ' Γ' Fs' ∧ Jn J B0 B' H' Fs' ∧ Iv (i + 1) Γ', fun σ' H' p => ⟨ds.length - (i + 1), by omega, rfl, hlt, p⟩, fun x H'' y => ?_⟩
      obtain ⟨B'', n2, r2⟩ := it.yld i H' x H'' B' _ (List.getElem?_eq_getElem hlt) e1 E'.bh y
      obtain ⟨Γ2, ts, g, rb⟩ := hb i _ Γ' (List.getElem?_eq_getElem hlt) v
      refine g σ' B'' H'' Fs' x (E'.nw n2) r2 _ fun σ2 F2 E2 sb _ => ?_
      have j2 : Jn J B0 B'' H'' F2 := (j'.nw n2).sub sb
      have e2 : Ex B2 B'' := e1.trans n2.bb
      refine wpSs_mono (rb B'' σ2 B'' H'' F2 E2 j2.fresh) ?_ ?_ ?_ ?_
      · exact fun σ3 H3 ⟨B3, Γ3, F3, p1, p2, p3⟩ => ⟨B3, Γ3, F3, e2.trans p2.b0, p1, j2.trans p2, p3⟩
      · exact fun v H3 ⟨σ3, B3, Γ3, F3, p1, p2, p3⟩ => ⟨σ3, B3, Γ3, F3, p1, j2.trans p2, p3⟩
      · exact fun σ3 H3 ⟨B3, Γ3, F3, p1, p2, p3⟩ => ⟨B3, Γ3, F3, p1, j2.trans p2, p3⟩
      · exact fun σ3 H3 ⟨B3, Γ3, F3, p1, p2, p3⟩ => ⟨B3, Γ3, F3, e2.trans p2.b0, p1, j2.trans p2, p3⟩
    · have e : i = ds.length := by omega
      subst e
      exact .inl ⟨it.stop H' (e1.trans E'.bh), B', Γ', Fs', E', j', hd Γ' v⟩)
theorem rs_for (Iv : Nat → Ga → Prop) (hi : GoI X Γ tg iter ds) (h0 : Iv 0 Γ)
    (hb : ∀ k d Γ', ds[k]? = some d → Iv k Γ' → ∃ Γ2 ts, GoG X Γ' tg d Γ2 ts ∧ Rn X J { N with nx := Iv (k + 1), ct := Iv (k + 1), bk := N.nx } Γ2 body)
    (hd : ∀ Γ', Iv ds.length Γ' → N.nx Γ') (hc : X.calm = true) (hp : PassesOwn (model X.prog X.w) X.A X.env X.xe := by exact PassesOwn.never) (hs : ∀ x, foldedSetIterable iter X.env x = pure x := by intro _; rfl) :
    RnS X J N Γ (.For tg iter body [] pos) :=
  rs_forX (p := fun es => es = ds) (fun _ => Iv) (.mk fun σ B H Fs E R q => hi σ B H Fs E R fun I B2 H2 n it => q I B2 H2 ds rfl n it) (fun _ _ => h0) (fun es e k d Γ' g v => hb k d Γ' (e ▸ g) v) (fun es e Γ' v => hd Γ' (e ▸ v)) hc hp hs
/-- while: Iv by a number that falls -/
theorem rs_while (Iv : Nat → Ga → Prop) (m : Nat) (h0 : Iv m Γ)
    (hb : ∀ m Γ', Iv m Γ' → ∃ k, GoT X Γ' c k ∧ (k = true → Rn X J { N with nx := fun Γ2 => ∃ m', m' < m ∧ Iv m' Γ2, ct := fun Γ2 => ∃ m', m' < m ∧ Iv m' Γ2, bk := N.nx } Γ' body) ∧ (k = false → N.nx Γ'))
    (hp : PassesOwn (model X.prog X.w) X.A X.env X.xe := by exact PassesOwn.never) : RnS X J N Γ (.While c body [] pos) := .mk fun B0 σ B H Fs E j =>
  toS (ps_while hp sT sSs) (by
    refine ⟨fun m σ' H' => ∃ B' Γ' Fs', En X.K B' H' σ' Γ' Fs' ∧ Jn J B0 B' H' Fs' ∧ Iv m Γ', ⟨m, B, Γ, Fs, E, j, h0⟩, ?_⟩
    rintro m σ' H' ⟨B', Γ', Fs', E', j', v⟩
    obtain ⟨k, ht, h1, h2⟩ := hb m Γ' v
    refine ht σ' B' H' Fs' E' _ fun B2 H2 n => ?_
    cases k with
    | true =>
      refine iteT ⟨fun σ' H' => ∃ m', m' < m ∧ ∃ B' Γ' Fs', En X.K B' H' σ' Γ' Fs' ∧ Jn J B0 B' H' Fs' ∧ Iv m' Γ', fun σ' H' ⟨m', q1, q2⟩ => ⟨m', q1, q2⟩, ?_⟩
      refine wpSs_mono (h1 rfl B0 σ' B2 H2 Fs' (E'.nw n) (j'.nw n)) ?_ ?_ ?_ ?_
      · exact fun σ3 H3 ⟨B3, Γ3, F3, p1, p2, m', p3, p4⟩ => ⟨m', p3, B3, Γ3, F3, p1, p2, p4⟩
      · exact fun v H3 p => p
      · exact fun σ3 H3 p => p
      · exact fun σ3 H3 ⟨B3, Γ3, F3, p1, p2, m', p3, p4⟩ => ⟨m', p3, B3, Γ3, F3, p1, p2, p4⟩
    | false => exact iteF ⟨B2, Γ', Fs', E'.nw n, j'.nw n, h2 rfl⟩)
end
end PL

set_option maxHeartbeats 2000000
namespace PL
open PySem PySem.Spec PyProof.Rows L2

/-! ### an own list read on the way -/
section
variable {X : Cx} {J : Jd} {N : Nd} {Γ Γ1 Γ2 : Ga} {e a b c tg iter : Expr} {es : List Expr} {st : Stmt} {sts rest body : List Stmt} {P : Mn} {d : D} {ds : List D} {pos : Pos} {k : Bool}
theorem thaw_run {i : Nat} (hΓ : Γ[i]? = some (.own ds)) {σ B H Fs} (E : En X.K B H σ Γ Fs) : ∃ B' Fs', En X.K B' H σ (Γ.set i (.dat (.list ds))) Fs' := by
  obtain ⟨a, vs, h1, h2, h3, h4, h5⟩ := E.own hΓ
  exact ⟨_, _, (E.ice hΓ h1 h2 h3 h4).1⟩
theorem go_thawI (i : Nat) {n : Int} (h : Go X (Γ.set i (.dat (.list ds))) e (.int n)) (hΓ : Γ[i]? = some (.own ds) := by rfl) : Go X Γ e (.int n) := .mk fun σ B H Fs E Q q => by
  obtain ⟨B', Fs', E'⟩ := thaw_run hΓ E
  exact h σ B' H Fs' E' Q fun v B2 H2 n r => by
    rw [dp_int r]
    exact q _ B H2 ⟨.refl _, E.bh.trans n.hh, n.hh, fun _ h _ => h⟩ (Dp.int _)
theorem go_thawS (i : Nat) {n : Str} (h : Go X (Γ.set i (.dat (.list ds))) e (.str n)) (hΓ : Γ[i]? = some (.own ds) := by rfl) : Go X Γ e (.str n) := .mk fun σ B H Fs E Q q => by
  obtain ⟨B', Fs', E'⟩ := thaw_run hΓ E
  exact h σ B' H Fs' E' Q fun v B2 H2 n r => by
    rw [dp_str r]
    exact q _ B H2 ⟨.refl _, E.bh.trans n.hh, n.hh, fun _ h _ => h⟩ (Dp.str _)
theorem goT_thaw (i : Nat) (h : GoT X (Γ.set i (.dat (.list ds))) e k) (hΓ : Γ[i]? = some (.own ds) := by rfl) : GoT X Γ e k := .mk fun σ B H Fs E Q q => by
  obtain ⟨B', Fs', E'⟩ := thaw_run hΓ E
  exact h σ B' H Fs' E' Q fun B2 H2 n => q B H2 ⟨.refl _, E.bh.trans n.hh, n.hh, fun _ h _ => h⟩

/-! ### comprehensions -/
def wpTs (X : Cx) (ifs : List Expr) : TT := fun σ H Q => ∀ pins s, Inv X pins σ H s → wpAny (model X.prog X.w) X.A (forIn ifs true fun c r => if r = true then do let ok ← isTrue c X.env (eval c X.env); pure (ForInStep.yield ok) else pure (ForInStep.yield r)) (TP X pins σ Q) X.xe s
theorem sTs {ifs : List Expr} : PTs X ifs (wpTs X ifs) := ⟨fun pins s _ _ _ I h => h pins s I⟩
theorem toTs {ifs : List Expr} {t : TT} {σ : L2.St} {H : Hp} {Q : Bool → Hp → Prop} (p : PTs X ifs t) (h : t σ H Q) : wpTs X ifs σ H Q := fun pins s I => p.run pins s σ H Q I h
structure GoTs (X : Cx) (Γ : Ga) (ifs : List Expr) (b : Bool) : Prop where
  run : ∀ σ B H Fs, En X.K B H σ Γ Fs → ∀ Q : Bool → Hp → Prop, (∀ B2 H2, Nw B H B2 H2 → Q b H2) → wpTs X ifs σ H Q
instance {X : Cx} {Γ : Ga} {ifs : List Expr} {b : Bool} : CoeFun (GoTs X Γ ifs b) fun _ => ∀ σ B H Fs, En X.K B H σ Γ Fs → ∀ Q : Bool → Hp → Prop, (∀ B2 H2, Nw B H B2 H2 → Q b H2) → wpTs X ifs σ H Q := ⟨GoTs.run⟩
theorem goTs_nil : GoTs X Γ [] true := .mk fun σ B H Fs E Q q => toTs pts_nil (q B H (.same E.bh))
theorem goTs_one (h : GoT X Γ c k) : GoTs X Γ [c] k := .mk fun σ B H Fs E Q q => toTs (pts_one sT) (h σ B H Fs E Q q)
/-- in every block -/
def Blk (X : Cx) (scope : Scope) (R : Cx → Prop) : Prop := ∀ (s : Shared) (H : Hp) (C : Addr) (cl : List (Str × Addr)) (fp : List Addr), R (X.blk s H scope (compEnvC scope cl C X.env) fp)
/-- what the reading of a comprehension asks -/
abbrev lcRd (X : Cx) (scope : Scope) (tg : Expr) (ifs : List Expr) (elt : Expr) (iter : Expr) (vs : List Nat) : TE :=
  tLc (wpI X tg iter) (fun v σ H Q => Blk X scope fun X' => wpG X' tg v σ H Q) (fun σ H Q => Blk X scope fun X' => wpTs X' ifs σ H Q) (fun σ H Q => Blk X scope fun X' => wpE X' elt σ H Q) vs
theorem wipe_wipe {σ : L2.St} : ∀ vs : List Nat, wipe (wipe σ vs) vs = wipe σ vs := fun vs => by
  have sw : ∀ (ws : List Nat) (τ : L2.St), (∀ w ∈ ws, w ∈ vs) → wipe (wipe τ ws) vs = wipe τ vs := fun ws => by
    induction ws with
    | nil => intro τ _; rfl
    | cons w ws ih =>
      intro τ h
      show wipe ((wipe τ ws).set w none) vs = wipe τ vs
      rw [wipe_set (h w List.mem_cons_self)]
      exact ih τ fun x hx => h x (List.mem_cons_of_mem _ hx)
  exact sw vs σ fun _ h => h
theorem lc_run {elt : Expr} {ifs : List Expr} {scope : Scope} {vs : List Nat} {α : Type} {xs : List α} {enc : α → D} (p : α → Bool) (f : α → D) (hi : GoI X Γ tg iter (xs.map enc)) (hz : xs.length < sizeLine)
    (body : ∀ (k : Nat) x, xs[k]? = some x → ∃ Γ' ts, (∀ t ∈ ts, t ∈ vs) ∧ (Blk X scope fun X' => GoG X' (wipeG Γ vs) tg (enc x) Γ' ts) ∧ (Blk X scope fun X' => GoTs X' Γ' ifs (p x)) ∧ (p x = true → Blk X scope fun X' => Go X' Γ' elt (f x)))
    {σ B H Fs} (E : En X.K B H σ Γ Fs) (Q : VK)
    (q : ∀ l us B2 H2, Nw B H B2 H2 → H l = none → B2 l = none → H2 l = some (.lst us) → DpAll X.K B2 us ((xs.filter p).map f) → Q (.ref l) H2) : lcRd X scope tg ifs elt iter vs σ H Q := by
  refine hi σ B H Fs E _ fun I B1 H1 n1 it => ?_
  intro Dl hDl
  have E1 := E.nw n1
  have hl : (xs.map enc).length = xs.length := List.length_map _
  refine ⟨fun i m H' => m = xs.length - i ∧ i ≤ xs.length ∧ ∃ B' acc, Nw B1 H1 B' H' ∧ B' Dl = none ∧ H' Dl = some (.lst acc) ∧ DpAll X.K B' acc (((xs.take i).filter p).map f),
    ⟨xs.length, by omega, Nat.zero_le _, B1, [], .lay n1.bh hDl, n1.bh.none hDl, upd_same, by rw [List.take_zero]; exact .nil⟩, ?_⟩
  rintro i m H' ⟨rfl, hi', B', acc, n', hb, hH, hd⟩
  have nDl : ∀ {j : Nat}, Dl ∉ Fs j := fun {j} ha => (E1.fre j Dl ha).2 hDl
  by_cases hlt : i < xs.length
  · refine .inr ⟨it.go i H' (by rw [hl]; exact hlt) (n'.bb.trans n'.bh), fun H' => i + 1 ≤ xs.length ∧ ∃ B' acc, Nw B1 H1 B' H' ∧ B' Dl = none ∧ H' Dl = some (.lst acc) ∧ DpAll X.K B' acc (((xs.take (i + 1)).filter p).map f), fun H' pp => ⟨xs.length - (i + 1), by omega, rfl, pp⟩, fun x H'' y => ?_⟩
    have ge : (xs.map enc)[i]? = some (enc xs[i]) := by
      rw [List.getElem?_map, List.getElem?_eq_getElem hlt]
      rfl
    obtain ⟨B2, n2, r2⟩ := it.yld i H' x H'' B' _ ge n'.bb n'.bh y
    obtain ⟨Γ', ts, hts, hg, ht, he⟩ := body i xs[i] (List.getElem?_eq_getElem hlt)
    have E2 : En X.K B2 H'' (wipe σ vs) (wipeG Γ vs) Fs := ((E1.nw n').nw n2).wipe vs
    have acl : acc.length ≤ xs.length := by
      rw [dps_len hd, List.length_map]
      refine Nat.le_trans (List.length_filter_le _ _) ?_
      rw [List.length_take]
      omega
    have eT : xs.take (i + 1) = xs.take i ++ [xs[i]] := by rw [List.take_succ_eq_append_getElem hlt]
    intro s0 H0 C0 cl0 fp0
    refine hg s0 H0 C0 cl0 fp0 (wipe σ vs) B2 H'' Fs x E2 r2 _ fun σ2 F2 E3 sb hw => ⟨(hw vs hts).trans (wipe_wipe vs), ?_⟩
    intro s1 H1' C1 cl1 fp1
    refine ht s1 H1' C1 cl1 fp1 σ2 B2 H'' F2 E3 _ fun B4 H4 n4 => ?_
    have dk : B4 Dl = none := n4.nu Dl (n2.nu Dl hb (by rw [hH]; exact fun z => nomatch z)) (by rw [n2.hh Dl _ hH]; exact fun z => nomatch z)
    have dH : H4 Dl = some (.lst acc) := n4.hh Dl _ (n2.hh Dl _ hH)
    have nAll := (n'.trans n2).trans n4
    cases hp : p xs[i] with
    | false =>
      refine iteF ⟨hlt, B4, acc, nAll, dk, dH, ?_⟩
      rw [eT, List.filter_append, List.filter_cons_of_neg (by rw [hp]; exact Bool.false_ne_true), List.filter_nil, List.append_nil]
      exact dpsUp (n2.bb.trans n4.bb) hd
    | true =>
      refine iteT ?_
      intro s2 H2' C2 cl2 fp2
      refine he hp s2 H2' C2 cl2 fp2 σ2 B4 H4 F2 (E3.nw n4) _ fun y' B5 H5 n5 r5 => ?_
      have d5 : B5 Dl = none := n5.nu Dl dk (by rw [dH]; exact fun z => nomatch z)
      have dH5 : H5 Dl = some (.lst acc) := n5.hh Dl _ dH
      have n6 := nAll.trans n5
      refine ⟨acc, dH5, Nat.lt_of_le_of_lt acl hz, hlt, B5, acc ++ [y'], ⟨n6.bb, fun a u e => ?_, fun a u e => ?_, n6.nu⟩, d5, upd_same, ?_⟩
      · rw [upd_ne (ne_of_none e d5)]
        exact n6.bh a u e
      · rw [upd_ne (ne_of_none e hDl)]
        exact n6.hh a u e
      · rw [eT, List.filter_append, List.filter_cons_of_pos hp, List.filter_nil, List.map_append]
        exact dps_app (dpsUp ((n2.bb.trans n4.bb).trans n5.bb) hd) (.cons r5 .nil)
  · have e : i = xs.length := by omega
    subst e
    rw [List.take_length] at hd
    refine .inl ⟨by rw [← hl]; exact it.stop H' (n'.bb.trans n'.bh), q Dl acc B' H' (n1.trans n') (n1.hh.none hDl) hb hH hd⟩
theorem goN_lc {elt : Expr} {ifs : List Expr} {scope : Scope} {own : List (Str × Nat)} {α : Type} {xs : List α} {enc : α → D} (p : α → Bool) (f : α → D) (hi : GoI X Γ tg iter (xs.map enc)) (hz : xs.length < sizeLine)
    (body : ∀ (k : Nat) x, xs[k]? = some x → ∃ Γ' ts, (∀ t ∈ ts, t ∈ own.map (·.2)) ∧ (Blk X scope fun X' => GoG X' (wipeG Γ (own.map (·.2))) tg (enc x) Γ' ts) ∧ (Blk X scope fun X' => GoTs X' Γ' ifs (p x)) ∧ (p x = true → Blk X scope fun X' => Go X' Γ' elt (f x)))
    (hc : X.calm = true) (hN : X.N.Nodup) (ok : BlkOk X.N X.env.scope scope own) (hs : ∀ x, foldedSetIterable iter X.env x = pure x := by intro _; rfl) :
    GoN X Γ (.ListComp elt [⟨tg, iter, ifs, 0⟩] scope pos) ((xs.filter p).map f) := .mk fun σ B H Fs E Q q =>
  toE (pe_lc (own := own) hc hN sI ok (fun s H C cl fp => ⟨fun pins s' σ H v u Q I r h => (h s _ C cl fp) pins s' u I r⟩) (fun s H C cl fp => ⟨fun pins s' σ H Q I h => (h s _ C cl fp) pins s' I⟩) (fun s H C cl fp => ⟨fun pins s' σ H Q I h => (h s _ C cl fp) pins s' I⟩) hs) (lc_run p f hi hz body E Q q)
/-- name = [..] in one line -/
theorem rs_ownLc (i : Nat) {x : Str} {p' : Pos} {elt : Expr} {ifs : List Expr} {scope : Scope} {own : List (Str × Nat)} {lpos : Pos} {α : Type} {xs : List α} {enc : α → D} (p : α → Bool) (f : α → D) (hi : GoI X Γ tg iter (xs.map enc)) (hz : xs.length < sizeLine)
    (body : ∀ (k : Nat) x, xs[k]? = some x → ∃ Γ' ts, (∀ t ∈ ts, t ∈ own.map (·.2)) ∧ (Blk X scope fun X' => GoG X' (wipeG Γ (own.map (·.2))) tg (enc x) Γ' ts) ∧ (Blk X scope fun X' => GoTs X' Γ' ifs (p x)) ∧ (p x = true → Blk X scope fun X' => Go X' Γ' elt (f x)))
    (h : N.nx (Γ.set i (.own ((xs.filter p).map f)))) (hc : X.calm = true) (hN : X.N.Nodup) (ok : BlkOk X.N X.env.scope scope own) (hx : X.N[i]? = some x := by rfl) (hyl : X.env.scope.names.lookup x = some .local := by rfl)
    (hsw : swapsWith (.ListComp elt [⟨tg, iter, ifs, 0⟩] scope lpos) (some (.Name x p')) pos.line X.env = pure true) (hs : ∀ x, foldedSetIterable iter X.env x = pure x := by intro _; rfl) :
    RnS X J N Γ (.Assign [.Name x p'] (.ListComp elt [⟨tg, iter, ifs, 0⟩] scope lpos) pos) := .mk fun B0 σ B H Fs E j =>
  toS (ps_setLc (own := own) hc hN hx hyl hsw sI ok (fun s H C cl fp => ⟨fun pins s' σ H v u Q I r h => (h s _ C cl fp) pins s' u I r⟩) (fun s H C cl fp => ⟨fun pins s' σ H Q I h => (h s _ C cl fp) pins s' I⟩) (fun s H C cl fp => ⟨fun pins s' σ H Q I h => (h s _ C cl fp) pins s' I⟩) hs)
    (lc_run p f hi hz body E (fun x H1 => gName i x σ H1 (N.ends X J B0).nx) fun l us B2 H2 n hl hb hH hd => ⟨B2, _, _, (E.nw n).setO (P := lstO ((xs.filter p).map f)) (F := [l]) i ⟨l, us, rfl, rfl, hH, hd⟩ (fun a ha => by rw [List.mem_singleton.mp ha]; exact hb)
    (fun k a ha hm => (E.fre k a ha).2 (by rw [List.mem_singleton.mp hm]; exact hl)), (j.nw n).lay fun a ha => by
      rw [List.mem_singleton.mp ha]
      cases q : J.H l with
      | none => rfl
      | some o => exact absurd hl (j.h1 l (by rw [q]; exact fun z => nomatch z)), h⟩)

/-! ### defs -/
/-- a def of data: from ar i it gives rs i, nothing that stood is changed -/
def spF {ι : Type} (K : PySem.W.Frag) (pre : ι → Prop) (ar : ι → List Mn) (rs : ι → Mn) : Sp := fun vs H Q _ => ∃ (i : ι) (B : Hp), pre i ∧ Ex B H ∧ MnAll K B vs (ar i) ∧ ∀ v B2 H2, Nw B H B2 H2 → (rs i).p K B2 v → Q v H2
theorem mn_len {K : PySem.W.Frag} {B : Hp} : ∀ {vs : List V} {Ps : List Mn}, MnAll K B vs Ps → vs.length = Ps.length
  | _, _, .nil => rfl
  | _, _, .cons _ t => by rw [List.length_cons, List.length_cons, mn_len t]
theorem mn_get {K : PySem.W.Frag} {B : Hp} : ∀ {vs : List V} {Ps : List Mn} {i : Nat} {P : Mn}, MnAll K B vs Ps → Ps[i]? = some P → ∃ v, vs[i]? = some v ∧ P.p K B v
  | _, _, _, _, .nil, e => by simp at e
  | _, _, 0, _, .cons h _, e => by
    simp only [List.getElem?_cons_zero, Option.some.injEq] at e
    subst e
    exact ⟨_, rfl, h⟩
  | _, _, i + 1, P, .cons _ t, e => by
    obtain ⟨v, h1, h2⟩ := mn_get (i := i) (P := P) t (by simpa using e)
    exact ⟨v, by simpa using h1, h2⟩
/-- the slots at a def's entry: n of them -/
def entry (Ps : List Mn) (n : Nat) : Ga := Ps.map Sl.pr ++ List.replicate (n - Ps.length) .any
theorem en_entry {K : PySem.W.Frag} {B H : Hp} {vs : List V} {Ps : List Mn} {L : List Str} (hB : Ex B H) (h : MnAll K B vs Ps) : En K B H (L2.start L vs) (entry Ps L.length) fun _ => [] where
  bh := hB
  len := by
    unfold L2.start entry
    rw [List.length_append, List.length_append, List.length_map, List.length_map, List.length_replicate, List.length_replicate, mn_len h]
  at_ := fun i s hs => by
    unfold L2.start
    unfold entry at hs
    by_cases hi : i < Ps.length
    · rw [List.getElem?_append_left (by rw [List.length_map]; exact hi), List.getElem?_map, List.getElem?_eq_getElem hi] at hs
      cases hs
      obtain ⟨v, e1, e2⟩ := mn_get h (List.getElem?_eq_getElem hi)
      refine ⟨v, ?_, e2⟩
      rw [List.getElem?_append_left (by rw [List.length_map, mn_len h]; exact hi), List.getElem?_map, e1]
      rfl
    · rw [List.getElem?_append_right (by rw [List.length_map]; omega), List.getElem?_replicate] at hs
      split at hs
      · cases hs
        trivial
      · cases hs
  fre := fun _ _ z => nomatch z
  dis := fun _ _ _ z _ => nomatch z
end
section
variable {P : Program} {w : World} {K : PySem.W.Frag} {mg : Str → Option Value} {base : Heap}
/-- THE RULE for a def of data -/
theorem def_ok {x qual : Str} {st : Stmt} {f : Addr} {fd : FuncData} {L ps : List Str} {k : Nat} {ι : Type} {pre : ι → Prop} {ar : ι → List Mn} {rs : ι → Mn} (F : Fun K x qual st f fd) (S : FnScope L ps (defScope st)) (hl : ∀ i, (ar i).length = ps.length)
    (body : ∀ (i : ι), pre i → ∀ (cdv : Value) (A : Around) (outer : List Env) (s : Shared) (H : Hp) (E : XK), Room k (A.deeper (envOfC qual (defScope st) s.heap.objs.size f cdv)) → ∀ J : Jd, J.S = [] →
      Rn (cxOf CX0 P w K mg base L qual (defScope st) f cdv A outer s H E).nox J { nx := fun _ => ∀ K B, (rs i).p K B .non, rt := rs i } (entry (ar i) L.length) (defBody st)) :
    FnOk P w K mg base CX0 (k + 1) f fd ps (spF K pre ar rs) := by
  refine F.ok S (fun vs H Q E h => ?_) fun cdv A outer s H vs Q E hr h => ?_
  · obtain ⟨i, B, _, _, h, _⟩ := h
    rw [mn_len h, hl]
  · obtain ⟨i, B, hp, hB, hv, q⟩ := h
    refine ⟨_, sSs, wpSs_mono (body i hp cdv A outer s H E hr ⟨H, [], []⟩ rfl B (L2.start L vs) B H (fun _ => []) (en_entry hB hv) ⟨.refl _, fun a h1 h2 => absurd h2 h1, fun a o h _ => h, fun a h => h, fun _ _ z => nomatch z⟩) ?_ ?_ ?_ ?_⟩
    · exact fun σ' H' ⟨B', Γ', Fs', e, j, n⟩ => q _ B' H' ⟨j.b0, e.bh, fun a o h => j.h0 a o h (by simp), fun a h1 h2 => by
        cases r : B' a with
        | none => rfl
        | some o => exact absurd (j.nb a (by rw [r]; exact fun z => nomatch z) h1) h2⟩ (n K B')
    · exact fun v H' ⟨σ', B', Γ', Fs', e, j, _, r⟩ => q v B' H' ⟨j.b0, e.bh, fun a o h => j.h0 a o h (by simp), fun a h1 h2 => by
        cases r : B' a with
        | none => rfl
        | some o => exact absurd (j.nb a (by rw [r]; exact fun z => nomatch z) h1) h2⟩ r
    · exact fun σ' H' ⟨B', Γ', Fs', e, j, n⟩ => n.elim
    · exact fun σ' H' ⟨B', Γ', Fs', e, j, n⟩ => n.elim
end
section
variable {X : Cx} {Γ : Ga} {e : Expr} {es : List Expr} {pos p : Pos}
/-- its call -/
theorem go_call {x : Str} {f : Addr} {fd : FuncData} {ps : List Str} {k : Nat} {ι : Type} {pre : ι → Prop} {ar : ι → List Mn} {rs : ι → Mn} {R : Mn} (i : ι) (F : FnOk X.prog X.w X.K X.mg X.base CX0 k f fd ps (spF X.K pre ar rs)) (hr : Room k X.A) (hm : X.mg x = some (.ref f)) (hk : PySem.W.keepIn X.K (.ref f) = true) (hb : Binds X.K fd ps [])
    (hp : pre i) (ha : GoA X Γ (e :: es) (ar i)) (hg : Gl X x := by rfl) (hdb : (x == ("__debug__" : Str)) = false := by decide) (he : starEach (e :: es) X.env = (false, eval e X.env) :: starEach es X.env := by rfl) (hpl : (backTo pos (starEach es X.env)).any (·.1) = false := by rfl) (hR : rs i = R := by rfl) :
    GoP X Γ (.Call (.Name x p) (e :: es) [] pos) R := .mk fun σ B H Fs E Q q =>
  toE (pe_call F hr hg hm hk hb .nil pass0 sA hdb he hpl) (ha σ B H Fs E _ fun vs B1 H1 n1 r1 => ⟨i, B1, hp, n1.bh, by rw [List.append_nil]; exact r1, fun v B2 H2 n2 r2 => q v B2 H2 (n1.trans n2) (hR ▸ r2)⟩)
end
end PL

set_option maxHeartbeats 2000000
namespace PL
open PySem PySem.Spec PyProof.Rows L2
/-! ### list + list, list * int -/
section
variable {X : Cx} {Γ : Ga} {a b : Expr} {ds es : List D} {pos : Pos}
def rCatL (K : PySem.W.Frag) : V → V → Hp → VK → Prop := fun x y H Q => ∃ l b xs zs, x = .ref l ∧ y = .ref b ∧ SqL K H l xs ∧ SqL K H b zs ∧ xs.length + zs.length ≤ sizeLine ∧ ∀ p, H p = none → Q (.ref p) (upd H p (.lst (xs ++ zs)))
theorem op_catL : OpR X (binaryOp .Add) (rCatL X.K) := by
  intro pins s σ H x y v u Q I rx ry h
  obtain ⟨l, b, xs, zs, rfl, rfl, hH, hB, hz, q⟩ := h
  cases rx
  cases ry
  obtain ⟨its, r, ⟨⟨cls, dd, data, sl⟩, n, ho, hc, _, hd⟩, _⟩ := I.list hH
  obtain ⟨its2, r2, ⟨⟨cls2, dd2, data2, sl2⟩, n2, ho2, hc2, _, hd2⟩, _⟩ := I.list hB
  simp only at hc hd hc2 hd2
  subst hc hd hc2 hd2
  have l1 := r.length
  have l2 := r2.length
  have ea : its.toArray ++ its2.toArray = (its ++ its2).toArray := by simp
  refine PySem.concat_meets ⟨_, ho, rfl⟩ ⟨_, ho2, rfl⟩ PySem.noFill_list_add PySem.seq_list_add PySem.F.slot_list_add PySem.F.entry_list_add (PySem.F.args_list_add_2 _ _) (PyProof.Rows.list_addW l b its.toArray its2.toArray n n2 dd dd2 sl sl2 (by rw [List.size_toArray, List.size_toArray]; omega)) ⟨ho, ho2, ?_⟩
  rw [ea]
  exact ⟨.ref _, _, I.lnew (t' := s.toks) (r.append r2) (by rw [List.length_append]; omega), rfl, q _ I.fresh⟩
theorem goN_cat (ha : Go X Γ a (.list ds)) (hb : Go X Γ b (.list es)) (hl : ds.length + es.length ≤ sizeLine) : GoN X Γ (.BinOp a .Add b pos) (ds ++ es) := .mk fun σ B H Fs E Q q =>
  toE (pe_op op_catL sE sE) (ha σ B H Fs E _ fun v B1 H1 n1 r1 => hb σ B1 H1 Fs (E.nw n1) _ fun w B2 H2 n2 r2 => by
    obtain ⟨l, vs, rfl, h2, h3⟩ := dp_lst (dpUp n2.bb r1)
    obtain ⟨m, ws, rfl, h4, h5⟩ := dp_lst r2
    have n := n1.trans n2
    exact ⟨l, m, vs, ws, rfl, rfl, n2.bh.sl h2, n2.bh.sl h4, by rw [dps_len h3, dps_len h5]; exact hl, fun p hp => q p _ B2 _ (n.trans (.lay n.bh hp)) (n.hh.none hp) (n.bh.none hp) upd_same (dps_app h3 h5)⟩)
theorem dps_flat {K : PySem.W.Frag} {H : Hp} {vs : List V} {ds : List D} (h : DpAll K H vs ds) : ∀ n : Nat, DpAll K H (List.replicate n vs).flatten (List.replicate n ds).flatten
  | 0 => .nil
  | n + 1 => by
    rw [List.replicate_succ, List.replicate_succ, List.flatten_cons, List.flatten_cons]
    exact dps_app h (dps_flat h n)
theorem goN_rep {k : Int} (ha : GoN X Γ a ds) (hb : Go X Γ b (.int k)) (h1 : -(2 ^ 63) ≤ k) (h2 : k < 2 ^ 63) (hl : ds.length * k.toNat ≤ sizeLine) : GoN X Γ (.BinOp a .Mult b pos) (List.replicate k.toNat ds).flatten := .mk fun σ B H Fs E Q q =>
  toE (pe_op op_rep sE sE) (ha σ B H Fs E _ fun l vs B1 H1 n1 hp1 hb1 hH1 hd1 => hb σ B1 H1 Fs (E.nw n1) _ fun w B2 H2 n2 r2 => by
    have n := n1.trans n2
    exact ⟨l, k, vs, rfl, dp_int r2, n2.hh _ _ hH1, h1, h2, by rw [dps_len hd1]; exact hl, fun p hp => q p _ B2 _ (n.trans (.lay n.bh hp)) (n.hh.none hp) (n.bh.none hp) upd_same (dps_flat (dpsUp n2.bb hd1) _)⟩)
end
/-! ### some x -/
def exP {α : Type} (p : α → Prop) (R : α → Mn) : Mn := ⟨fun K H v => ∃ x, p x ∧ (R x).p K H v, fun e ⟨x, h, r⟩ => ⟨x, h, (R x).up e r⟩⟩
section
variable {X : Cx} {J : Jd} {N : Nd} {Γ Γ1 Γ2 : Ga} {e a b c tg iter : Expr} {es : List Expr} {st : Stmt} {sts rest body : List Stmt} {P : Mn} {d : D} {ds : List D} {pos : Pos} {k : Bool}
theorem go_ex {α : Type} {p : α → Prop} {R : α → Mn} (x : α) (hx : p x) (h : GoP X Γ e (R x)) : GoP X Γ e (exP p R) := goP_imp h fun _ _ _ r => ⟨x, hx, r⟩
theorem goix_list {α : Type} {p : α → Prop} {enc : α → List D} (h : GoP X Γ iter (exP p fun x => datP (.list (enc x)))) : GoIx X Γ tg iter fun ds => ∃ x, p x ∧ ds = enc x := .mk fun σ B H Fs E R q =>
  toI (pi_list sE) (h σ B H Fs E _ fun v B2 H2 n r => by
    obtain ⟨x, hx, r⟩ := r
    obtain ⟨a, vs, rfl, h2, h3⟩ := dp_lst r
    refine ⟨a, rfl, ⟨vs, n.bh.sl h2⟩, q _ B2 H2 _ ⟨x, hx, rfl⟩ n ⟨fun i H' hi hB => ?_, fun H' hB => ⟨vs, hB.sl h2, by rw [dps_len h3]; exact Nat.le_refl _⟩, fun i H' x H2 Bc d hd hB hC y => ?_⟩⟩
    · obtain ⟨u, e1, _⟩ := dps_get h3 (List.getElem?_eq_getElem hi)
      exact ⟨vs, u, hB.sl h2, e1⟩
    · obtain ⟨e1, y⟩ := y
      subst e1
      obtain ⟨d', e3, e4⟩ := dps_getv h3 (y vs ((hB.trans hC).sl h2))
      rw [hd] at e3
      cases e3
      exact ⟨Bc, .same hC, dpUp hB e4⟩)
theorem goix_list' {p : List D → Prop} (h : GoP X Γ iter (exP p fun ds => datP (.list ds))) : GoIx X Γ tg iter p := .mk fun σ B H Fs E R q =>
  goix_list (enc := id) h σ B H Fs E R fun I B2 H2 ds ⟨x, hx, e⟩ n it => q I B2 H2 ds (e ▸ hx) n it
theorem en_ex {α : Type} {p : α → Prop} {R : α → Mn} {K B H σ Fs} {i : Nat} (hΓ : Γ[i]? = some (.pr (exP p R))) (E : En K B H σ Γ Fs) : ∃ x, p x ∧ En K B H σ (Γ.set i (.pr (R x))) Fs := by
  obtain ⟨v, h1, x, hx, r⟩ := E.at_ i _ hΓ
  refine ⟨x, hx, E.bh, by rw [List.length_set]; exact E.len, fun j s hs => ?_, E.fre, E.dis⟩
  by_cases e : j = i
  · subst e
    have hl : j < Γ.length := by
      by_cases hl : j < Γ.length
      · exact hl
      · rw [List.getElem?_eq_none (by omega)] at hΓ
        cases hΓ
    rw [List.getElem?_set_self hl] at hs
    cases hs
    exact ⟨v, h1, r⟩
  · rw [List.getElem?_set_ne (Ne.symm e)] at hs
    exact E.at_ j s hs
theorem rn_ex {α : Type} {p : α → Prop} {R : α → Mn} (i : Nat) (hΓ : Γ[i]? = some (.pr (exP p R))) (h : ∀ x, p x → Rn X J N (Γ.set i (.pr (R x))) sts) : Rn X J N Γ sts := .mk fun B0 σ B H Fs E j => by
  obtain ⟨x, hx, E'⟩ := en_ex hΓ E
  exact h x hx B0 σ B H Fs E' j
/-- a set of slots between two statements -/
theorem rs_cut (M : Ga → Prop) (h : RnS X J { N with nx := M } Γ st) (h2 : ∀ Γ', M Γ' → N.nx Γ') : RnS X J N Γ st := .mk fun B0 σ B H Fs E j =>
  wpS_mono (h B0 σ B H Fs E j) (fun σ' H' ⟨B', Γ', Fs', p1, p2, p3⟩ => ⟨B', Γ', Fs', p1, p2, h2 Γ' p3⟩) (fun _ _ z => z) (fun _ _ z => z) fun _ _ z => z
theorem rng_get {lo hi : Int} {k : Nat} {d : D} (h : ((rngI lo hi).map PyData.int)[k]? = some d) : k < (hi - lo).toNat ∧ d = .int (lo + (k : Nat)) := by
  unfold rngI at h
  by_cases hk : k < (hi - lo).toNat
  · simp only [List.map_map, List.getElem?_map, List.getElem?_range hk, Option.map_some, Option.some.injEq, Function.comp] at h
    exact ⟨hk, h.symm⟩
  · rw [List.getElem?_eq_none (by rw [List.length_map, List.length_map, List.length_range]; omega)] at h
    cases h
theorem rng_len {lo hi : Int} : ((rngI lo hi).map PyData.int).length = (hi - lo).toNat := by
  unfold rngI
  rw [List.length_map, List.length_map, List.length_range]
theorem ltZ {n : Nat} (h : n < 1000000) : n < sizeLine := Nat.lt_of_lt_of_le h (by decide)
theorem leZ {n : Nat} (h : n ≤ 1000000) : n ≤ sizeLine := Nat.le_trans h (by decide)
theorem cut63 (ns : List Int) : slD (ns.map PyData.int) none (some 63) = (ns.take 63).map .int := by
  have h : HT.sIx (ns.map PyData.int).length (ns.map PyData.int).length (some 63) = min 63 (ns.map PyData.int).length := HT.sIx_nat _ _ 63
  unfold slD
  rw [h, HT.sIx_none, List.drop_zero, Nat.sub_zero, List.map_take, List.take_eq_take_iff]
  omega
theorem cutHi (ns : List D) (n : Nat) : slD ns none (some (n : Int)) = ns.take n := by
  have h : HT.sIx ns.length ns.length (some (n : Int)) = min n ns.length := HT.sIx_nat _ _ n
  unfold slD
  rw [h, HT.sIx_none, List.drop_zero, Nat.sub_zero, List.take_eq_take_iff]
  omega
/-- the list ds is of k ints that p has -/
def IntsD (p : Int → Prop) (k : Nat) (ds : List D) : Prop := ∃ ns : List Int, ds = ns.map .int ∧ ns.length = k ∧ ∀ x ∈ ns, p x
theorem IntsD.nil {p : Int → Prop} : IntsD p 0 [] := ⟨[], rfl, rfl, fun _ h => nomatch h⟩
theorem IntsD.len {p : Int → Prop} {k : Nat} {ds : List D} (h : IntsD p k ds) : ds.length = k := by
  obtain ⟨ns, h1, h2, _⟩ := h
  rw [h1, List.length_map, h2]
theorem IntsD.push {p : Int → Prop} {k : Nat} {ds : List D} {z : Int} (h : IntsD p k ds) (hz : p z) : IntsD p (k + 1) (ds ++ [.int z]) := by
  obtain ⟨ns, h1, h2, h3⟩ := h
  refine ⟨ns ++ [z], by rw [h1, List.map_append]; rfl, by rw [List.length_append, h2, List.length_singleton], fun x hx => ?_⟩
  rcases List.mem_append.mp hx with hx | hx
  · exact h3 x hx
  · rw [List.mem_singleton.mp hx]
    exact hz
theorem IntsD.get {p : Int → Prop} {k i : Nat} {ds : List D} {d : D} (h : IntsD p k ds) (hd : ds[i]? = some d) : ∃ z, d = .int z ∧ p z ∧ i < k := by
  obtain ⟨ns, h1, h2, h3⟩ := h
  rw [h1, List.getElem?_map] at hd
  cases q : ns[i]? with
  | none =>
    rw [q] at hd
    cases hd
  | some z =>
    rw [q] at hd
    cases hd
    exact ⟨z, rfl, h3 z (List.mem_of_getElem? q), by
      rw [← h2]
      exact (List.getElem?_eq_some_iff.mp q).1⟩
/-- calm: which built-in names are still the built-in ones -/
structure Bt (mg : Str → Option Value) : Prop where
  abs : mg "abs" = none
  int : mg "int" = none
  len : mg "len" = none
  max : mg "max" = none
  range : mg "range" = none
  list : mg "list" = none
  all : mg "all" = none
  any : mg "any" = none
  sum : mg "sum" = none
  tuple : mg "tuple" = none
  sorted : mg "sorted" = none
  set : mg "set" = none
  enumerate : mg "enumerate" = none
  zip : mg "zip" = none
  isinstance : mg "isinstance" = none
  str : mg "str" = none
  bool : mg "bool" = none
  min : mg "min" = none
end
end PL

set_option maxHeartbeats 2000000
namespace PL
open PySem PySem.Spec PyProof.Rows L2
/-! ### the shape of data -/
def Shp (n : Nat) (d : D) : Prop := d.canLay0 = true ∧ d.depth ≤ n
theorem Shp.ok {n : Nat} {d : D} (h : Shp n d) (hn : n ≤ 64 := by decide) : SeqAt.shaped d = true := by
  unfold SeqAt.shaped
  rw [h.1, Bool.true_and]
  exact decide_eq_true (Nat.le_trans h.2 hn)
theorem Shp.up {n m : Nat} {d : D} (h : Shp n d) (hm : n ≤ m) : Shp m d := ⟨h.1, Nat.le_trans h.2 hm⟩
theorem Shp.int (i : Int) (n : Nat) : Shp n (.int i) := ⟨rfl, Nat.zero_le _⟩
theorem Shp.bool (i : Bool) (n : Nat) : Shp n (.bool i) := ⟨rfl, Nat.zero_le _⟩
theorem Shp.non (n : Nat) : Shp n .none := ⟨rfl, Nat.zero_le _⟩
theorem shp_all {n : Nat} : ∀ {ds : List D}, (∀ d ∈ ds, Shp n d) → PyData.canLayAll0 ds = true ∧ PyData.depthAll ds ≤ n
  | [], _ => ⟨rfl, Nat.zero_le _⟩
  | d :: r, h => by
    have h1 := h d List.mem_cons_self
    have h2 := shp_all fun x hx => h x (List.mem_cons_of_mem _ hx)
    refine ⟨?_, ?_⟩
    · show (d.canLay0 && PyData.canLayAll0 r) = true
      rw [h1.1, h2.1]
      rfl
    · show max d.depth (PyData.depthAll r) ≤ n
      exact Nat.max_le.mpr ⟨h1.2, h2.2⟩
theorem Shp.list {n : Nat} {ds : List D} (h : ∀ d ∈ ds, Shp n d) : Shp (n + 1) (.list ds) := ⟨(shp_all h).1, Nat.succ_le_succ (shp_all h).2⟩
theorem Shp.tup {n : Nat} {ds : List D} (h : ∀ d ∈ ds, Shp n d) : Shp (n + 1) (.tuple ds) := ⟨(shp_all h).1, Nat.succ_le_succ (shp_all h).2⟩
theorem Shp.ints (ns : List Int) (n : Nat) : Shp (n + 1) (.list (ns.map .int)) := Shp.list fun d hd => by
  obtain ⟨i, _, rfl⟩ := List.mem_map.mp hd
  exact Shp.int i n
theorem Shp.all2 {n : Nat} {a b : D} (ha : Shp n a) (hb : Shp n b) : ∀ d ∈ [a, b], Shp n d := fun d hd => by
  rcases List.mem_cons.mp hd with e | hd
  · rw [e]
    exact ha
  · rw [List.mem_singleton.mp hd]
    exact hb
/-! ### == of data -/
theorem eqv_int (i j : Int) : PyData.eqv (.int i) (.int j) = (i == j) := by simp [PyData.eqv]
theorem eqv_str (i j : Str) : PyData.eqv (.str i) (.str j) = (i == j) := by simp [PyData.eqv]
theorem eqv_bool (i j : Bool) : PyData.eqv (.bool i) (.bool j) = (i == j) := by simp [PyData.eqv]
theorem eqv_list (xs ys : List D) : PyData.eqv (.list xs) (.list ys) = PyData.eqvAll xs ys := by simp [PyData.eqv]
theorem eqv_tup (xs ys : List D) : PyData.eqv (.tuple xs) (.tuple ys) = PyData.eqvAll xs ys := by simp [PyData.eqv]
theorem eqvAll_nil : PyData.eqvAll [] [] = true := by simp [PyData.eqvAll]
theorem eqvAll_cons (x y : D) (xs ys : List D) : PyData.eqvAll (x :: xs) (y :: ys) = (PyData.eqv x y && PyData.eqvAll xs ys) := by simp [PyData.eqvAll]
mutual
/-- data without dicts is equal to itself -/
theorem eqv_refl : ∀ {d : D}, d.canLay0 = true → PyData.eqv d d = true
  | .none, _ => by simp [PyData.eqv]
  | .bool b, _ => by simp [PyData.eqv]
  | .int i, _ => by simp [PyData.eqv]
  | .str x, _ => by simp [PyData.eqv]
  | .list xs, h => by
    rw [eqv_list]
    exact eqvAll_refl h
  | .tuple xs, h => by
    rw [eqv_tup]
    exact eqvAll_refl h
  | .dict _, h => by cases h
theorem eqvAll_refl : ∀ {ds : List D}, PyData.canLayAll0 ds = true → PyData.eqvAll ds ds = true
  | [], _ => eqvAll_nil
  | d :: r, h => by
    have h : (d.canLay0 && PyData.canLayAll0 r) = true := h
    rw [Bool.and_eq_true] at h
    rw [eqvAll_cons, eqv_refl h.1, eqvAll_refl h.2]
    rfl
end
theorem hasD_ints (ns : List Int) (i : Int) : hasD (ns.map .int) (.int i) = ns.contains i := by
  unfold hasD
  induction ns with
  | nil => rfl
  | cons n r ih =>
    rw [List.map_cons, List.any_cons, ih, eqv_int, List.contains_cons]
    congr 1
    exact Bool.eq_iff_iff.mpr ⟨fun h => by simpa using (beq_iff_eq.mp h).symm, fun h => by simpa using (beq_iff_eq.mp h).symm⟩
theorem eqvAll_ints : ∀ ns ms : List Int, PyData.eqvAll (ns.map .int) (ms.map .int) = (ns == ms)
  | [], [] => eqvAll_nil
  | [], _ :: _ => by simp [PyData.eqvAll]
  | _ :: _, [] => by simp [PyData.eqvAll]
  | n :: r, m :: s => by
    rw [List.map_cons, List.map_cons, eqvAll_cons, eqv_int, eqvAll_ints r s]
    rfl
theorem atI_intsLast (ns : List Int) (z : Int) : atI ((ns ++ [z]).map PyData.int) (-1) = some (.int z) := by
  rw [List.map_append]
  exact atI_last _ _
theorem atI_get' {ds : List D} {k : Nat} {d : D} (h : ds[k]? = some d) {i : Int} (hi : i = (k : Int)) : atI ds i = some d := by
  rw [hi]
  exact atI_nat h
end PL

set_option maxHeartbeats 2000000
namespace PL
open PySem PySem.Spec PyProof.Rows L2
/-! ### things of our own, at large -/
def ovl (B H : Hp) (F : List Addr) : Hp := fun a => if a ∈ F then H a else B a
theorem ovl_in {B H : Hp} {F : List Addr} {a : Addr} (h : a ∈ F) : ovl B H F a = H a := if_pos h
theorem ovl_out {B H : Hp} {F : List Addr} {a : Addr} (h : a ∉ F) : ovl B H F a = B a := if_neg h
theorem ovl_ex {B H : Hp} {F : List Addr} (hF : ∀ a ∈ F, B a = none) : Ex B (ovl B H F) := fun a o e => by
  rw [ovl_out fun z => by rw [hF a z] at e; cases e]
  exact e
theorem ovl_exH {B H : Hp} {F : List Addr} (hB : Ex B H) : Ex (ovl B H F) H := fun a o e => by
  by_cases h : a ∈ F
  · rw [ovl_in h] at e
    exact e
  · rw [ovl_out h] at e
    exact hB a o e
/-- P frozen is the data d -/
def Fz (P : Ow) (d : D) : Prop := ∀ K B H v F, P.p K B H v F → (∀ a ∈ F, B a = none) → Dp K (ovl B H F) v d
theorem fz_lst (ds : List D) : Fz (lstO ds) (.list ds) := fun K B H v F h hF => by
  obtain ⟨a, vs, rfl, h2, h3, h4⟩ := h
  exact .lst (.of (by rw [ovl_in (by rw [h2]; exact List.mem_cons_self)]; exact h3)) (dpsUp (ovl_ex hF) h4)
section
variable {K : PySem.W.Frag} {B H B2 H2 : Hp} {σ : L2.St} {Γ : Ga} {Fs : Nat → List Addr} {P : Ow} {d : D}
theorem En.iceO {i : Nat} (E : En K B H σ Γ Fs) (hΓ : Γ[i]? = some (.ob P)) (hz : Fz P d) : En K (ovl B H (Fs i)) H σ (Γ.set i (.dat d)) (off Fs i []) := by
  obtain ⟨v, h1, h2⟩ := E.at_ i _ hΓ
  have e1 : Ex B (ovl B H (Fs i)) := ovl_ex fun a ha => (E.fre i a ha).1
  refine ⟨ovl_exH E.bh, by rw [List.length_set, E.len], fun j s hs => ?_, fun j b hb' => ?_, fun j k b h1 h2 => E.dis j k b (off_sub h1) (off_sub h2)⟩
  · by_cases e : j = i
    · subst e
      have hl : j < Γ.length := by
        by_cases hl : j < Γ.length
        · exact hl
        · rw [List.getElem?_eq_none (by omega)] at hΓ
          cases hΓ
      rw [List.getElem?_set_self hl] at hs
      cases hs
      exact ⟨v, h1, hz _ _ _ _ _ h2 fun a ha => (E.fre j a ha).1⟩
    · rw [List.getElem?_set_ne (Ne.symm e)] at hs
      rw [off_ne e]
      have := E.at_ j s hs
      cases s with
      | any => trivial
      | pr P =>
        obtain ⟨v, h1, h2⟩ := this
        exact ⟨v, h1, P.up e1 h2⟩
      | ob P =>
        obtain ⟨v, h1, h2⟩ := this
        exact ⟨v, h1, P.upB e1 h2⟩
  · have hj : j ≠ i := fun e => by
      rw [e, off_same] at hb'
      cases hb'
    rw [off_ne hj] at hb'
    refine ⟨?_, (E.fre j b hb').2⟩
    have ne : b ∉ Fs i := fun z => hj (E.dis j i b hb' z)
    rw [ovl_out ne]
    exact (E.fre j b hb').1
end
/-- an expression that gives a new thing -/
structure GoU (X : Cx) (Γ : Ga) (e : Expr) (P : Ow) : Prop where
  run : ∀ σ B H Fs, En X.K B H σ Γ Fs → ∀ Q : VK,
  (∀ v F B2 H2, Nw B H B2 H2 → P.p X.K B2 H2 v F → (∀ a ∈ F, H a = none ∧ B2 a = none) → Q v H2) → wpE X e σ H Q
instance {X : Cx} {Γ : Ga} {e : Expr} {P : Ow} : CoeFun (GoU X Γ e P) fun _ => ∀ σ B H Fs, En X.K B H σ Γ Fs → ∀ Q : VK,
    (∀ v F B2 H2, Nw B H B2 H2 → P.p X.K B2 H2 v F → (∀ a ∈ F, H a = none ∧ B2 a = none) → Q v H2) → wpE X e σ H Q := ⟨GoU.run⟩
section
variable {X : Cx} {J : Jd} {N : Nd} {Γ Γ1 Γ2 : Ga} {e a b c tg iter : Expr} {es : List Expr} {st : Stmt} {sts rest body : List Stmt} {P : Ow} {d : D} {ds : List D} {pos : Pos} {k : Bool}
theorem goU_of_N (h : GoN X Γ e ds) : GoU X Γ e (lstO ds) := .mk fun σ B H Fs E Q q => h σ B H Fs E Q fun p vs B2 H2 n hp hb hH hd => q _ [p] B2 H2 n ⟨p, vs, rfl, rfl, hH, hd⟩ fun a ha => by
  rw [List.mem_singleton.mp ha]
  exact ⟨hp, hb⟩
theorem goN_of_U (h : GoU X Γ e (lstO ds)) : GoN X Γ e ds := .mk fun σ B H Fs E Q q => h σ B H Fs E Q fun v F B2 H2 n ⟨p, vs, e1, e2, e3, e4⟩ hF => by
  subst e1
  obtain ⟨h1, h2⟩ := hF p (by rw [e2]; exact List.mem_cons_self)
  exact q p vs B2 H2 n h1 h2 e3 e4
theorem go_of_U (h : GoU X Γ e P) (hz : Fz P d) : Go X Γ e d := .mk fun σ B H Fs E Q q => h σ B H Fs E Q fun v F B2 H2 n hv hF => by
  refine q v (ovl B2 H2 F) H2 ⟨n.bb.trans (ovl_ex fun a ha => (hF a ha).2), ovl_exH n.bh, n.hh, fun a h1 h2 => ?_⟩ (hz _ _ _ _ _ hv fun a ha => (hF a ha).2)
  rw [ovl_out fun z => h2 (hF a z).1]
  exact n.nu a h1 h2
theorem rs_ownU (i : Nat) {x : Str} {p' : Pos} (he : GoU X Γ e P) (h : N.nx (Γ.set i (.ob P))) (hN : X.N.Nodup) (hi : X.N[i]? = some x := by rfl) (hx : Loc X.env.scope x := by first | exact .inl rfl | exact .inr rfl)
    (hs : swapsWith e (some (.Name x p')) pos.line X.env = pure false := by rfl) (hf : X.fn x = true ∨ X.env.scope.names.lookup x = some .local := by first | exact .inl rfl | exact .inr rfl) : RnS X J N Γ (.Assign [.Name x p'] e pos) := .mk fun B0 σ B H Fs E j =>
  toS (ps_set hN hi hx sE hs hf) (he σ B H Fs E _ fun v F B2 H2 n hv hF => ⟨B2, _, _, (E.nw n).setO (P := P) (F := F) i hv (fun a ha => (hF a ha).2)
    (fun k a ha hm => (E.fre k a ha).2 (hF a hm).1), (j.nw n).lay fun a ha => by
      cases q : J.H a with
      | none => rfl
      | some o => exact absurd (hF a ha).1 (j.h1 a (by rw [q]; exact fun z => nomatch z)), h⟩)
theorem rn_iceO (i : Nat) (hΓ : Γ[i]? = some (.ob P)) (hz : Fz P d) (hi : i ∉ J.S) (h : Rn X J N (Γ.set i (.dat d)) sts) : Rn X J N Γ sts := .mk fun B0 σ B H Fs E j => by
  have E2 := E.iceO hΓ hz
  have e1 : Ex B (ovl B H (Fs i)) := ovl_ex fun a ha => (E.fre i a ha).1
  refine h B0 σ _ H _ E2 ⟨j.b0.trans e1, fun b h1 h2 => ?_, j.h0, j.h1, fun k a ha => j.fm k a (off_sub ha)⟩
  by_cases q : b ∈ Fs i
  · rcases j.fm i b q with z | z
    · exact z
    · exact absurd z.2 hi
  · rw [ovl_out q] at h1
    exact j.nb b h1 h2
theorem th_run {i : Nat} (hΓ : Γ[i]? = some (.ob P)) (hz : Fz P d) {σ B H Fs} (E : En X.K B H σ Γ Fs) : ∃ B' Fs', En X.K B' H σ (Γ.set i (.dat d)) Fs' := ⟨_, _, E.iceO hΓ hz⟩
theorem go_thI (i : Nat) {n : Int} (hΓ : Γ[i]? = some (.ob P)) (hz : Fz P d) (h : Go X (Γ.set i (.dat d)) e (.int n)) : Go X Γ e (.int n) := .mk fun σ B H Fs E Q q => by
  obtain ⟨B', Fs', E'⟩ := th_run hΓ hz E
  exact h σ B' H Fs' E' Q fun v B2 H2 n r => by
    rw [dp_int r]
    exact q _ B H2 ⟨.refl _, E.bh.trans n.hh, n.hh, fun _ h _ => h⟩ (Dp.int _)
theorem go_thB (i : Nat) {n : Bool} (hΓ : Γ[i]? = some (.ob P)) (hz : Fz P d) (h : Go X (Γ.set i (.dat d)) e (.bool n)) : Go X Γ e (.bool n) := .mk fun σ B H Fs E Q q => by
  obtain ⟨B', Fs', E'⟩ := th_run hΓ hz E
  exact h σ B' H Fs' E' Q fun v B2 H2 n r => by
    rw [dp_bl r]
    exact q _ B H2 ⟨.refl _, E.bh.trans n.hh, n.hh, fun _ h _ => h⟩ (Dp.bl _)
theorem goT_th (i : Nat) (hΓ : Γ[i]? = some (.ob P)) (hz : Fz P d) (h : GoT X (Γ.set i (.dat d)) e k) : GoT X Γ e k := .mk fun σ B H Fs E Q q => by
  obtain ⟨B', Fs', E'⟩ := th_run hΓ hz E
  exact h σ B' H Fs' E' Q fun B2 H2 n => q B H2 ⟨.refl _, E.bh.trans n.hh, n.hh, fun _ h _ => h⟩
/-- handed back: the new thing of the slot i -/
theorem rs_retO (i : Nat) {x : Str} {p' : Pos} (hΓ : Γ[i]? = some (.ob P)) (hn : N.rn = some P) (hi : i ∉ J.S) (hN : X.N[i]? = some x := by rfl) (hv : Vis X.env.scope x := by first | exact Or.inl rfl | exact Or.inr (Or.inl rfl) | exact Or.inr (Or.inr rfl))
    (hd : (x == ("__debug__" : Str)) = false := by decide) (hcd : (x == ("__classdict__" : Str)) = false := by decide) (hG : N.rG Γ := by exact trivial) : RnS X J N Γ (.Return (some (.Name x p')) pos) := .mk fun B0 σ B H Fs E j => by
  obtain ⟨v, h1, h2⟩ := E.at_ i _ hΓ
  refine toS (ps_ret (pe_var hN hv hd hcd)) ⟨v, h1, σ, B, Γ, Fs, E, j, hG, ?_⟩
  rw [hn]
  refine ⟨Fs i, h2, fun a ha => ⟨?_, (E.fre i a ha).1⟩, fun m hm a ha hb => hi (E.dis m i a hb ha ▸ hm)⟩
  rcases j.fm i a ha with z | z
  · exact z
  · exact absurd z.2 hi
/-- handed back: a new thing -/
theorem rs_retU (h : GoU X Γ e P) (hn : N.rn = some P := by rfl) (hG : N.rG Γ := by exact trivial) : RnS X J N Γ (.Return (some e) pos) := .mk fun B0 σ B H Fs E j =>
  toS (ps_ret sE) (h σ B H Fs E _ fun v F B2 H2 n hv hF => ⟨σ, B2, Γ, Fs, E.nw n, j.nw n, hG, by
    rw [hn]
    refine ⟨F, hv, fun a ha => ⟨?_, (hF a ha).2⟩, fun m _ a ha hb => (E.fre m a hb).2 (hF a ha).1⟩
    cases q : J.H a with
    | none => rfl
    | some o => exact absurd (hF a ha).1 (j.h1 a (by rw [q]; exact fun z => nomatch z))⟩)

/-! ### a list of lists of our own -/
inductive LLs (K : PySem.W.Frag) (B H : Hp) : List Addr → List (List D) → Prop
  | nil : LLs K B H [] []
  | cons {p : Addr} {us : List V} {ps : List Addr} {ds : List D} {dss : List (List D)} : H p = some (.lst us) → DpAll K B us ds → LLs K B H ps dss → LLs K B H (p :: ps) (ds :: dss)
theorem LLs.mono {K : PySem.W.Frag} {B B' H H' : Hp} (eB : Ex B B') : ∀ {ps : List Addr} {dss : List (List D)}, LLs K B H ps dss → (∀ a ∈ ps, H' a = H a) → LLs K B' H' ps dss
  | _, _, .nil, _ => .nil
  | _, _, .cons h1 h2 t, h => .cons ((h _ List.mem_cons_self).trans h1) (dpsUp eB h2) (LLs.mono eB t fun a ha => h a (List.mem_cons_of_mem _ ha))
theorem LLs.dom {K : PySem.W.Frag} {B H : Hp} : ∀ {ps : List Addr} {dss : List (List D)}, LLs K B H ps dss → ∀ a ∈ ps, H a ≠ none
  | _, _, .cons h1 h2 t, a, ha => by
    rcases List.mem_cons.mp ha with e | e
    · rw [e, h1]
      exact fun z => nomatch z
    · exact t.dom a e
theorem LLs.dps {K : PySem.W.Frag} {B H : Hp} {B' : Hp} (eB : Ex B B') : ∀ {ps : List Addr} {dss : List (List D)}, LLs K B H ps dss → (∀ a ∈ ps, B' a = H a) → DpAll K B' (ps.map .ref) (dss.map .list)
  | _, _, .nil, _ => .nil
  | _, _, .cons h1 h2 t, h => .cons (.lst (.of ((h _ List.mem_cons_self).trans h1)) (dpsUp eB h2)) (LLs.dps eB t fun a ha => h a (List.mem_cons_of_mem _ ha))
theorem LLs.get {K : PySem.W.Frag} {B H : Hp} : ∀ {ps : List Addr} {dss : List (List D)} {i : Nat} {ds : List D}, LLs K B H ps dss → dss[i]? = some ds → ∃ p us, ps[i]? = some p ∧ H p = some (.lst us) ∧ DpAll K B us ds
  | _, _, 0, _, .cons h1 h2 _, e => by
    simp only [List.getElem?_cons_zero, Option.some.injEq] at e
    subst e
    exact ⟨_, _, rfl, h1, h2⟩
  | _, _, i + 1, ds, .cons _ _ t, e => by
    obtain ⟨p, us, h1, h2⟩ := t.get (i := i) (ds := ds) (by simpa using e)
    exact ⟨p, us, by simpa using h1, h2⟩
theorem LLs.set {K : PySem.W.Frag} {B H : Hp} {us : List V} {es : List D} (hd : DpAll K B us es) : ∀ {ps : List Addr} {dss : List (List D)} {i : Nat} {p : Addr}, LLs K B H ps dss → ps.Nodup → ps[i]? = some p → LLs K B (upd H p (.lst us)) ps (dss.set i es)
  | _, _, 0, _, .cons h1 h2 t, hn, e => by
    simp only [List.getElem?_cons_zero, Option.some.injEq] at e
    subst e
    exact .cons upd_same hd (t.mono (.refl _) fun a ha => upd_ne fun z => (List.nodup_cons.mp hn).1 (z ▸ ha))
  | _, _, i + 1, p, .cons h1 h2 t, hn, e => by
    have e' := by simpa using e
    have ne := List.mem_of_getElem? e'
    refine .cons ?_ h2 (LLs.set hd t (List.nodup_cons.mp hn).2 e')
    refine (upd_ne ?_).trans h1
    intro z
    rw [← z] at ne
    exact (List.nodup_cons.mp hn).1 ne
def llO (dss : List (List D)) : Ow where
  p := fun K B H v F => ∃ a ps, v = .ref a ∧ F = a :: ps ∧ H a = some (.lst (ps.map .ref)) ∧ F.Nodup ∧ LLs K B H ps dss
  upB := fun e ⟨a, ps, h1, h2, h3, h4, h5⟩ => ⟨a, ps, h1, h2, h3, h4, h5.mono e fun _ _ => rfl⟩
  loc := fun e ⟨a, ps, h1, h2, h3, h4, h5⟩ => ⟨a, ps, h1, h2, (e a (by rw [h2]; exact List.mem_cons_self)).trans h3, h4, h5.mono (.refl _) fun b hb => e b (by rw [h2]; exact List.mem_cons_of_mem _ hb)⟩
  dom := fun ⟨a, ps, h1, h2, h3, h4, h5⟩ b hb => by
    rw [h2] at hb
    rcases List.mem_cons.mp hb with e | e
    · rw [e, h3]
      exact fun z => nomatch z
    · exact h5.dom b e
theorem fz_ll (dss : List (List D)) : Fz (llO dss) (.list (dss.map .list)) := fun K B H v F h hF => by
  obtain ⟨a, ps, rfl, h2, h3, h4, h5⟩ := h
  exact .lst (.of (by rw [ovl_in (by rw [h2]; exact List.mem_cons_self)]; exact h3)) (h5.dps (ovl_ex hF) fun b hb => ovl_in (by rw [h2]; exact List.mem_cons_of_mem _ hb))
/-- arguments that are new lists -/
structure GoNs (X : Cx) (Γ : Ga) (es : List Expr) (dss : List (List D)) : Prop where
  run : ∀ σ B H Fs, En X.K B H σ Γ Fs → ∀ Q : List V → Hp → Prop,
  (∀ ps B2 H2, Nw B H B2 H2 → (∀ a ∈ ps, H a = none ∧ B2 a = none) → ps.Nodup → LLs X.K B2 H2 ps dss → Q (ps.map .ref) H2) → wpA X es σ H Q
instance {X : Cx} {Γ : Ga} {es : List Expr} {dss : List (List D)} : CoeFun (GoNs X Γ es dss) fun _ => ∀ σ B H Fs, En X.K B H σ Γ Fs → ∀ Q : List V → Hp → Prop,
    (∀ ps B2 H2, Nw B H B2 H2 → (∀ a ∈ ps, H a = none ∧ B2 a = none) → ps.Nodup → LLs X.K B2 H2 ps dss → Q (ps.map .ref) H2) → wpA X es σ H Q := ⟨GoNs.run⟩
theorem gons_nil : GoNs X Γ [] [] := .mk fun σ B H Fs E Q q => toA pa_nil (q [] B H (.same E.bh) (fun _ z => nomatch z) List.nodup_nil .nil)
theorem gons_cons {dss : List (List D)} (he : GoN X Γ e ds) (ht : GoNs X Γ es dss) (hs : starEach (e :: es) X.env = (false, eval e X.env) :: starEach es X.env := by rfl) : GoNs X Γ (e :: es) (ds :: dss) := .mk fun σ B H Fs E Q q =>
  toA (pa_cons sE sA hs) (he σ B H Fs E _ fun p vs B1 H1 n1 hp hb hH hd => ht σ B1 H1 Fs (E.nw n1) _ fun ps B2 H2 n2 hps nd ll => by
    refine q (p :: ps) B2 H2 (n1.trans n2) (fun a ha => ?_) (List.nodup_cons.mpr ⟨fun z => ?_, nd⟩) (.cons (n2.hh _ _ hH) (dpsUp n2.bb hd) ll)
    · rcases List.mem_cons.mp ha with e | e
      · rw [e]
        exact ⟨hp, n2.nu p hb (by rw [hH]; exact fun z => nomatch z)⟩
      · exact ⟨n1.hh.none (hps a e).1, (hps a e).2⟩
    · have := (hps p z).1
      rw [hH] at this
      cases this)
theorem goU_ll {dss : List (List D)} (h : GoNs X Γ es dss) (hl : dss.length ≤ sizeLine := by show _ ≤ _; simp only [List.length]; decide) : GoU X Γ (.List es pos) (llO dss) := .mk fun σ B H Fs E Q q =>
  toE (pe_lst sA) (h σ B H Fs E _ fun ps B1 H1 n1 hps nd ll => by
    have len : ∀ {ps : List Addr} {dss : List (List D)}, LLs X.K B1 H1 ps dss → ps.length = dss.length := fun {ps dss} h => by
      induction h with
      | nil => rfl
      | cons _ _ _ ih => rw [List.length_cons, List.length_cons, ih]
    refine ⟨by rw [List.length_map, len ll]; exact hl, fun p hp => ?_⟩
    have np : p ∉ ps := fun z => ll.dom p z hp
    refine q _ (p :: ps) B1 _ (n1.trans (.lay n1.bh hp)) ⟨p, ps, rfl, rfl, upd_same, List.nodup_cons.mpr ⟨np, nd⟩, ll.mono (.refl _) fun a ha => upd_ne fun z => np (z ▸ ha)⟩ fun a ha => ?_
    rcases List.mem_cons.mp ha with e | e
    · rw [e]
      exact ⟨n1.hh.none hp, n1.bh.none hp⟩
    · exact hps a e)

/-! ### a list within a thing of our own, changed by a method -/
/-- e is a list ds within the thing P of the slot i; W: the thing with another list there -/
structure GoL (X : Cx) (Γ : Ga) (e : Expr) (i : Nat) (ds : List D) (W : List D → Ow) : Prop where
  run : ∀ σ B H Fs, En X.K B H σ Γ Fs → ∀ Q : VK,
  (∀ p vs v B2 H2, Nw B H B2 H2 → σ[i]? = some (some v) → p ∈ Fs i → H2 p = some (.lst vs) → DpAll X.K B2 vs ds →
    (∀ B' H', Ex B2 B' → (∀ a ∈ Fs i, H' a = H2 a) → ∀ us es, DpAll X.K B' us es → (W es).p X.K B' (upd H' p (.lst us)) v (Fs i)) → Q (.ref p) H2) → wpE X e σ H Q
instance {X : Cx} {Γ : Ga} {e : Expr} {i : Nat} {ds : List D} {W : List D → Ow} : CoeFun (GoL X Γ e i ds W) fun _ => ∀ σ B H Fs, En X.K B H σ Γ Fs → ∀ Q : VK,
    (∀ p vs v B2 H2, Nw B H B2 H2 → σ[i]? = some (some v) → p ∈ Fs i → H2 p = some (.lst vs) → DpAll X.K B2 vs ds →
      (∀ B' H', Ex B2 B' → (∀ a ∈ Fs i, H' a = H2 a) → ∀ us es, DpAll X.K B' us es → (W es).p X.K B' (upd H' p (.lst us)) v (Fs i)) → Q (.ref p) H2) → wpE X e σ H Q := ⟨GoL.run⟩
theorem gol_name (i : Nat) {x : Str} (hΓ : Γ[i]? = some (.own ds) := by rfl) (hN : X.N[i]? = some x := by rfl) (hv : Vis X.env.scope x := by first | exact Or.inl rfl | exact Or.inr (Or.inl rfl) | exact Or.inr (Or.inr rfl))
    (hd : (x == ("__debug__" : Str)) = false := by decide) (hcd : (x == ("__classdict__" : Str)) = false := by decide) : GoL X Γ (.Name x pos) i ds lstO := .mk fun σ B H Fs E Q q => by
  obtain ⟨a, vs, h1, h2, h3, h4, h5⟩ := E.own hΓ
  exact toE (pe_var hN hv hd hcd) ⟨_, h1, q a vs _ B H (.same E.bh) h1 (by rw [h3]; exact List.mem_cons_self) h2 h4 fun B' H' _ _ us es hu => ⟨a, us, rfl, h3, upd_same, hu⟩⟩
theorem gol_ix (i : Nat) {x : Str} {dss : List (List D)} {k : Nat} {j p2 p3} (hk : dss[k]? = some ds) (hΓ : Γ[i]? = some (.ob (llO dss)) := by rfl) (hN : X.N[i]? = some x := by rfl) (hv : Vis X.env.scope x := by first | exact Or.inl rfl | exact Or.inr (Or.inl rfl) | exact Or.inr (Or.inr rfl))
    (hd : (x == ("__debug__" : Str)) = false := by decide) (hcd : (x == ("__classdict__" : Str)) = false := by decide) : GoL X Γ (.Subscript (.Name x p2) (.Constant (.int (k : Nat)) j p3) pos) i ds fun es => llO (dss.set k es) := .mk fun σ B H Fs E Q q => by
  obtain ⟨v, h1, a, ps, e1, e2, e3, e4, e5⟩ := E.at_ i _ hΓ
  subst e1
  obtain ⟨p, us, f1, f2, f3⟩ := e5.get hk
  have hp : p ∈ ps := List.mem_of_getElem? f1
  have np : p ≠ a := fun z => by
    rw [e2] at e4
    exact (List.nodup_cons.mp e4).1 (z ▸ hp)
  refine toE (pe_ix ix_list (pe_var hN hv hd hcd) pe_int fun _ _ => rfl) ⟨_, h1, a, ps.map .ref, (k : Nat), .ref p, rfl, rfl, .of e3, atI_nat (by rw [List.getElem?_map, f1]; rfl), ?_⟩
  refine q p us _ B H (.same E.bh) h1 (by rw [e2]; exact List.mem_cons_of_mem _ hp) f2 f3 fun B' H' hB hH us es hu => ⟨a, ps, rfl, e2, ?_, e4, ?_⟩
  · rw [upd_ne (Ne.symm np), hH a (by rw [e2]; exact List.mem_cons_self)]
    exact e3
  · rw [e2] at e4
    exact (e5.mono hB fun b hb => hH b (by rw [e2]; exact List.mem_cons_of_mem _ hb)).set hu (List.nodup_cons.mp e4).2 f1
theorem En.chg {K B H σ Γ Fs} {i : Nat} {v : V} {p : Addr} {us : List V} {W : Ow} (E : En K B H σ Γ Fs) (hi : i < Γ.length) (hσ : σ[i]? = some (some v)) (hp : p ∈ Fs i) (hW : W.p K B (L2.upd H p (.lst us)) v (Fs i)) : En K B (L2.upd H p (.lst us)) σ (Γ.set i (.ob W)) Fs := by
  have hb : B p = none := (E.fre i p hp).1
  have nf : ∀ j, j ≠ i → p ∉ Fs j := fun j hj ha => hj (E.dis j i p ha hp)
  refine ⟨fun b u e => ?_, by rw [List.length_set, E.len], fun j s hs => ?_, fun j b hb' => ⟨(E.fre j b hb').1, fun z => ?_⟩, E.dis⟩
  · rw [upd_ne (ne_of_none e hb)]
    exact E.bh b u e
  · by_cases e : j = i
    · subst e
      rw [List.getElem?_set_self hi] at hs
      cases hs
      exact ⟨v, hσ, hW⟩
    · rw [List.getElem?_set_ne (Ne.symm e)] at hs
      have := E.at_ j s hs
      cases s with
      | any => trivial
      | pr P => exact this
      | ob P =>
        obtain ⟨v, h1, h2⟩ := this
        exact ⟨v, h1, P.loc (fun b hb' => upd_ne (show b ≠ p from fun z => nf j e (z ▸ hb'))) h2⟩
  · by_cases e : b = p
    · rw [e, upd_same] at z
      cases z
    · rw [upd_ne e] at z
      exact (E.fre j b hb').2 z
theorem rs_appL {i : Nat} {W : List D → Ow} {o : Expr} {ap cp : Pos} (ho : GoL X Γ o i ds W) (he : Go X Γ e d) (hl : ds.length < sizeLine) (h : N.nx (Γ.set i (.ob (W (ds ++ [d]))))) (hi : i < Γ.length)
    (hbase : attributeBase o "append" X.env (eval o X.env) = eval o X.env := by rfl)
    (hfew : ((backTo cp (starEach [e] X.env)).all (fun x => !x.1) && (backToKw cp (keywordEach [] X.env)).all (fun x => x.1.isSome)
      && decide ([e].length + ([] : List Keyword).length + (if ([] : List Keyword).isEmpty then 0 else 1) < 30)) = true := by rfl)
    (hline : (ap.endLine == cp.line) = true := by rfl) (hs : starEach [e] X.env = (false, eval e X.env) :: starEach [] X.env := by rfl) (hplain : (backTo cp (starEach [] X.env)).any (·.1) = false := by rfl)
    (hsw : swapsWith (.Call (.Attribute o "append" ap) [e] [] cp) none pos.line X.env = pure false := by rfl) : RnS X J N Γ (.Expr (.Call (.Attribute o "append" ap) [e] [] cp) pos) := .mk fun B0 σ B H Fs E j =>
  toS (ps_expr (pe_bm PySem.F.plainAttrs_list PySem.F.slot_list_append PySem.F.type_list_append mt_append sE (pa_cons sE pa_nil hs) hbase hfew hline hs hplain) hsw) (ho σ B H Fs E _ fun p vs v B1 H1 n1 hσ hp hH hd up => by
    refine ⟨.inl ⟨rfl, vs, .of hH⟩, he σ B1 H1 Fs (E.nw n1) _ fun w B2 H2 n2 r => ?_⟩
    have n := n1.trans n2
    have sm : ∀ a ∈ Fs i, H2 a = H1 a := fun a ha => by
      cases q : H1 a with
      | none => exact absurd q ((E.nw n1).fre i a ha).2
      | some o => exact n2.hh a o q
    refine ⟨p, vs, w, rfl, rfl, n2.hh _ _ hH, by rw [dps_len hd]; exact hl, B2, _, _, (E.nw n).chg hi hσ hp (up B2 H2 n2.bb sm _ _ (dps_app (dpsUp n2.bb hd) (.cons r .nil))), (j.nw n).upd ?_, h⟩
    rcases j.fm i p hp with z | z
    · exact .inl z
    · exact .inr z.1)
theorem rs_clearL {i : Nat} {W : List D → Ow} {o : Expr} {ap cp : Pos} (ho : GoL X Γ o i ds W) (h : N.nx (Γ.set i (.ob (W [])))) (hi : i < Γ.length)
    (hbase : attributeBase o "clear" X.env (eval o X.env) = eval o X.env := by rfl) (hline : (ap.endLine == cp.line) = true := by rfl)
    (hsw : swapsWith (.Call (.Attribute o "clear" ap) [] [] cp) none pos.line X.env = pure false := by rfl) : RnS X J N Γ (.Expr (.Call (.Attribute o "clear" ap) [] [] cp) pos) := .mk fun B0 σ B H Fs E j =>
  toS (ps_expr (pe_bm0 PySem.F.plainAttrs_list PySem.F.slot_list_clear PySem.F.type_list_clear mt_clear sE hbase hline) hsw) (ho σ B H Fs E _ fun p vs v B1 H1 n1 hσ hp hH hd up => by
    refine ⟨.inl ⟨rfl, vs, .of hH⟩, p, vs, rfl, rfl, hH, B1, _, _, (E.nw n1).chg hi hσ hp (up B1 H1 (.refl _) (fun _ _ => rfl) _ _ .nil), (j.nw n1).upd ?_, h⟩
    rcases j.fm i p hp with z | z
    · exact .inl z
    · exact .inr z.1)

/-! ### isinstance of data -/
def tyD : D → String
  | .none => "NoneType"
  | .bool _ => "bool"
  | .int _ => "int"
  | .str _ => "str"
  | .list _ => "list"
  | .tuple _ => "tuple"
  | .dict _ => "dict"
theorem dp_ty {K : PySem.W.Frag} {H : Hp} {v : V} {d : D} (h : Dp K H v d) : TyX K H v (.type (tyD d)) := by
  cases h with
  | non => exact .base .non
  | bl b => exact .base (.bl b)
  | int i => exact .base (.int i)
  | str x => exact .base (.str x)
  | lst h _ =>
    rcases h with (h | ⟨o, h⟩) | ⟨o, its, n, h1, h2, _⟩
    · exact .base (.lst h)
    · exact .base (.frz h)
    · exact .kList h1 h2
  | tup h _ =>
    rcases h with (h | ⟨o, h⟩) | ⟨o, its, n, h1, h2, _⟩
    · exact .base (.tup h)
    · exact .fTuple h
    · exact .kTuple h1 h2
theorem kit_list : kitB "list" "list" = some true := by decide +kernel
theorem kit_tup : kitB "tuple" "tuple" = some true := by decide +kernel
def tyP (n : String) : Mn := ⟨fun _ _ v => v = .ty n, fun _ h => h⟩
theorem go_ty {x : Str} {n : String} (hm : X.mg x = none) (hv : bootBuiltins x = some (.type n)) (hg : Gl X x := by rfl) (hn : x ≠ "__name__" := by decide) (hd : (x == ("__debug__" : Str)) = false := by decide) : GoP X Γ (.Name x pos) (tyP n) := .mk fun σ B H Fs E Q q =>
  toE (pe_bltn hg hm hv (v := .ty n) rfl hn hd) (q _ B H (.same E.bh) rfl)
theorem go_isi {x : Str} {n : String} {r : Bool} {p p2 : Pos} (ha : Go X Γ a d) (hmi : X.mg "isinstance" = none) (hm : X.mg x = none) (hv : bootBuiltins x = some (.type n)) (hr : kitB (tyD d) n = some r) (hgi : Gl X "isinstance" := by rfl) (hg : Gl X x := by rfl)
    (hn : x ≠ "__name__" := by decide) (hd : (x == ("__debug__" : Str)) = false := by decide) (he : starEach [a, .Name x p2] X.env = (false, eval a X.env) :: starEach [.Name x p2] X.env := by rfl) (he2 : starEach [.Name x p2] X.env = (false, eval (.Name x p2) X.env) :: starEach [] X.env := by rfl) :
    Go X Γ (.Call (.Name "isinstance" p) [a, .Name x p2] [] pos) (.bool r) :=
  go_callB call_isi hgi hmi PyProof.Rows.boot_isinstance (goA_cons ha (goA_cons (go_ty hm hv hg hn hd) goA_nil he2) he) (fun vs B H hB rr Q q => by
    obtain ⟨v, w, rfl, h, h2⟩ := mn2 rr
    have h2 : w = .ty n := h2
    subst h2
    exact ⟨v, .ty n, _, _, r, rfl, .ty n, dp_ty (dpUp hB h), kit_ty hr, q _ B H (.same hB) (Dp.bl _)⟩) (by decide) (by decide) he (by rw [he2]; rfl)
end
/-! ### a def that hands back a new thing -/
def spU {ι : Type} (K : PySem.W.Frag) (pre : ι → Prop) (ar : ι → List Mn) (rs : ι → Ow) : Sp := fun vs H Q _ => ∃ (i : ι) (B : Hp), pre i ∧ Ex B H ∧ MnAll K B vs (ar i) ∧ ∀ v F B2 H2, Nw B H B2 H2 → (rs i).p K B2 H2 v F → (∀ a ∈ F, H a = none ∧ B2 a = none) → Q v H2
section
variable {P : Program} {w : World} {K : PySem.W.Frag} {mg : Str → Option Value} {base : Heap}
theorem def_okU {x qual : Str} {st : Stmt} {f : Addr} {fd : FuncData} {L ps : List Str} {k : Nat} {ι : Type} {pre : ι → Prop} {ar : ι → List Mn} {rs : ι → Ow} (F : Fun K x qual st f fd) (S : FnScope L ps (defScope st)) (hl : ∀ i, (ar i).length = ps.length)
    (body : ∀ (i : ι), pre i → ∀ (cdv : Value) (A : Around) (outer : List Env) (s : Shared) (H : Hp) (E : XK), Room k (A.deeper (envOfC qual (defScope st) s.heap.objs.size f cdv)) → ∀ J : Jd, J.S = [] →
      Rn (cxOf CX0 P w K mg base L qual (defScope st) f cdv A outer s H E).nox J { nx := fun _ => False, rt := datP .none, rn := some (rs i) } (entry (ar i) L.length) (defBody st)) :
    FnOk P w K mg base CX0 (k + 1) f fd ps (spU K pre ar rs) := by
  refine F.ok S (fun vs H Q E h => ?_) fun cdv A outer s H vs Q E hr h => ?_
  · obtain ⟨i, B, _, _, h, _⟩ := h
    rw [mn_len h, hl]
  · obtain ⟨i, B, hp, hB, hv, q⟩ := h
    refine ⟨_, sSs, wpSs_mono (body i hp cdv A outer s H E hr ⟨H, [], []⟩ rfl B (L2.start L vs) B H (fun _ => []) (en_entry hB hv) ⟨.refl _, fun a h1 h2 => absurd h2 h1, fun a o h _ => h, fun a h => h, fun _ _ z => nomatch z⟩) ?_ ?_ ?_ ?_⟩
    · exact fun σ' H' ⟨B', Γ', Fs', e, j, n⟩ => n.elim
    · exact fun v H' ⟨σ', B', Γ', Fs', e, j, _, F, r1, r2, _⟩ => q v F B' H' ⟨j.b0, e.bh, fun a o h => j.h0 a o h (by simp), fun a h1 h2 => by
        cases r : B' a with
        | none => rfl
        | some o => exact absurd (j.nb a (by rw [r]; exact fun z => nomatch z) h1) h2⟩ r1 r2
    · exact fun σ' H' ⟨B', Γ', Fs', e, j, n⟩ => n.elim
    · exact fun σ' H' ⟨B', Γ', Fs', e, j, n⟩ => n.elim
end
section
variable {X : Cx} {Γ : Ga} {e : Expr} {es : List Expr} {pos p : Pos}
theorem goU_call {x : Str} {f : Addr} {fd : FuncData} {ps : List Str} {k : Nat} {ι : Type} {pre : ι → Prop} {ar : ι → List Mn} {rs : ι → Ow} {R : Ow} (i : ι) (F : FnOk X.prog X.w X.K X.mg X.base CX0 k f fd ps (spU X.K pre ar rs)) (hr : Room k X.A) (hm : X.mg x = some (.ref f)) (hk : PySem.W.keepIn X.K (.ref f) = true) (hb : Binds X.K fd ps [])
    (hp : pre i) (ha : GoA X Γ (e :: es) (ar i)) (hg : Gl X x := by rfl) (hdb : (x == ("__debug__" : Str)) = false := by decide) (he : starEach (e :: es) X.env = (false, eval e X.env) :: starEach es X.env := by rfl) (hpl : (backTo pos (starEach es X.env)).any (·.1) = false := by rfl) (hR : rs i = R := by rfl) :
    GoU X Γ (.Call (.Name x p) (e :: es) [] pos) R := .mk fun σ B H Fs E Q q =>
  toE (pe_call F hr hg hm hk hb .nil pass0 sA hdb he hpl) (ha σ B H Fs E _ fun vs B1 H1 n1 r1 => ⟨i, B1, hp, n1.bh, by rw [List.append_nil]; exact r1, fun v F B2 H2 n2 r2 r3 => q v F B2 H2 (n1.trans n2) (hR ▸ r2) fun a ha => ⟨n1.hh.none (r3 a ha).1, (r3 a ha).2⟩⟩)
end
end PL

set_option maxHeartbeats 2000000
namespace PL
open PySem PySem.Spec PyProof.Rows L2
/-! ### one rule a construct, whatever the kinds of data -/
local macro_rules | `(tactic| walk_at "pside") => `(tactic| first | exact True.intro | assumption | omega | decide | (refine ⟨?_, ?_⟩ <;> walk_at "pside") | walk_at "pshp" | (simp only [List.length_map, List.length_cons, List.length_nil, List.length_append]; omega))
local macro_rules | `(tactic| walk_at "pshp") => `(tactic| first | exact Shp.ok (by walk_at "psh"))
local macro_rules | `(tactic| walk_at "psh") => `(tactic| first | exact Shp.int _ 0 | exact Shp.bool _ 0 | exact Shp.non 0 | assumption | exact Shp.ints _ 0)
/-- ints that are small enough for a product -/
def MulOk (i j : Int) : Prop := (-(2 ^ 64) < i ∧ i < 2 ^ 64) ∨ (-(2 ^ 64) < j ∧ j < 2 ^ 64)
def BinOk (op : Operator) (x y d : D) : Prop := match op, x, y with
  | .Add, .int i, .int j => d = .int (i + j) ∧ True
  | .Add, .str a, .str b => d = .str (a ++ b) ∧ a.length + b.length ≤ sizeLine
  | .Add, .list a, .list b => d = .list (a ++ b) ∧ a.length + b.length ≤ sizeLine
  | .Add, .tuple a, .tuple b => d = .tuple (a ++ b) ∧ a.length + b.length ≤ sizeLine
  | .Sub, .int i, .int j => d = .int (i - j) ∧ True
  | .Mult, .int i, .int j => d = .int (i * j) ∧ ((-(2 ^ 64) < i ∧ i < 2 ^ 64) ∨ (-(2 ^ 64) < j ∧ j < 2 ^ 64))
  | .FloorDiv, .int i, .int j => d = .int (i / j) ∧ (0 < j ∧ j < 1073741824)
  | .Mod, .int i, .int j => d = .int (i % j) ∧ 0 < j
  | .Pow, .int i, .int j => d = .int (i ^ j.toNat) ∧ (0 ≤ j ∧ j ≤ 1000000 ∧ i.natAbs < 2 ^ 64)
  | .LShift, .int i, .int j => d = .int (i * 2 ^ j.toNat) ∧ (0 ≤ j ∧ j ≤ 1000000 ∧ i.natAbs < 2 ^ 64)
  | .RShift, .int i, .int j => d = .int (i / 2 ^ j.toNat) ∧ 0 ≤ j
  | .BitAnd, .int i, .int j => d = .int (Builtin.bitAnd i j) ∧ True
  | .BitOr, .int i, .int j => d = .int (Builtin.bitOr i j) ∧ True
  | .BitXor, .int i, .int j => d = .int (Builtin.bitXor i j) ∧ True
  | _, _, _ => False
section
variable {X : Cx} {J : Jd} {N : Nd} {Γ Γ1 Γ2 : Ga} {e a b c tg iter : Expr} {es rest : List Expr} {st : Stmt} {sts body : List Stmt} {P : Mn} {d x y z : D} {ds : List D} {pos p : Pos} {k l : Bool} {i : Nat}
theorem go_addT {us ws : List D} (ha : Go X Γ a (.tuple us)) (hb : Go X Γ b (.tuple ws)) (hl : us.length + ws.length ≤ sizeLine) : Go X Γ (.BinOp a .Add b pos) (.tuple (us ++ ws)) := go_op2 op_catA ha hb fun v w B H hB r1 r2 Q q => by
  obtain ⟨l, vs, rfl, h2, h3⟩ := dp_tup r1
  obtain ⟨m, zs, rfl, h4, h5⟩ := dp_tup r2
  refine ⟨l, m, vs, zs, rfl, rfl, hB.st h2, hB.st h4, by rw [dps_len h3, dps_len h5]; exact hl, fun e => ?_, fun e1 e2 => ?_, fun e1 e2 p hp => ?_⟩
  · subst e
    have e : us = [] := by
      cases h3
      rfl
    subst e
    exact q _ B H (.same hB) r2
  · subst e2
    have e : ws = [] := by
      cases h5
      rfl
    subst e
    rw [List.append_nil] at q
    exact q _ B H (.same hB) r1
  · have nn := Nw.new (o := .tup (vs ++ zs)) hB hp
    exact q _ _ _ nn (Dp.tup (.of upd_same) (dpsUp nn.bb (dps_app h3 h5)))
theorem gx_bin {op : Operator} (ha : Go X Γ a x) (hb : Go X Γ b y) (h : BinOk op x y d := by exact ⟨rfl, by walk_at "pside"⟩) : Go X Γ (.BinOp a op b pos) d := by
  cases op <;> cases x <;> cases y <;> (try exact h.elim) <;> obtain ⟨rfl, h⟩ := h
  · exact go_add ha hb
  · exact go_addS ha hb h
  · exact go_of_new (goN_cat ha hb h)
  · exact go_addT ha hb h
  · exact go_sub ha hb
  · exact go_mul ha hb h
  all_goals first
    | exact go_mod ha hb h
    | exact go_pow ha hb h
    | exact go_shl ha hb h
    | exact go_shr ha hb h
    | exact go_or ha hb
    | exact go_xor ha hb
    | exact go_and ha hb
    | exact go_fdiv ha hb h

/-! comparisons -/
def flatD : D → Bool
  | .none => true
  | .bool _ => true
  | .int _ => true
  | .str _ => true
  | _ => false
def CmpOk (op : CmpOp) (x y : D) (k : Bool) : Prop := match op, x, y with
  | .Lt, .int i, .int j => k = decide (i < j) ∧ True
  | .LtE, .int i, .int j => k = decide (i ≤ j) ∧ True
  | .Gt, .int i, .int j => k = decide (j < i) ∧ True
  | .GtE, .int i, .int j => k = decide (j ≤ i) ∧ True
  | .Lt, .str i, .str j => k = decide (i.cps.toList < j.cps.toList) ∧ True
  | .Eq, .int i, .int j => k = decide (i = j) ∧ True
  | .NotEq, .int i, .int j => k = (!decide (i = j)) ∧ True
  | .Eq, .str i, .str j => k = decide (i = j) ∧ True
  | .NotEq, .str i, .str j => k = (!decide (i = j)) ∧ True
  | .Eq, .bool i, .bool j => k = (i == j) ∧ True
  | .NotEq, .bool i, .bool j => k = (i != j) ∧ True
  | .Eq, x, y => k = PyData.eqv x y ∧ (SeqAt.shaped x = true ∧ SeqAt.shaped y = true)
  | .NotEq, x, y => k = (!PyData.eqv x y) ∧ (SeqAt.shaped x = true ∧ SeqAt.shaped y = true)
  | .In, x, .list ds => k = hasD ds x ∧ (SeqAt.shaped x = true ∧ SeqAt.shaped (.list ds) = true)
  | .NotIn, x, .list ds => k = (!hasD ds x) ∧ (SeqAt.shaped x = true ∧ SeqAt.shaped (.list ds) = true)
  | .In, x, .tuple ds => k = hasD ds x ∧ (flatD x = true ∧ ds.all flatD = true)
  | .NotIn, x, .tuple ds => k = (!hasD ds x) ∧ (flatD x = true ∧ ds.all flatD = true)
  | _, _, _ => False
theorem gc_ltS {i j : Str} (ha : Go X Γ a (.str i)) (hb : Go X Γ b (.str j)) : GoC X Γ .Lt a b (decide (i.cps.toList < j.cps.toList)) := go_cmp2 op_lt_str ha hb (fun v w B H hB r1 r2 Q q => by
  rw [dp_str r1, dp_str r2]
  exact ⟨i, j, rfl, rfl, q⟩)
theorem flat_eq {K : PySem.W.Frag} {H : Hp} {v w : V} {x y : D} (hv : Dp K H v x) (hw : Dp K H w y) (h1 : flatD x = true) (h2 : flatD y = true) : eqV v w = PyData.eqv x y ∧ flatV v = true ∧ flatV w = true := by
  cases hv <;> cases hw <;> first | (cases h1; done) | (cases h2; done) | (refine ⟨?_, rfl, rfl⟩; simp [eqV, PyData.eqv])
theorem flat_in {K : PySem.W.Frag} {H : Hp} {v : V} {x : D} (hv : Dp K H v x) (h1 : flatD x = true) : ∀ {vs : List V} {ds : List D}, DpAll K H vs ds → ds.all flatD = true → inV v vs = hasD ds x ∧ vs.all flatV = true
  | _, _, .nil, _ => ⟨rfl, rfl⟩
  | _, _, .cons (v := u) (d := d) h t, h2 => by
    rw [List.all_cons, Bool.and_eq_true] at h2
    obtain ⟨e1, e2⟩ := flat_in hv h1 t h2.2
    obtain ⟨f1, f2, f3⟩ := flat_eq h hv h2.1 h1
    unfold inV at e1 ⊢
    unfold hasD at e1 ⊢
    rw [List.any_cons, List.any_cons, e1, f1, List.all_cons, f2, e2]
    exact ⟨rfl, rfl⟩
theorem flat_v {K : PySem.W.Frag} {H : Hp} {v : V} {x : D} (hv : Dp K H v x) (h1 : flatD x = true) : flatV v = true := by
  cases hv <;> first | rfl | cases h1
theorem gc_inT (ha : Go X Γ a x) (hb : Go X Γ b (.tuple ds)) (h1 : flatD x = true) (h2 : ds.all flatD = true) : GoC X Γ .In a b (hasD ds x) := go_cmp2 op_in_seq ha hb fun v w B H hB r1 r2 Q q => by
  obtain ⟨l, vs, rfl, h3, h4⟩ := dp_tup r2
  obtain ⟨e1, e2⟩ := flat_in r1 h1 h4 h2
  refine ⟨l, vs, rfl, .inr (hB.st h3), flat_v r1 h1, e2, ?_⟩
  rw [e1]
  exact q
theorem gc_notInT (ha : Go X Γ a x) (hb : Go X Γ b (.tuple ds)) (h1 : flatD x = true) (h2 : ds.all flatD = true) : GoC X Γ .NotIn a b (!hasD ds x) := go_cmp2 op_notIn_seq ha hb fun v w B H hB r1 r2 Q q => by
  obtain ⟨l, vs, rfl, h3, h4⟩ := dp_tup r2
  obtain ⟨e1, e2⟩ := flat_in r1 h1 h4 h2
  refine ⟨l, vs, rfl, .inr (hB.st h3), flat_v r1 h1, e2, ?_⟩
  rw [e1]
  exact q
theorem gx_c {op : CmpOp} (hu : UOk X) (ha : Go X Γ a x) (hb : Go X Γ b y) (h : CmpOk op x y k := by exact ⟨rfl, by walk_at "pside"⟩) : GoC X Γ op a b k := by
  cases op <;> cases x <;> cases y <;> (try exact h.elim) <;> obtain ⟨rfl, h⟩ := h <;> first
    | exact gc_lt ha hb
    | exact gc_le ha hb
    | exact gc_gt ha hb
    | exact gc_ge ha hb
    | exact gc_ltS ha hb
    | exact gc_eqI ha hb
    | exact gc_neI ha hb
    | exact gc_eqS ha hb
    | exact gc_neS ha hb
    | exact gc_eqB ha hb
    | exact gc_neB ha hb
    | exact gc_eqD hu ha hb h.1 h.2
    | exact gc_neD hu ha hb h.1 h.2
    | exact gc_in hu ha hb h.1 h.2
    | exact gc_notIn hu ha hb h.1 h.2
    | exact gc_inT ha hb h.1 h.2
    | exact gc_notInT ha hb h.1 h.2
/-! index, len, truth -/
def IxOk (x y d : D) : Prop := match x, y with
  | .list ds, .int i => atI ds i = some d
  | .tuple ds, .int i => atI ds i = some d
  | .str z, .int i => z.length ≤ sizeLine ∧ ∃ m, atI z.cps.toList i = some m ∧ d = .str ⟨#[m]⟩
  | _, _ => False
theorem gx_ix (ha : Go X Γ a x) (hb : Go X Γ b y) (h : IxOk x y d := by walk_at "pix") (hs : PlainIx b := by exact fun _ _ => rfl) : Go X Γ (.Subscript a b pos) d := by
  cases x <;> cases y <;> first
    | exact h.elim
    | exact go_ixL ha hb h hs
    | exact go_ixT ha hb h hs
    | (obtain ⟨h1, m, h2, rfl⟩ := h; exact go_ixS ha hb h1 h2 hs)
def LenOk (x : D) (n : Int) : Prop := match x with
  | .list ds => n = ds.length ∧ True
  | .tuple ds => n = ds.length ∧ True
  | .str z => n = z.length ∧ z.length ≤ sizeLine
  | _ => False
theorem gx_len {n : Int} (hm : X.mg "len" = none) (ha : Go X Γ e x) (h : LenOk x n := by exact ⟨rfl, by walk_at "pside"⟩) (hg : Gl X "len" := by rfl) (he : starEach [e] X.env = (false, eval e X.env) :: starEach [] X.env := by rfl) : Go X Γ (.Call (.Name "len" p) [e] [] pos) (.int n) := by
  cases x <;> first
    | exact h.elim
    | (obtain ⟨rfl, h⟩ := h; exact go_len ha hm hg he)
    | (obtain ⟨rfl, h⟩ := h; exact go_lenT ha hm hg he)
    | (obtain ⟨rfl, h⟩ := h; exact go_lenS ha h hm hg he)
/-- a value's test -/
theorem gx_t (ha : Go X Γ a x) (h : (∀ y, x = .str y → y.length ≤ sizeLine) ∧ (∀ z, x ≠ .dict z) := by walk_at "ptru") (he : ∀ whole, isTrue a X.env whole = (do let v ← whole; standAt a.pos; holding [v] (truthy v)) := by intro _; rfl) : GoT X Γ a (truD x) := goT_tru ha h.1 h.2 he
/-! what is walked -/
def IterOk (x : D) (ds : List D) : Prop := match x with
  | .list es => ds = es
  | .tuple es => ds = es
  | .str z => ds = signsD z
  | _ => False
theorem gx_it (ha : Go X Γ iter x) (h : IterOk x ds := by exact rfl) : GoI X Γ tg iter ds := by
  cases x <;> first
    | exact h.elim
    | exact h ▸ goi_list ha
    | exact h ▸ goi_tup ha
    | exact h ▸ goi_str ha
theorem gx_rng1 {j : Int} (hm : X.mg "range" = none) (ha : Go X Γ a (.int j)) (h : -(2 ^ 62) ≤ j ∧ j < 2 ^ 62 := by walk_at "pside") (hg : Gl X "range" := by rfl) (hs : starEach [a] X.env = [(false, eval a X.env)] := by rfl) :
    GoI X Γ tg (.Call (.Name "range" p) [a] [] pos) ((rngI 0 j).map PyData.int) := goi_rng1 ha h.1 h.2 hm hg hs
theorem gx_rng2 {i j : Int} (hm : X.mg "range" = none) (ha : Go X Γ a (.int i)) (hb : Go X Γ b (.int j)) (h : (-(2 ^ 62) ≤ i ∧ i < 2 ^ 62) ∧ -(2 ^ 62) ≤ j ∧ j < 2 ^ 62 := by walk_at "pside") (hg : Gl X "range" := by rfl)
    (hs : starEach [a, b] X.env = [(false, eval a X.env), (false, eval b X.env)] := by rfl) (hs2 : starEach [b] X.env = [(false, eval b X.env)] := by rfl) :
    GoI X Γ tg (.Call (.Name "range" p) [a, b] [] pos) ((rngI i j).map PyData.int) := goi_rng2 ha hb h.1.1 h.1.2 h.2.1 h.2.2 hm hg hs hs2
/-- a comprehension -/
theorem gx_lc {elt : Expr} {ifs : List Expr} {scope : Scope} {α : Type} {xs : List α} {enc : α → D} {q : α → Bool} {f : α → D} (own : List (Str × Nat)) (hc : X.calm = true) (hN : X.N.Nodup) (hi : GoI X Γ tg iter (xs.map enc))
    (body : ∀ (k : Nat) x, xs[k]? = some x → ∃ Γ' ts, (Blk X scope fun X' => GoG X' (wipeG Γ (own.map (·.2))) tg (enc x) Γ' ts) ∧ (Blk X scope fun X' => GoTs X' Γ' ifs (q x)) ∧ (q x = true → Blk X scope fun X' => Go X' Γ' elt (f x)) ∧ (∀ t ∈ ts, t ∈ own.map (·.2)))
    (ok : blkC X.N X.env.scope scope own = true) (hz : xs.length < 1000000 := by walk_at "pside") (hs : ∀ x, foldedSetIterable iter X.env x = pure x := by intro _; rfl) :
    GoN X Γ (.ListComp elt [⟨tg, iter, ifs, 0⟩] scope pos) ((xs.filter q).map f) :=
  goN_lc q f hi (ltZ hz) (fun k x hx => let ⟨Γ', ts, h1, h2, h3, h4⟩ := body k x hx; ⟨Γ', ts, h4, h1, h2, h3⟩) hc hN (blkOk_by ok) hs
theorem gx_lcM {elt : Expr} {scope : Scope} {α : Type} {xs : List α} {enc : α → D} {f : α → D} (own : List (Str × Nat)) (hc : X.calm = true) (hN : X.N.Nodup) (hi : GoI X Γ tg iter (xs.map enc))
    (body : ∀ (k : Nat) x, xs[k]? = some x → ∃ Γ' ts, (Blk X scope fun X' => GoG X' (wipeG Γ (own.map (·.2))) tg (enc x) Γ' ts) ∧ (Blk X scope fun X' => Go X' Γ' elt (f x)) ∧ (∀ t ∈ ts, t ∈ own.map (·.2)))
    (ok : blkC X.N X.env.scope scope own = true) (hz : xs.length < 1000000 := by walk_at "pside") (hs : ∀ x, foldedSetIterable iter X.env x = pure x := by intro _; rfl) :
    GoN X Γ (.ListComp elt [⟨tg, iter, [], 0⟩] scope pos) (xs.map f) := by
  have h := goN_lc (pos := pos) (fun _ => true) f hi (ltZ hz) (fun k x hx => let ⟨Γ', ts, h1, h2, h4⟩ := body k x hx; ⟨Γ', ts, h4, h1, fun _ _ _ _ _ => goTs_nil, fun _ => h2⟩) hc hN (blkOk_by ok) hs
  rw [List.filter_eq_self.mpr fun _ _ => rfl] at h
  exact h
/-! built-in functions -/
def IntOk (x : D) (n : Int) : Prop := match x with
  | .int i => n = i
  | .bool k => n = if k then 1 else 0
  | _ => False
theorem gx_int {n : Int} (hm : X.mg "int" = none) (ha : Go X Γ e x) (h : IntOk x n := by exact rfl) (hg : Gl X "int" := by rfl) (he : starEach [e] X.env = (false, eval e X.env) :: starEach [] X.env := by rfl) : Go X Γ (.Call (.Name "int" p) [e] [] pos) (.int n) := by
  cases x <;> first
    | exact h.elim
    | exact h ▸ go_intI ha hm hg he
    | exact h ▸ go_intB ha hm hg he
def sumI : List D → Int
  | [] => 0
  | .int z :: r => z + sumI r
  | _ :: r => sumI r
def IsInts (ds : List D) : Prop := ∀ d ∈ ds, ∃ z, d = .int z
theorem ints_of : ∀ {ds : List D}, IsInts ds → ∃ ns : List Int, ds = ns.map .int ∧ sumI ds = ns.sum
  | [], _ => ⟨[], rfl, rfl⟩
  | d :: r, h => by
    obtain ⟨z, rfl⟩ := h d List.mem_cons_self
    obtain ⟨ns, h1, h2⟩ := ints_of fun x hx => h x (List.mem_cons_of_mem _ hx)
    exact ⟨z :: ns, by rw [h1]; rfl, by rw [List.sum_cons, ← h2]; rfl⟩
theorem gx_sum (hc : X.calm = true) (hm : X.mg "sum" = none) (ha : Go X Γ e (.list ds)) (h : IsInts ds := by walk_at "pints") (hg : Gl X "sum" := by rfl) (he : starEach [e] X.env = (false, eval e X.env) :: starEach [] X.env := by rfl) : Go X Γ (.Call (.Name "sum" p) [e] [] pos) (.int (sumI ds)) := by
  obtain ⟨ns, rfl, h2⟩ := ints_of h
  rw [h2]
  exact go_sum hc ha hm hg he
def IsBools (ds : List D) : Prop := ∀ d ∈ ds, ∃ z, d = .bool z
def truB : D → Bool
  | .bool b => b
  | _ => false
theorem bools_of : ∀ {ds : List D}, IsBools ds → ∃ ns : List Bool, ds = ns.map .bool ∧ ds.all truB = ns.all id ∧ ds.any truB = ns.any id
  | [], _ => ⟨[], rfl, rfl, rfl⟩
  | d :: r, h => by
    obtain ⟨z, rfl⟩ := h d List.mem_cons_self
    obtain ⟨ns, h1, h2, h3⟩ := bools_of fun x hx => h x (List.mem_cons_of_mem _ hx)
    exact ⟨z :: ns, by rw [h1]; rfl, by rw [List.all_cons, List.all_cons, h2]; rfl, by rw [List.any_cons, List.any_cons, h3]; rfl⟩
theorem gx_all (hc : X.calm = true) (hm : X.mg "all" = none) (ha : Go X Γ e (.list ds)) (h : IsBools ds := by walk_at "pints") (hg : Gl X "all" := by rfl) (he : starEach [e] X.env = (false, eval e X.env) :: starEach [] X.env := by rfl) : Go X Γ (.Call (.Name "all" p) [e] [] pos) (.bool (ds.all truB)) := by
  obtain ⟨ns, rfl, h2, _⟩ := bools_of h
  rw [h2]
  exact go_all hc ha hm hg he
theorem gx_any (hc : X.calm = true) (hm : X.mg "any" = none) (ha : Go X Γ e (.list ds)) (h : IsBools ds := by walk_at "pints") (hg : Gl X "any" := by rfl) (he : starEach [e] X.env = (false, eval e X.env) :: starEach [] X.env := by rfl) : Go X Γ (.Call (.Name "any" p) [e] [] pos) (.bool (ds.any truB)) := by
  obtain ⟨ns, rfl, _, h2⟩ := bools_of h
  rw [h2]
  exact go_any hc ha hm hg he
theorem ints_map {α : Type} {f : α → Int} {xs : List α} : IsInts (xs.map fun x => .int (f x)) := fun d hd => by
  obtain ⟨x, _, rfl⟩ := List.mem_map.mp hd
  exact ⟨_, rfl⟩
theorem bools_map {α : Type} {f : α → Bool} {xs : List α} : IsBools (xs.map fun x => .bool (f x)) := fun d hd => by
  obtain ⟨x, _, rfl⟩ := List.mem_map.mp hd
  exact ⟨_, rfl⟩
theorem sumI_map {α : Type} {f : α → Int} : ∀ {xs : List α}, sumI (xs.map fun x => .int (f x)) = (xs.map f).sum
  | [] => rfl
  | x :: r => by rw [List.map_cons, List.map_cons, List.sum_cons, ← sumI_map]; rfl
def SeqOk (x : D) (ds : List D) : Prop := match x with
  | .list es => ds = es
  | .tuple es => ds = es
  | _ => False
theorem gx_list (hm : X.mg "list" = none) (ha : Go X Γ e x) (h : SeqOk x ds := by exact rfl) (hg : Gl X "list" := by rfl) (he : starEach [e] X.env = (false, eval e X.env) :: starEach [] X.env := by rfl) : GoN X Γ (.Call (.Name "list" p) [e] [] pos) ds := by
  cases x <;> first
    | exact h.elim
    | exact h ▸ goN_list ha hm hg he
    | exact h ▸ goN_listT ha hm hg he
theorem go_tupleT (ha : Go X Γ e (.tuple ds)) (hm : X.mg "tuple" = none) (hg : Gl X "tuple" := by rfl) (he : starEach [e] X.env = (false, eval e X.env) :: starEach [] X.env := by rfl) : Go X Γ (.Call (.Name "tuple" p) [e] [] pos) (.tuple ds) :=
  go_callTy call_tuple_of hg hm PyProof.Rows.boot_tuple (goA_cons ha goA_nil he) (fun vs B H hB r Q q => by
    obtain ⟨v, rfl, h⟩ := mn1 r
    obtain ⟨p, us, rfl, h2, h3⟩ := dp_tup h
    exact ⟨p, us, rfl, .inr ⟨hB.st h2, q _ B H (.same hB) h⟩⟩) (by decide) (by decide) he rfl
theorem gx_tuple (hm : X.mg "tuple" = none) (ha : Go X Γ e x) (h : SeqOk x ds := by exact rfl) (hg : Gl X "tuple" := by rfl) (he : starEach [e] X.env = (false, eval e X.env) :: starEach [] X.env := by rfl) : Go X Γ (.Call (.Name "tuple" p) [e] [] pos) (.tuple ds) := by
  cases x <;> first
    | exact h.elim
    | exact h ▸ go_tupleL ha hm hg he
    | exact h ▸ go_tupleT ha hm hg he
theorem go_min2 {i j : Int} (hc : X.calm = true) (ha : Go X Γ a (.int i)) (hb : Go X Γ b (.int j)) (hm : X.mg "min" = none) (hg : Gl X "min" := by rfl) (he : starEach [a, b] X.env = (false, eval a X.env) :: starEach [b] X.env := by rfl) (he2 : starEach [b] X.env = (false, eval b X.env) :: starEach [] X.env := by rfl) :
    Go X Γ (.Call (.Name "min" p) [a, b] [] pos) (.int (if j < i then j else i)) :=
  go_callB (call_min2 hc) hg hm PyProof.Rows.boot_min (goA_cons ha (goA_cons hb goA_nil he2) he) (fun vs B H hB r Q q => by
    obtain ⟨v, w, rfl, h, h2⟩ := mn2 r
    have e1 := dp_int h
    have e2 := dp_int h2
    subst e1 e2
    exact ⟨i, j, rfl, q _ B H (.same hB) (Dp.int _)⟩) (by decide) (by decide) he (by rw [he2]; rfl)
/-- e.bit_length() -/
theorem go_bits {i : Int} {ap : Pos} (ha : Go X Γ e (.int i)) (hbase : attributeBase e "bit_length" X.env (eval e X.env) = eval e X.env := by rfl) (hline : (ap.endLine == pos.line) = true := by rfl) : Go X Γ (.Call (.Attribute e "bit_length" ap) [] [] pos) (.int (Builtin.Int.intBits i : Nat)) := .mk fun σ B H Fs E Q q =>
  toE (pe_bits sE hbase hline) (ha σ B H Fs E _ fun v B1 H1 n1 r1 => ⟨i, dp_int r1, q _ B1 H1 n1 (Dp.int _)⟩)
end
theorem rngI_len {lo hi : Int} : (rngI lo hi).length = (hi - lo).toNat := by
  unfold rngI
  rw [List.length_map, List.length_range]
theorem rng_nodup (lo hi : Int) : (rngI lo hi).Nodup := List.pairwise_map.mpr (List.nodup_range.imp fun h e => h (by omega))
theorem rngI_mem {lo hi x : Int} : x ∈ rngI lo hi ↔ lo ≤ x ∧ x < hi := by
  unfold rngI
  rw [List.mem_map]
  constructor
  · rintro ⟨i, h, rfl⟩
    have := List.mem_range.mp h
    omega
  · rintro ⟨h1, h2⟩
    exact ⟨(x - lo).toNat, List.mem_range.mpr (by omega), by omega⟩
/-! ### defs by what they are asked and give: S -/
def spS (K : PySem.W.Frag) (S : List Mn → Mn → Prop) : Sp := fun vs H Q _ => ∃ (Ps : List Mn) (R : Mn) (B : Hp), S Ps R ∧ Ex B H ∧ MnAll K B vs Ps ∧ ∀ v B2 H2, Nw B H B2 H2 → R.p K B2 v → Q v H2
def spSU (K : PySem.W.Frag) (S : List Mn → Ow → Prop) : Sp := fun vs H Q _ => ∃ (Ps : List Mn) (R : Ow) (B : Hp), S Ps R ∧ Ex B H ∧ MnAll K B vs Ps ∧ ∀ v F B2 H2, Nw B H B2 H2 → R.p K B2 H2 v F → (∀ a ∈ F, H a = none ∧ B2 a = none) → Q v H2
/-- the def st of the text stands at the name x -/
structure Dfn (K : PySem.W.Frag) (mg : Str → Option Value) (x : Str) (st : Stmt) (ps : List Str) : Prop where
  ex : ∃ f fd, Fun K x x st f fd ∧ mg x = some (.ref f) ∧ Binds K fd ps []
/-- what stands at the name x keeps its promise -/
structure Cal (P : Program) (w : World) (K : PySem.W.Frag) (mg : Str → Option Value) (base : Heap) (x : Str) (ps : List Str) (k : Nat) (S : List Mn → Mn → Prop) : Prop where
  ex : ∃ f fd, FnOk P w K mg base CX0 k f fd ps (spS K S) ∧ mg x = some (.ref f) ∧ PySem.W.keepIn K (.ref f) = true ∧ Binds K fd ps []
structure CalU (P : Program) (w : World) (K : PySem.W.Frag) (mg : Str → Option Value) (base : Heap) (x : Str) (ps : List Str) (k : Nat) (S : List Mn → Ow → Prop) : Prop where
  ex : ∃ f fd, FnOk P w K mg base CX0 k f fd ps (spSU K S) ∧ mg x = some (.ref f) ∧ PySem.W.keepIn K (.ref f) = true ∧ Binds K fd ps []
section
variable {P : Program} {w : World} {K : PySem.W.Frag} {mg : Str → Option Value} {base : Heap}
theorem cal_ok {x : Str} {st : Stmt} {L ps : List Str} {k : Nat} {S : List Mn → Mn → Prop} (Df : Dfn K mg x st ps) (Sc : FnScope L ps (defScope st)) (hl : ∀ Ps R, S Ps R → Ps.length = ps.length)
    (body : ∀ Ps R, S Ps R → ∀ (f : Addr) (cdv : Value) (A : Around) (outer : List Env) (s : Shared) (H : Hp) (E : XK), Room k (A.deeper (envOfC x (defScope st) s.heap.objs.size f cdv)) → ∀ J : Jd, J.S = [] →
      Rn (cxOf CX0 P w K mg base L x (defScope st) f cdv A outer s H E).nox J { nx := fun _ => ∀ K B, R.p K B .non, rt := R } (entry Ps L.length) (defBody st)) : Cal P w K mg base x ps (k + 1) S := by
  obtain ⟨f, fd, F, m, b⟩ := Df.ex
  refine ⟨f, fd, F.ok Sc (fun vs H Q E h => ?_) fun cdv A outer s H vs Q E hr h => ?_, m, F.kp, b⟩
  · obtain ⟨Ps, R, B, hS, _, h, _⟩ := h
    rw [mn_len h, hl _ _ hS]
  · obtain ⟨Ps, R, B, hS, hB, hv, q⟩ := h
    refine ⟨_, sSs, wpSs_mono (body Ps R hS f cdv A outer s H E hr ⟨H, [], []⟩ rfl B (L2.start L vs) B H (fun _ => []) (en_entry hB hv) ⟨.refl _, fun a h1 h2 => absurd h2 h1, fun a o h _ => h, fun a h => h, fun _ _ z => nomatch z⟩) ?_ ?_ ?_ ?_⟩
    · exact fun σ' H' ⟨B', Γ', Fs', e, j, n⟩ => q _ B' H' ⟨j.b0, e.bh, fun a o h => j.h0 a o h (by simp), fun a h1 h2 => by
        cases r : B' a with
        | none => rfl
        | some o => exact absurd (j.nb a (by rw [r]; exact fun z => nomatch z) h1) h2⟩ (n K B')
    · exact fun v H' ⟨σ', B', Γ', Fs', e, j, _, r⟩ => q v B' H' ⟨j.b0, e.bh, fun a o h => j.h0 a o h (by simp), fun a h1 h2 => by
        cases r : B' a with
        | none => rfl
        | some o => exact absurd (j.nb a (by rw [r]; exact fun z => nomatch z) h1) h2⟩ r
    · exact fun σ' H' ⟨B', Γ', Fs', e, j, n⟩ => n.elim
    · exact fun σ' H' ⟨B', Γ', Fs', e, j, n⟩ => n.elim
theorem calU_ok {x : Str} {st : Stmt} {L ps : List Str} {k : Nat} {S : List Mn → Ow → Prop} (Df : Dfn K mg x st ps) (Sc : FnScope L ps (defScope st)) (hl : ∀ Ps R, S Ps R → Ps.length = ps.length)
    (body : ∀ Ps R, S Ps R → ∀ (f : Addr) (cdv : Value) (A : Around) (outer : List Env) (s : Shared) (H : Hp) (E : XK), Room k (A.deeper (envOfC x (defScope st) s.heap.objs.size f cdv)) → ∀ J : Jd, J.S = [] →
      Rn (cxOf CX0 P w K mg base L x (defScope st) f cdv A outer s H E).nox J { nx := fun _ => False, rt := datP .none, rn := some R } (entry Ps L.length) (defBody st)) : CalU P w K mg base x ps (k + 1) S := by
  obtain ⟨f, fd, F, m, b⟩ := Df.ex
  refine ⟨f, fd, F.ok Sc (fun vs H Q E h => ?_) fun cdv A outer s H vs Q E hr h => ?_, m, F.kp, b⟩
  · obtain ⟨Ps, R, B, hS, _, h, _⟩ := h
    rw [mn_len h, hl _ _ hS]
  · obtain ⟨Ps, R, B, hS, hB, hv, q⟩ := h
    refine ⟨_, sSs, wpSs_mono (body Ps R hS f cdv A outer s H E hr ⟨H, [], []⟩ rfl B (L2.start L vs) B H (fun _ => []) (en_entry hB hv) ⟨.refl _, fun a h1 h2 => absurd h2 h1, fun a o h _ => h, fun a h => h, fun _ _ z => nomatch z⟩) ?_ ?_ ?_ ?_⟩
    · exact fun σ' H' ⟨B', Γ', Fs', e, j, n⟩ => n.elim
    · exact fun v H' ⟨σ', B', Γ', Fs', e, j, _, F, r1, r2, _⟩ => q v F B' H' ⟨j.b0, e.bh, fun a o h => j.h0 a o h (by simp), fun a h1 h2 => by
        cases r : B' a with
        | none => rfl
        | some o => exact absurd (j.nb a (by rw [r]; exact fun z => nomatch z) h1) h2⟩ r1 r2
    · exact fun σ' H' ⟨B', Γ', Fs', e, j, n⟩ => n.elim
    · exact fun σ' H' ⟨B', Γ', Fs', e, j, n⟩ => n.elim
end
section
variable {X : Cx} {Γ : Ga} {e : Expr} {es : List Expr} {pos p : Pos} {j k : Nat} {x : Str} {ps : List Str}
theorem gx_call {S : List Mn → Mn → Prop} {Ps : List Mn} {R : Mn} (C : Cal X.prog X.w X.K X.mg X.base x ps k S) (hr : Room j X.A) (hk : k ≤ j) (ha : GoA X Γ (e :: es) Ps) (hS : S Ps R := by walk_at "pS") (hg : Gl X x := by rfl) (hdb : (x == ("__debug__" : Str)) = false := by decide)
    (he : starEach (e :: es) X.env = (false, eval e X.env) :: starEach es X.env := by rfl) (hpl : (backTo pos (starEach es X.env)).any (·.1) = false := by rfl) : GoP X Γ (.Call (.Name x p) (e :: es) [] pos) R := .mk fun σ B H Fs E Q q => by
  obtain ⟨f, fd, F, m, kp, b⟩ := C.ex
  exact toE (pe_call F (hr.mono hk) hg m kp b .nil pass0 sA hdb he hpl) (ha σ B H Fs E _ fun vs B1 H1 n1 r1 => ⟨Ps, R, B1, hS, n1.bh, by rw [List.append_nil]; exact r1, fun v B2 H2 n2 r2 => q v B2 H2 (n1.trans n2) r2⟩)
theorem gx_callU {S : List Mn → Ow → Prop} {Ps : List Mn} {R : Ow} (C : CalU X.prog X.w X.K X.mg X.base x ps k S) (hr : Room j X.A) (hk : k ≤ j) (ha : GoA X Γ (e :: es) Ps) (hS : S Ps R := by walk_at "pS") (hg : Gl X x := by rfl) (hdb : (x == ("__debug__" : Str)) = false := by decide)
    (he : starEach (e :: es) X.env = (false, eval e X.env) :: starEach es X.env := by rfl) (hpl : (backTo pos (starEach es X.env)).any (·.1) = false := by rfl) : GoU X Γ (.Call (.Name x p) (e :: es) [] pos) R := .mk fun σ B H Fs E Q q => by
  obtain ⟨f, fd, F, m, kp, b⟩ := C.ex
  exact toE (pe_call F (hr.mono hk) hg m kp b .nil pass0 sA hdb he hpl) (ha σ B H Fs E _ fun vs B1 H1 n1 r1 => ⟨Ps, R, B1, hS, n1.bh, by rw [List.append_nil]; exact r1, fun v F B2 H2 n2 r2 r3 => q v F B2 H2 (n1.trans n2) r2 fun a ha => ⟨n1.hh.none (r3 a ha).1, (r3 a ha).2⟩⟩)
end
section
variable {X : Cx} {J : Jd} {N : Nd} {Γ Γ1 Γ2 : Ga} {e a b c tg iter : Expr} {es rest : List Expr} {st : Stmt} {sts body : List Stmt} {P : Mn} {d x y z : D} {ds : List D} {pos p : Pos} {k l : Bool}
theorem gx_if (h : GoT X Γ c k) (h1 : k = true → Go X Γ a x) (h2 : k = false → Go X Γ b y) : Go X Γ (.IfExp c a b pos) (if k = true then x else y) :=
  go_ifE h (fun e => by rw [if_pos e]; exact h1 e) (fun e => by rw [if_neg (by rw [e]; exact Bool.false_ne_true)]; exact h2 e)
theorem gx_ifI {i j : Int} (h : GoT X Γ c k) (h1 : k = true → Go X Γ a (.int i)) (h2 : k = false → Go X Γ b (.int j)) : Go X Γ (.IfExp c a b pos) (.int (if k = true then i else j)) :=
  go_ifE h (fun e => by rw [if_pos e]; exact h1 e) (fun e => by rw [if_neg (by rw [e]; exact Bool.false_ne_true)]; exact h2 e)
def isiS (t n : String) : Bool := match t, n with
  | "bool", "int" => true
  | "bool", "bool" => true
  | "int", "int" => true
  | "str", "str" => true
  | "list", "list" => true
  | "tuple", "tuple" => true
  | "dict", "dict" => true
  | _, _ => false
abbrev isiD (d : D) (n : String) : Bool := isiS (tyD d) n
theorem kit_isi (d : D) : kitB (tyD d) "int" = some (isiD d "int") ∧ kitB (tyD d) "bool" = some (isiD d "bool") ∧ kitB (tyD d) "str" = some (isiD d "str") ∧ kitB (tyD d) "list" = some (isiD d "list") ∧ kitB (tyD d) "tuple" = some (isiD d "tuple") := by
  cases d <;> (simp only [isiD, tyD]; exact ⟨by decide +kernel, by decide +kernel, by decide +kernel, by decide +kernel, by decide +kernel⟩)
theorem gx_isi {x : Str} {n : String} {p2 : Pos} (hmi : X.mg "isinstance" = none) (hm : X.mg x = none) (hv : bootBuiltins x = some (.type n)) (ha : Go X Γ a d) (hr : kitB (tyD d) n = some (isiD d n) := by first | exact (kit_isi _).1 | exact (kit_isi _).2.1 | exact (kit_isi _).2.2.1 | exact (kit_isi _).2.2.2.1 | exact (kit_isi _).2.2.2.2) (hgi : Gl X "isinstance" := by rfl) (hg : Gl X x := by rfl)
    (hn : x ≠ "__name__" := by decide) (hd : (x == ("__debug__" : Str)) = false := by decide) (he : starEach [a, .Name x p2] X.env = (false, eval a X.env) :: starEach [.Name x p2] X.env := by rfl) (he2 : starEach [.Name x p2] X.env = (false, eval (.Name x p2) X.env) :: starEach [] X.env := by rfl) :
    Go X Γ (.Call (.Name "isinstance" p) [a, .Name x p2] [] pos) (.bool (isiD d n)) := go_isi ha hmi hm hv hr hgi hg hn hd he he2
/-! x op= e -/
def AugOk (op : Operator) (x y d : D) : Prop := match op, x, y with
  | .Add, .int i, .int j => d = .int (i + j) ∧ True
  | .Add, .str a, .str b => d = .str (a ++ b) ∧ a.length + b.length ≤ sizeLine
  | .Sub, .int i, .int j => d = .int (i - j) ∧ True
  | .Mult, .int i, .int j => d = .int (i * j) ∧ ((-(2 ^ 64) < i ∧ i < 2 ^ 64) ∨ (-(2 ^ 64) < j ∧ j < 2 ^ 64))
  | .BitAnd, .int i, .int j => d = .int (Builtin.bitAnd i j) ∧ True
  | .BitOr, .int i, .int j => d = .int (Builtin.bitOr i j) ∧ True
  | .BitXor, .int i, .int j => d = .int (Builtin.bitXor i j) ∧ True
  | _, _, _ => False
theorem aug_ar {op : Operator} {C : Int → Int → Prop} {g : Int → Int → Int} {i j : Int} (hc : C i j) {v w : V} {B H : Hp} (hB : Ex B H) (r1 : Dp X.K B v (.int i)) (r2 : Dp X.K B w (.int j)) {Q : VK} (q : EQ X B H (datP (.int (g i j))) Q) : rI C (fun i j => .int (g i j)) v w H Q := by
  rw [dp_int r1, dp_int r2]
  exact ⟨i, j, rfl, rfl, hc, q _ B H (.same hB) (Dp.int _)⟩
theorem aug_ar0 {op : Operator} {g : Int → Int → Int} {i j : Int} {v w : V} {B H : Hp} (hB : Ex B H) (r1 : Dp X.K B v (.int i)) (r2 : Dp X.K B w (.int j)) {Q : VK} (q : EQ X B H (datP (.int (g i j))) Q) : rI0 (fun i j => .int (g i j)) v w H Q := by
  rw [dp_int r1, dp_int r2]
  exact ⟨i, j, rfl, rfl, q _ B H (.same hB) (Dp.int _)⟩
theorem gx_aug (i : Nat) {x' : Str} {p' : Pos} {op : Operator} (hΓ : Γ[i]? = some (.dat x)) (he : Go X Γ e y) (h : N.nx (Γ.set i (.dat d))) (hN : X.N.Nodup) (ho : AugOk op x y d := by exact ⟨rfl, by walk_at "pside"⟩) (hi : X.N[i]? = some x' := by rfl) (hx : Loc X.env.scope x' := by first | exact .inl rfl | exact .inr rfl)
    (hf : X.fn x' = true ∨ X.env.scope.names.lookup x' = some .local := by first | exact .inl rfl | exact .inr rfl) : RnS X J N Γ (.AugAssign (.Name x' p') op e pos) := by
  cases op <;> cases x <;> cases y <;> (try exact ho.elim) <;> obtain ⟨rfl, ho⟩ := ho
  · exact rs_aug i hΓ he iop_add (fun v w B H hB r1 r2 Q q => aug_ar0 (op := .Add) hB r1 r2 q) h hN hi hx hf
  · exact rs_aug i hΓ he iop_add_str (fun v w B H hB r1 r2 Q q => by
      rw [dp_str r1, dp_str r2]
      exact ⟨_, _, rfl, rfl, ho, q _ B H (.same hB) (Dp.str _)⟩) h hN hi hx hf
  · exact rs_aug i hΓ he iop_sub (fun v w B H hB r1 r2 Q q => aug_ar0 (op := .Sub) hB r1 r2 q) h hN hi hx hf
  · exact rs_aug i hΓ he iop_mul (fun v w B H hB r1 r2 Q q => aug_ar (op := .Mult) (C := CMul) ho hB r1 r2 q) h hN hi hx hf
  · exact rs_aug i hΓ he iop_or (fun v w B H hB r1 r2 Q q => aug_ar0 (op := .BitOr) hB r1 r2 q) h hN hi hx hf
  · exact rs_aug i hΓ he iop_xor (fun v w B H hB r1 r2 Q q => aug_ar0 (op := .BitXor) hB r1 r2 q) h hN hi hx hf
  · exact rs_aug i hΓ he iop_and (fun v w B H hB r1 r2 Q q => aug_ar0 (op := .BitAnd) hB r1 r2 q) h hN hi hx hf
/-! more -/
theorem gog_lst {es : List Expr} {j : Nat} {n : Nat} {ts : List Nat} (hc : X.calm = true) (h : GoGs X Γ es ds Γ2 ts) (hl : ds.length = n := by rfl) (hn : (assignEach es X.env).length = n := by rfl) (hst : (assignEach es X.env).findIdx? (·.1) = none := by rfl) : GoG X Γ (.Tuple es j pos) (.list ds) Γ2 ts := .mk fun σ B H Fs v E r Q q => by
  obtain ⟨a, vs, rfl, h2, h3⟩ := dp_lst r
  exact toG (pg_unl hc sGs hn hst) ⟨a, vs, rfl, E.bh.sl h2, by rw [dps_len h3]; exact hl, h σ B H Fs vs E h3 Q q⟩
def cntI (ds : List D) (k : Int) : Nat := ds.countP fun d => match d with
  | .int z => z == k
  | _ => false
theorem cnt_ints (ns : List Int) (k : Int) : cntI (ns.map .int) k = ns.count k := by
  unfold cntI
  rw [List.countP_map]
  rfl
theorem gx_count {k : Int} {ap : Pos} (ho : Go X Γ a (.list ds)) (he : Go X Γ e (.int k)) (h : IsInts ds := by walk_at "pints") (hbase : attributeBase a "count" X.env (eval a X.env) = eval a X.env := by rfl)
    (hfew : ((backTo pos (starEach [e] X.env)).all (fun x => !x.1) && (backToKw pos (keywordEach [] X.env)).all (fun x => x.1.isSome)
      && decide ([e].length + ([] : List Keyword).length + (if ([] : List Keyword).isEmpty then 0 else 1) < 30)) = true := by rfl)
    (hline : (ap.endLine == pos.line) = true := by rfl) (hs : starEach [e] X.env = (false, eval e X.env) :: starEach [] X.env := by rfl) (hplain : (backTo pos (starEach [] X.env)).any (·.1) = false := by rfl) :
    Go X Γ (.Call (.Attribute a "count" ap) [e] [] pos) (.int (cntI ds k : Nat)) := .mk fun σ B H Fs E Q q => by
  obtain ⟨ns, rfl, _⟩ := ints_of h
  refine toE (pe_bm PySem.F.plainAttrs_list PySem.F.slot_list_count PySem.F.type_list_count mt_lcount sE (pa_cons sE pa_nil hs) hbase hfew hline hs hplain) (ho σ B H Fs E _ fun v B1 H1 n1 r1 => ?_)
  obtain ⟨l, vs, rfl, h2, h3⟩ := dp_lst r1
  refine ⟨.inl ⟨rfl, vs, n1.bh.sl h2⟩, he σ B1 H1 Fs (E.nw n1) _ fun w B2 H2 n2 r2 => ?_⟩
  have n := n1.trans n2
  rw [dps_ints_inv h3] at h2
  refine ⟨l, ns, k, rfl, by rw [dp_int r2], (n2.bb.trans n2.bh).sl h2, ?_⟩
  rw [← cnt_ints]
  exact q _ B2 H2 n (Dp.int _)
theorem rs_setL {i : Nat} {W : List D → Ow} {o kx : Expr} {tpos : Pos} {j : Int} {n : Nat} (ho : GoL X Γ o i ds W) (he : Go X Γ e d) (hk : Go X Γ kx (.int j)) (hj : ixN ds.length j = some n) (h : N.nx (Γ.set i (.ob (W (ds.set n d))))) (hi : i < Γ.length)
    (hs : swapsWithSole [.Subscript o kx tpos] e pos.line X.env = pure false := by rfl) (hw : swappedStores [.Subscript o kx tpos] e X.env = pure none := by rfl)
    (h1 : (assignEach [.Subscript o kx tpos] X.env).map (·.2) = [assign (.Subscript o kx tpos) X.env] := by rfl)
    (ha : ∀ v, assign (.Subscript o kx tpos) X.env v = (do
      let ov ← holding [v] (eval o X.env)
      let iv ← holding [v, ov] (eval kx X.env)
      standAt tpos
      holding [v, ov, iv] (setItem ov iv v)
      release [v, ov, iv] []) := by intro _; rfl) : RnS X J N Γ (.Assign [.Subscript o kx tpos] e pos) := .mk fun B0 σ B H Fs E j' =>
  toS (ps_asg sE (pg_sub sE sE set_list ha) hs hw h1) (he σ B H Fs E _ fun v B1 H1 n1 r1 => ho σ B1 H1 Fs (E.nw n1) _ fun p vs v' B2 H2 n2 hσ hp hH hd up => hk σ B2 H2 Fs ((E.nw n1).nw n2) _ fun w B3 H3 n3 r3 => by
    have n := (n1.trans n2).trans n3
    have sm : ∀ a ∈ Fs i, H3 a = H2 a := fun a ha => by
      cases q : H2 a with
      | none => exact absurd q (((E.nw n1).nw n2).fre i a ha).2
      | some o => exact n3.hh a o q
    refine ⟨p, vs, j, _, rfl, dp_int r3, n3.hh _ _ hH, by rw [dps_len hd]; exact hj, B3, _, _, (E.nw n).chg hi hσ hp (up B3 H3 n3.bb sm _ _ (dps_set (dpUp (n2.bb.trans n3.bb) r1) _ (dpsUp n3.bb hd))), (j'.nw n).upd ?_, h⟩
    rcases j'.fm i p hp with z | z
    · exact .inl z
    · exact .inr z.1)
/-! a comprehension given to a name -/
theorem rs_lcO (i : Nat) {x' : Str} {p' lpos : Pos} {elt : Expr} {ifs : List Expr} {scope : Scope} {α : Type} {xs : List α} {enc : α → D} {q : α → Bool} {f : α → D} (own : List (Str × Nat)) (hc : X.calm = true) (hN : X.N.Nodup) (hi : GoI X Γ tg iter (xs.map enc))
    (body : ∀ (k : Nat) x, xs[k]? = some x → ∃ Γ' ts, (Blk X scope fun X' => GoG X' (wipeG Γ (own.map (·.2))) tg (enc x) Γ' ts) ∧ (Blk X scope fun X' => GoTs X' Γ' ifs (q x)) ∧ (q x = true → Blk X scope fun X' => Go X' Γ' elt (f x)) ∧ (∀ t ∈ ts, t ∈ own.map (·.2)))
    (ok : blkC X.N X.env.scope scope own = true) (hsw : swapsWith (.ListComp elt [⟨tg, iter, ifs, 0⟩] scope lpos) (some (.Name x' p')) pos.line X.env = pure true) (h : N.nx (Γ.set i (.own ((xs.filter q).map f)))) (hz : xs.length < 1000000 := by walk_at "pside") (hx : X.N[i]? = some x' := by rfl) (hyl : X.env.scope.names.lookup x' = some .local := by rfl) (hs : ∀ x, foldedSetIterable iter X.env x = pure x := by intro _; rfl) :
    RnS X J N Γ (.Assign [.Name x' p'] (.ListComp elt [⟨tg, iter, ifs, 0⟩] scope lpos) pos) :=
  rs_ownLc i q f hi (ltZ hz) (fun k x hx => let ⟨Γ', ts, h1, h2, h3, h4⟩ := body k x hx; ⟨Γ', ts, h4, h1, h2, h3⟩) h hc hN (blkOk_by ok) hx hyl hsw hs
theorem rs_lc (i : Nat) {x' : Str} {p' lpos : Pos} {elt : Expr} {ifs : List Expr} {scope : Scope} {α : Type} {xs : List α} {enc : α → D} {q : α → Bool} {f : α → D} (own : List (Str × Nat)) (hc : X.calm = true) (hN : X.N.Nodup) (hi : GoI X Γ tg iter (xs.map enc))
    (body : ∀ (k : Nat) x, xs[k]? = some x → ∃ Γ' ts, (Blk X scope fun X' => GoG X' (wipeG Γ (own.map (·.2))) tg (enc x) Γ' ts) ∧ (Blk X scope fun X' => GoTs X' Γ' ifs (q x)) ∧ (q x = true → Blk X scope fun X' => Go X' Γ' elt (f x)) ∧ (∀ t ∈ ts, t ∈ own.map (·.2)))
    (ok : blkC X.N X.env.scope scope own = true) (hsw : swapsWith (.ListComp elt [⟨tg, iter, ifs, 0⟩] scope lpos) (some (.Name x' p')) pos.line X.env = pure true) (h : N.nx (Γ.set i (.dat (.list ((xs.filter q).map f))))) (hz : xs.length < 1000000 := by walk_at "pside") (hx : X.N[i]? = some x' := by rfl) (hyl : X.env.scope.names.lookup x' = some .local := by rfl) (hs : ∀ x, foldedSetIterable iter X.env x = pure x := by intro _; rfl) :
    RnS X J N Γ (.Assign [.Name x' p'] (.ListComp elt [⟨tg, iter, ifs, 0⟩] scope lpos) pos) := .mk fun B0 σ B H Fs E j =>
  toS (ps_setLc (own := own) hc hN hx hyl hsw sI (blkOk_by ok) (fun s H C cl fp => ⟨fun pins s' σ H v u Q I r h => (h s _ C cl fp) pins s' u I r⟩) (fun s H C cl fp => ⟨fun pins s' σ H Q I h => (h s _ C cl fp) pins s' I⟩) (fun s H C cl fp => ⟨fun pins s' σ H Q I h => (h s _ C cl fp) pins s' I⟩) hs)
    (lc_run q f hi (ltZ hz) (fun k x hx => let ⟨Γ', ts, h1, h2, h3, h4⟩ := body k x hx; ⟨Γ', ts, h4, h1, h2, h3⟩) E (fun x H1 => gName i x σ H1 (N.ends X J B0).nx) fun l us B2 H2 n hl hb hH hd => by
      obtain ⟨e1, e2⟩ := Nw.ice n.bh hb hH
      have n2 : Nw B H (upd B2 l (.lst us)) H2 := ⟨n.bb.trans e1, e2, n.hh, fun a h1 h2 => by
        have : a ≠ l := fun z => h2 (by rw [z]; exact hl)
        rw [upd_ne this]
        exact n.nu a h1 h2⟩
      exact ⟨_, _, _, (E.nw n2).setP (P := datP (.list ((xs.filter q).map f))) i (show Dp _ _ _ _ from .lst (.of upd_same) (dpsUp e1 hd)), (j.nw n2).sub fun _ _ z => off_sub z, h⟩)
theorem rs_lcM (i : Nat) {x' : Str} {p' lpos : Pos} {elt : Expr} {scope : Scope} {α : Type} {xs : List α} {enc : α → D} {f : α → D} (own : List (Str × Nat)) (hc : X.calm = true) (hN : X.N.Nodup) (hi : GoI X Γ tg iter (xs.map enc))
    (body : ∀ (k : Nat) x, xs[k]? = some x → ∃ Γ' ts, (Blk X scope fun X' => GoG X' (wipeG Γ (own.map (·.2))) tg (enc x) Γ' ts) ∧ (Blk X scope fun X' => Go X' Γ' elt (f x)) ∧ (∀ t ∈ ts, t ∈ own.map (·.2)))
    (ok : blkC X.N X.env.scope scope own = true) (hsw : swapsWith (.ListComp elt [⟨tg, iter, [], 0⟩] scope lpos) (some (.Name x' p')) pos.line X.env = pure true) (h : N.nx (Γ.set i (.dat (.list (xs.map f))))) (hz : xs.length < 1000000 := by walk_at "pside") (hx : X.N[i]? = some x' := by rfl) (hyl : X.env.scope.names.lookup x' = some .local := by rfl) (hs : ∀ x, foldedSetIterable iter X.env x = pure x := by intro _; rfl) :
    RnS X J N Γ (.Assign [.Name x' p'] (.ListComp elt [⟨tg, iter, [], 0⟩] scope lpos) pos) :=
  rs_lc i (q := fun _ => true) own hc hN hi (fun k x hx => let ⟨Γ', ts, h1, h2, h4⟩ := body k x hx; ⟨Γ', ts, h1, fun _ _ _ _ _ => goTs_nil, fun _ => h2, h4⟩) ok hsw (by rw [List.filter_eq_self.mpr fun _ _ => rfl]; exact h) hz hx hyl hs
theorem rs_lcMO (i : Nat) {x' : Str} {p' lpos : Pos} {elt : Expr} {scope : Scope} {α : Type} {xs : List α} {enc : α → D} {f : α → D} (own : List (Str × Nat)) (hc : X.calm = true) (hN : X.N.Nodup) (hi : GoI X Γ tg iter (xs.map enc))
    (body : ∀ (k : Nat) x, xs[k]? = some x → ∃ Γ' ts, (Blk X scope fun X' => GoG X' (wipeG Γ (own.map (·.2))) tg (enc x) Γ' ts) ∧ (Blk X scope fun X' => Go X' Γ' elt (f x)) ∧ (∀ t ∈ ts, t ∈ own.map (·.2)))
    (ok : blkC X.N X.env.scope scope own = true) (hsw : swapsWith (.ListComp elt [⟨tg, iter, [], 0⟩] scope lpos) (some (.Name x' p')) pos.line X.env = pure true) (h : N.nx (Γ.set i (.own (xs.map f)))) (hz : xs.length < 1000000 := by walk_at "pside") (hx : X.N[i]? = some x' := by rfl) (hyl : X.env.scope.names.lookup x' = some .local := by rfl) (hs : ∀ x, foldedSetIterable iter X.env x = pure x := by intro _; rfl) :
    RnS X J N Γ (.Assign [.Name x' p'] (.ListComp elt [⟨tg, iter, [], 0⟩] scope lpos) pos) :=
  rs_lcO i (q := fun _ => true) own hc hN hi (fun k x hx => let ⟨Γ', ts, h1, h2, h4⟩ := body k x hx; ⟨Γ', ts, h1, fun _ _ _ _ _ => goTs_nil, fun _ => h2, h4⟩) ok hsw (by rw [List.filter_eq_self.mpr fun _ _ => rfl]; exact h) hz hx hyl hs
end
/-! ### lists of small ints, by place -/
def nthI (ds : List D) (i : Int) : Int := match atI ds i with
  | some (.int z) => z
  | _ => 0
theorem IntsD.at {p : Int → Prop} {n : Nat} {ds : List D} {i : Int} (h : IntsD p n ds) (hi : 0 ≤ i ∧ i < (n : Int)) : atI ds i = some (.int (nthI ds i)) := by
  obtain ⟨ns, rfl, h1, h2⟩ := h
  have hl : i.toNat < ns.length := by omega
  have e : atI (ns.map PyData.int) i = some (.int ns[i.toNat]) := atI_get' (k := i.toNat) (by rw [List.getElem?_map, List.getElem?_eq_getElem hl]; rfl) (by omega)
  rw [e]
  unfold nthI
  rw [e]
theorem IntsD.has {p : Int → Prop} {n : Nat} {ds : List D} {i : Int} (h : IntsD p n ds) (hi : 0 ≤ i ∧ i < (n : Int)) : p (nthI ds i) := by
  have e := h.at hi
  obtain ⟨ns, rfl, h1, h2⟩ := h
  have hl : i.toNat < ns.length := by omega
  have e2 : atI (ns.map PyData.int) i = some (.int ns[i.toNat]) := atI_get' (k := i.toNat) (by rw [List.getElem?_map, List.getElem?_eq_getElem hl]; rfl) (by omega)
  rw [e] at e2
  have e3 := Option.some.inj e2
  injection e3 with e3
  rw [e3]
  exact h2 _ (List.getElem_mem hl)
/-! ### the law -/
abbrev spLaw (K : PySem.W.Frag) : Sp := spF K (fun ns : List Int => ns.length ≤ 63) (fun ns => [datP (.list (ns.map .int))]) fun _ => datP (.bool true)
theorem law_sp {K : PySem.W.Frag} {H : Hp} {a : Addr} {ns : List Int} {E : XK} (hl : ns.length ≤ 63) (hS : SqL K H a (ns.map V.int)) : spLaw K [.ref a] H (fun v _ => v = .bl true) E :=
  ⟨ns, H, hl, Ex.refl _, .cons (show Dp _ _ _ _ from .lst hS (dps_ints ns)) .nil, fun _ _ _ _ r => dp_bl r⟩
local macro_rules | `(tactic| walk_at "pix") => `(tactic| first | exact rfl | assumption | exact atI_nat (by assumption) | exact atI_get' (by assumption) (by omega))
local macro_rules | `(tactic| walk_at "ptru") => `(tactic| exact ⟨fun _ h => (nomatch h), fun _ h => (nomatch h)⟩)
end PL

set_option maxHeartbeats 2000000
namespace PL
open PySem PySem.Spec PyProof.Rows L2
section
variable {X : Cx} {J : Jd} {N : Nd} {Γ : Ga} {sts : List Stmt}
theorem rn_is (i : Nat) {s s' : Sl} (hΓ : Γ[i]? = some s) (e : s = s') (h : Rn X J N (Γ.set i s') sts) : Rn X J N Γ sts := by
  subst e
  have : Γ.set i s = Γ := by
    refine List.ext_getElem? fun j => ?_
    rw [List.getElem?_set]
    by_cases q : i = j
    · subst q
      have := (List.getElem?_eq_some_iff.mp hΓ).1
      rw [if_pos rfl, if_pos this, hΓ]
    · rw [if_neg q]
  rw [this] at h
  exact h
end
theorem take_push {α : Type} {l : List α} {j : Nat} {x : α} (h : l[j]? = some x) : l.take (j + 1) = l.take j ++ [x] := by
  rw [List.take_add_one, h]
  rfl
end PL

set_option maxHeartbeats 2000000
namespace PL
open PySem PySem.Spec PyProof.Rows L2
/-! ### classes -/
def ClsAt (K : PySem.W.Frag) (x : Str) (C : Addr) : Prop := PySem.W.nsIn K mainGlobals x = some (some (.ref C))
theorem ClsAt.eq {K : PySem.W.Frag} {x : Str} {C C' : Addr} (h : ClsAt K x C) (h' : ClsAt K x C') : C = C' := by
  have := h.symm.trans h'
  cases this
  rfl
/-! ### an object that is not changed any more -/
inductive FlP (K : PySem.W.Frag) (B : Hp) : List (Str × V) → List (Str × Mn) → Prop
  | nil : FlP K B [] []
  | cons {f : Str} {v : V} {vs : List (Str × V)} {P : Mn} {Ps : List (Str × Mn)} : P.p K B v → FlP K B vs Ps → FlP K B ((f, v) :: vs) ((f, P) :: Ps)
theorem FlP.up {K : PySem.W.Frag} {B B' : Hp} (e : Ex B B') : ∀ {vs : List (Str × V)} {Ps : List (Str × Mn)}, FlP K B vs Ps → FlP K B' vs Ps
  | _, _, .nil => .nil
  | _, _, .cons (P := P) h t => .cons (P.up e h) (t.up e)
theorem FlP.get {K : PySem.W.Frag} {B : Hp} {f : Str} {P : Mn} : ∀ {vs : List (Str × V)} {Ps : List (Str × Mn)}, FlP K B vs Ps → Ps.lookup f = some P → ∃ v, vs.lookup f = some v ∧ P.p K B v
  | _, _, .nil, h => nomatch h
  | _, _, .cons (f := g) (v := v) h t, e => by
    rw [List.lookup_cons] at e ⊢
    by_cases q : (f == g) = true
    · rw [q] at e ⊢
      cases e
      exact ⟨v, rfl, h⟩
    · have q : (f == g) = false := by simpa using q
      rw [q] at e ⊢
      exact t.get e
theorem FlP.none {K : PySem.W.Frag} {B : Hp} {f : Str} : ∀ {vs : List (Str × V)} {Ps : List (Str × Mn)}, FlP K B vs Ps → Ps.lookup f = none → vs.lookup f = none
  | _, _, .nil, _ => rfl
  | _, _, .cons (f := g) h t, e => by
    rw [List.lookup_cons] at e ⊢
    by_cases q : (f == g) = true
    · rw [q] at e
      cases e
    · have q : (f == g) = false := by simpa using q
      rw [q] at e ⊢
      exact t.none e
def insP (x : Str) (Ps : List (Str × Mn)) : Mn := ⟨fun K B v => ∃ C a dx vs, ClsAt K x C ∧ v = .ref a ∧ B a = some (.ins C dx vs) ∧ FlP K B vs Ps, fun e ⟨C, a, dx, vs, h1, h2, h3, h4⟩ => ⟨C, a, dx, vs, h1, h2, e _ _ h3, h4.up e⟩⟩
/-! ### an object of our own -/
inductive FlO (K : PySem.W.Frag) (B H : Hp) : List (Str × V) → List (Str × Sl) → List Addr → Prop
  | nil : FlO K B H [] [] []
  | pr {f : Str} {v : V} {vs : List (Str × V)} {P : Mn} {Ss : List (Str × Sl)} {F : List Addr} : P.p K B v → FlO K B H vs Ss F → FlO K B H ((f, v) :: vs) ((f, .pr P) :: Ss) F
  | ob {f : Str} {v : V} {vs : List (Str × V)} {W : Ow} {F1 : List Addr} {Ss : List (Str × Sl)} {F : List Addr} : W.p K B H v F1 → (∀ a ∈ F1, a ∉ F) → FlO K B H vs Ss F → FlO K B H ((f, v) :: vs) ((f, .ob W) :: Ss) (F1 ++ F)
theorem FlO.upB {K : PySem.W.Frag} {B B' H : Hp} (e : Ex B B') : ∀ {vs : List (Str × V)} {Ss : List (Str × Sl)} {F : List Addr}, FlO K B H vs Ss F → FlO K B' H vs Ss F
  | _, _, _, .nil => .nil
  | _, _, _, .pr (P := P) h t => .pr (P.up e h) (t.upB e)
  | _, _, _, .ob (W := W) h d t => .ob (W.upB e h) d (t.upB e)
theorem FlO.loc {K : PySem.W.Frag} {B H H' : Hp} : ∀ {vs : List (Str × V)} {Ss : List (Str × Sl)} {F : List Addr}, (∀ a ∈ F, H' a = H a) → FlO K B H vs Ss F → FlO K B H' vs Ss F
  | _, _, _, _, .nil => .nil
  | _, _, _, e, .pr h t => .pr h (t.loc e)
  | _, _, _, e, .ob (W := W) h d t => .ob (W.loc (fun a ha => e a (List.mem_append_left _ ha)) h) d (t.loc fun a ha => e a (List.mem_append_right _ ha))
theorem FlO.dom {K : PySem.W.Frag} {B H : Hp} : ∀ {vs : List (Str × V)} {Ss : List (Str × Sl)} {F : List Addr}, FlO K B H vs Ss F → ∀ a ∈ F, H a ≠ none
  | _, _, _, .nil, _, h => nomatch h
  | _, _, _, .pr h t, a, ha => t.dom a ha
  | _, _, _, .ob (W := W) h d t, a, ha => by
    rcases List.mem_append.mp ha with q | q
    · exact W.dom h a q
    · exact t.dom a q
theorem FlO.none {K : PySem.W.Frag} {B H : Hp} {f : Str} : ∀ {vs : List (Str × V)} {Ss : List (Str × Sl)} {F : List Addr}, FlO K B H vs Ss F → Ss.lookup f = none → vs.lookup f = none
  | _, _, _, .nil, _ => rfl
  | _, _, _, .pr (f := g) h t, e => by
    rw [List.lookup_cons] at e ⊢
    by_cases q : (f == g) = true
    · rw [q] at e
      cases e
    · have q : (f == g) = false := by simpa using q
      rw [q] at e ⊢
      exact t.none e
  | _, _, _, .ob (f := g) h d t, e => by
    rw [List.lookup_cons] at e ⊢
    by_cases q : (f == g) = true
    · rw [q] at e
      cases e
    · have q : (f == g) = false := by simpa using q
      rw [q] at e ⊢
      exact t.none e
def insO (x : Str) (Ss : List (Str × Sl)) : Ow where
  p := fun K B H v F => ∃ C a dx vs F', ClsAt K x C ∧ v = .ref a ∧ F = a :: F' ∧ a ∉ F' ∧ H a = some (.ins C dx vs) ∧ FlO K B H vs Ss F'
  upB := fun e ⟨C, a, dx, vs, F', h1, h2, h3, h4, h5, h6⟩ => ⟨C, a, dx, vs, F', h1, h2, h3, h4, h5, h6.upB e⟩
  loc := fun e ⟨C, a, dx, vs, F', h1, h2, h3, h4, h5, h6⟩ => ⟨C, a, dx, vs, F', h1, h2, h3, h4, (e a (by rw [h3]; exact List.mem_cons_self)).trans h5, h6.loc fun b hb => e b (by rw [h3]; exact List.mem_cons_of_mem _ hb)⟩
  dom := fun ⟨C, a, dx, vs, F', h1, h2, h3, h4, h5, h6⟩ b hb => by
    rw [h3] at hb
    rcases List.mem_cons.mp hb with rfl | hb
    · rw [h5]
      exact fun z => nomatch z
    · exact h6.dom b hb
/-- a thing with its address -/
def pinO (W : Ow) (v0 : V) : Ow where
  p := fun K B H v F => v = v0 ∧ W.p K B H v F
  upB := fun e ⟨h1, h2⟩ => ⟨h1, W.upB e h2⟩
  loc := fun e ⟨h1, h2⟩ => ⟨h1, W.loc e h2⟩
  dom := fun ⟨_, h2⟩ => W.dom h2
/-! ### a thing of our own, changed -/
structure Mu (F : List Addr) (B H B2 H2 : Hp) : Prop where
  bb : Ex B B2
  bh : Ex B2 H2
  hh : ∀ a o, H a = some o → a ∉ F → H2 a = some o
  hd : ∀ a, H a ≠ none → H2 a ≠ none
  nu : ∀ a, B a = none → H a ≠ none → B2 a = none
theorem Nw.mu {B H B2 H2 : Hp} {F : List Addr} (n : Nw B H B2 H2) : Mu F B H B2 H2 := ⟨n.bb, n.bh, fun a o h _ => n.hh a o h, fun a h z => h (n.hh.none z), n.nu⟩
theorem Nw.thenMu {B H B1 H1 B2 H2 : Hp} {F : List Addr} (n : Nw B H B1 H1) (m : Mu F B1 H1 B2 H2) : Mu F B H B2 H2 :=
  ⟨n.bb.trans m.bb, m.bh, fun a o h hF => m.hh a o (n.hh a o h) hF, fun a h => m.hd a fun z => h (n.hh.none z), fun a h1 h2 => m.nu a (n.nu a h1 h2) fun z => h2 (n.hh.none z)⟩
theorem Mu.thenNw {B H B1 H1 B2 H2 : Hp} {F : List Addr} (m : Mu F B H B1 H1) (n : Nw B1 H1 B2 H2) : Mu F B H B2 H2 :=
  ⟨m.bb.trans n.bb, n.bh, fun a o h hF => n.hh a o (m.hh a o h hF), fun a h z => m.hd a h (n.hh.none z), fun a h1 h2 => n.nu a (m.nu a h1 h2) (m.hd a h2)⟩
section
variable {K : PySem.W.Frag} {B H B2 H2 : Hp} {σ : L2.St} {Γ : Ga} {Fs : Nat → List Addr} {W : Ow} {J : Jd} {B0 : Hp}
theorem En.mu {i : Nat} {v : V} {F2 : List Addr} (E : En K B H σ Γ Fs) (m : Mu (Fs i) B H B2 H2) (hi : i < Γ.length) (hσ : σ[i]? = some (some v)) (hW : W.p K B2 H2 v F2) (hF : ∀ a ∈ F2, B2 a = none ∧ (a ∈ Fs i ∨ H a = none)) :
    En K B2 H2 σ (Γ.set i (.ob W)) (off Fs i F2) where
  bh := m.bh
  len := by rw [List.length_set, E.len]
  at_ := fun j s hs => by
    by_cases e : j = i
    · subst e
      rw [List.getElem?_set_self hi] at hs
      cases hs
      rw [off_same]
      exact ⟨v, hσ, hW⟩
    · rw [List.getElem?_set_ne (Ne.symm e)] at hs
      rw [off_ne e]
      have := E.at_ j s hs
      cases s with
      | any => trivial
      | pr P =>
        obtain ⟨v, h1, h2⟩ := this
        exact ⟨v, h1, P.up m.bb h2⟩
      | ob P =>
        obtain ⟨v, h1, h2⟩ := this
        refine ⟨v, h1, P.loc (fun a ha => ?_) (P.upB m.bb h2)⟩
        cases q : H a with
        | none => exact absurd q (E.fre j a ha).2
        | some o => exact m.hh a o q fun z => e (E.dis j i a ha z)
  fre := fun j a ha => by
    by_cases e : j = i
    · subst e
      rw [off_same] at ha
      exact ⟨(hF a ha).1, W.dom hW a ha⟩
    · rw [off_ne e] at ha
      exact ⟨m.nu a (E.fre j a ha).1 (E.fre j a ha).2, m.hd a (E.fre j a ha).2⟩
  dis := fun j k a h1 h2 => by
    have key : ∀ j, j ≠ i → a ∈ off Fs i F2 i → a ∈ off Fs i F2 j → False := fun j hj h1 h2 => by
      rw [off_same] at h1
      rw [off_ne hj] at h2
      rcases (hF a h1).2 with z | z
      · exact hj (E.dis j i a h2 z)
      · exact (E.fre j a h2).2 z
    by_cases e1 : j = i
    · by_cases e2 : k = i
      · rw [e1, e2]
      · subst e1
        exact (key k e2 h1 h2).elim
    · by_cases e2 : k = i
      · subst e2
        exact (key j e1 h2 h1).elim
      · rw [off_ne e1] at h1
        rw [off_ne e2] at h2
        exact E.dis j k a h1 h2
theorem Jn.mu {i : Nat} {F2 : List Addr} (j : Jn J B0 B H Fs) (m : Mu (Fs i) B H B2 H2) (hF : ∀ a ∈ F2, a ∈ Fs i ∨ H a = none) : Jn J B0 B2 H2 (off Fs i F2) where
  b0 := j.b0.trans m.bb
  nb := fun a h1 h2 => by
    cases q : B a with
    | some o => exact j.nb a (by rw [q]; exact fun z => nomatch z) h2
    | none =>
      cases r : J.H a with
      | none => rfl
      | some o => exact absurd (m.nu a q (j.h1 a (by rw [r]; exact fun z => nomatch z))) h1
  h0 := fun a o h1 h2 => m.hh a o (j.h0 a o h1 h2) fun z => by
    rcases j.fm i a z with q | q
    · rw [q] at h1
      cases h1
    · exact h2 q.1
  h1 := fun a h => m.hd a (j.h1 a h)
  fm := fun k a ha => by
    by_cases e : k = i
    · subst e
      rw [off_same] at ha
      rcases hF a ha with z | z
      · exact j.fm k a z
      · left
        cases q : J.H a with
        | none => rfl
        | some o => exact absurd z (j.h1 a (by rw [q]; exact fun z => nomatch z))
    · rw [off_ne e] at ha
      exact j.fm k a ha
end
/-! ### a thing of our own, read on the way -/
def FzM (W : Ow) (P : Mn) : Prop := ∀ K B H v F, W.p K B H v F → (∀ a ∈ F, B a = none) → P.p K (ovl B H F) v
theorem fzM_of {W : Ow} {d : D} (h : Fz W d) : FzM W (datP d) := h
theorem fzM_pin {W : Ow} {P : Mn} {v0 : V} (h : FzM W P) : FzM (pinO W v0) P := fun K B H v F hW hF => h K B H v F hW.2 hF
theorem ovl_sub {B H : Hp} {F F' : List Addr} (h : ∀ a ∈ F, a ∈ F') (hF : ∀ a ∈ F', B a = none) : Ex (ovl B H F) (ovl B H F') := fun a o e => by
  by_cases q : a ∈ F
  · rw [ovl_in q] at e
    rw [ovl_in (h a q)]
    exact e
  · rw [ovl_out q] at e
    by_cases q2 : a ∈ F'
    · rw [hF a q2] at e
      cases e
    · rw [ovl_out q2]
      exact e
inductive FzF : List (Str × Sl) → List (Str × Mn) → Prop
  | nil : FzF [] []
  | pr {f : Str} {P : Mn} {Ss : List (Str × Sl)} {Ps : List (Str × Mn)} : FzF Ss Ps → FzF ((f, .pr P) :: Ss) ((f, P) :: Ps)
  | ob {f : Str} {W : Ow} {P : Mn} {Ss : List (Str × Sl)} {Ps : List (Str × Mn)} : FzM W P → FzF Ss Ps → FzF ((f, .ob W) :: Ss) ((f, P) :: Ps)
theorem flO_fz {K : PySem.W.Frag} {B H : Hp} {G : List Addr} (hG : ∀ a ∈ G, B a = none) : ∀ {vs : List (Str × V)} {Ss : List (Str × Sl)} {Ps : List (Str × Mn)} {F : List Addr}, FlO K B H vs Ss F → FzF Ss Ps → (∀ a ∈ F, a ∈ G) → FlP K (ovl B H G) vs Ps
  | _, _, _, _, .nil, .nil, _ => .nil
  | _, _, _, _, .pr (P := P) h t, .pr z, hF => .cons (P.up (ovl_ex hG) h) (flO_fz hG t z hF)
  | _, _, _, _, .ob (F1 := F1) h d t, .ob (P := P) w z, hF => .cons (P.up (ovl_sub (fun a ha => hF a (List.mem_append_left _ ha)) hG) (w _ _ _ _ _ h fun a ha => hG a (hF a (List.mem_append_left _ ha)))) (flO_fz hG t z fun a ha => hF a (List.mem_append_right _ ha))
theorem fz_ins {x : Str} {Ss : List (Str × Sl)} {Ps : List (Str × Mn)} (z : FzF Ss Ps) : FzM (insO x Ss) (insP x Ps) := fun K B H v F h hF => by
  obtain ⟨C, a, dx, vs, F', h1, h2, h3, h4, h5, h6⟩ := h
  exact ⟨C, a, dx, vs, h1, h2, by rw [ovl_in (by rw [h3]; exact List.mem_cons_self)]; exact h5, flO_fz hF h6 z fun b hb => by rw [h3]; exact List.mem_cons_of_mem _ hb⟩
section
variable {K : PySem.W.Frag} {B H B2 H2 : Hp} {σ : L2.St} {Γ : Ga} {Fs : Nat → List Addr} {W : Ow} {P : Mn}
theorem En.iceM {i : Nat} (E : En K B H σ Γ Fs) (hΓ : Γ[i]? = some (.ob W)) (hz : FzM W P) : En K (ovl B H (Fs i)) H σ (Γ.set i (.pr P)) (off Fs i []) := by
  obtain ⟨v, h1, h2⟩ := E.at_ i _ hΓ
  have e1 : Ex B (ovl B H (Fs i)) := ovl_ex fun a ha => (E.fre i a ha).1
  refine ⟨ovl_exH E.bh, by rw [List.length_set, E.len], fun j s hs => ?_, fun j b hb' => ?_, fun j k b h1 h2 => E.dis j k b (off_sub h1) (off_sub h2)⟩
  · by_cases e : j = i
    · subst e
      have hl : j < Γ.length := by
        by_cases hl : j < Γ.length
        · exact hl
        · rw [List.getElem?_eq_none (by omega)] at hΓ
          cases hΓ
      rw [List.getElem?_set_self hl] at hs
      cases hs
      exact ⟨v, h1, hz _ _ _ _ _ h2 fun a ha => (E.fre j a ha).1⟩
    · rw [List.getElem?_set_ne (Ne.symm e)] at hs
      rw [off_ne e]
      have := E.at_ j s hs
      cases s with
      | any => trivial
      | pr P =>
        obtain ⟨v, h1, h2⟩ := this
        exact ⟨v, h1, P.up e1 h2⟩
      | ob P =>
        obtain ⟨v, h1, h2⟩ := this
        exact ⟨v, h1, P.upB e1 h2⟩
  · have hj : j ≠ i := fun e => by
      rw [e, off_same] at hb'
      cases hb'
    rw [off_ne hj] at hb'
    refine ⟨?_, (E.fre j b hb').2⟩
    have ne : b ∉ Fs i := fun z => hj (E.dis j i b hb' z)
    rw [ovl_out ne]
    exact (E.fre j b hb').1
end
theorem flat_any {K : PySem.W.Frag} {B B' : Hp} {v : V} {d : D} (h : Dp K B v d) (hd : flatD d = true) : Dp K B' v d := by
  cases h with
  | non => exact .non
  | bl b => exact .bl b
  | int i => exact .int i
  | str y => exact .str y
  | _ => cases hd
theorem flats_any {K : PySem.W.Frag} {B B' : Hp} : ∀ {vs : List V} {ds : List D}, DpAll K B vs ds → ds.all flatD = true → DpAll K B' vs ds
  | _, _, .nil, _ => .nil
  | _, _, .cons h t, e => by
    rw [List.all_cons, Bool.and_eq_true] at e
    exact .cons (flat_any h e.1) (flats_any t e.2)
section
variable {X : Cx} {J : Jd} {N : Nd} {Γ Γ1 Γ2 : Ga} {e a b c tg iter : Expr} {es : List Expr} {st : Stmt} {sts rest body : List Stmt} {P : Mn} {W : Ow} {d : D} {ds : List D} {pos : Pos} {k : Bool}
theorem go_thF (i : Nat) (hΓ : Γ[i]? = some (.ob W)) (hz : FzM W P) (h : Go X (Γ.set i (.pr P)) e d) (hd : flatD d = true := by rfl) : Go X Γ e d := .mk fun σ B H Fs E Q q =>
  h σ _ H _ (E.iceM hΓ hz) Q fun v B2 H2 n r => q _ B H2 ⟨.refl _, E.bh.trans n.hh, n.hh, fun _ h _ => h⟩ (flat_any r hd)
theorem goT_thM (i : Nat) (hΓ : Γ[i]? = some (.ob W)) (hz : FzM W P) (h : GoT X (Γ.set i (.pr P)) e k) : GoT X Γ e k := .mk fun σ B H Fs E Q q =>
  h σ _ H _ (E.iceM hΓ hz) Q fun B2 H2 n => q B H2 ⟨.refl _, E.bh.trans n.hh, n.hh, fun _ h _ => h⟩
theorem goN_thM (i : Nat) (hΓ : Γ[i]? = some (.ob W)) (hz : FzM W P) (h : GoN X (Γ.set i (.pr P)) e ds) (hd : ds.all flatD = true) : GoN X Γ e ds := .mk fun σ B H Fs E Q q =>
  h σ _ H _ (E.iceM hΓ hz) Q fun p vs B2 H2 n hp hb hH hd2 => q p vs B H2 ⟨.refl _, E.bh.trans n.hh, n.hh, fun _ h _ => h⟩ hp (E.bh.none hp) hH (flats_any hd2 hd)
/-! ### fields -/
structure ClsOk (K : PySem.W.Frag) (x : Str) (fl : List Str) : Prop where
  cl : ∀ C, ClsAt K x C → Cls K C
  na : ∀ C f, ClsAt K x C → f ∈ fl → NoAttr K C f
theorem go_fld {x f : Str} {Ps : List (Str × Mn)} {fl : List Str} (O : ClsOk X.K x fl) (h : GoP X Γ e (insP x Ps)) (hf : Ps.lookup f = some P) (hm : f ∈ fl := by first | exact List.mem_cons_self | decide) (hb : attributeBase e f X.env (eval e X.env) = eval e X.env := by rfl) :
    GoP X Γ (.Attribute e f pos) P := .mk fun σ B H Fs E Q q =>
  toE (pe_fld sE hb) (h σ B H Fs E _ fun v B1 H1 n1 ⟨C, a, dx, vs, h1, h2, h3, h4⟩ => by
    obtain ⟨u, hu, hp⟩ := h4.get hf
    exact ⟨a, C, dx, vs, u, h2, n1.bh _ _ h3, O.cl C h1, O.na C f h1 hm, hu, q u B1 H1 n1 hp⟩)
/-! ### an expression that changes the thing of the slot i -/
structure GoM (X : Cx) (Γ : Ga) (e : Expr) (i : Nat) (W : Ow) (P : Mn) : Prop where
  run : ∀ σ B H Fs, En X.K B H σ Γ Fs → ∀ Q : VK, (∀ v v0 B2 H2 F2, Mu (Fs i) B H B2 H2 → P.p X.K B2 v → σ[i]? = some (some v0) → W.p X.K B2 H2 v0 F2 → (∀ a ∈ F2, B2 a = none ∧ (a ∈ Fs i ∨ H a = none)) → Q v H2) → wpE X e σ H Q
structure GoTM (X : Cx) (Γ : Ga) (e : Expr) (i : Nat) (W : Ow) (k : Bool) : Prop where
  run : ∀ σ B H Fs, En X.K B H σ Γ Fs → ∀ Q : Bool → Hp → Prop, (∀ v0 B2 H2 F2, Mu (Fs i) B H B2 H2 → σ[i]? = some (some v0) → W.p X.K B2 H2 v0 F2 → (∀ a ∈ F2, B2 a = none ∧ (a ∈ Fs i ∨ H a = none)) → Q k H2) → wpT X e σ H Q
theorem rs_exprM {i : Nat} (he : GoM X Γ e i W P) (hi : i < Γ.length) (h : N.nx (Γ.set i (.ob W))) (hs : swapsWith e none pos.line X.env = pure false := by rfl) : RnS X J N Γ (.Expr e pos) := .mk fun B0 σ B H Fs E j =>
  toS (ps_expr sE hs) (he.run σ B H Fs E _ fun v v0 B2 H2 F2 m r hσ hW hF => ⟨B2, _, _, E.mu m hi hσ hW hF, j.mu m fun a ha => (hF a ha).2, h⟩)
theorem rs_setM {i : Nat} (k : Nat) {x : Str} {p' : Pos} (he : GoM X Γ e i W P) (hi : i < Γ.length) (h : N.nx ((Γ.set i (.ob W)).set k (.pr P))) (hN : X.N.Nodup) (hk : X.N[k]? = some x := by rfl) (hx : Loc X.env.scope x := by first | exact .inl rfl | exact .inr rfl)
    (hs : swapsWith e (some (.Name x p')) pos.line X.env = pure false := by rfl) (hf : X.fn x = true ∨ X.env.scope.names.lookup x = some .local := by first | exact .inl rfl | exact .inr rfl) : RnS X J N Γ (.Assign [.Name x p'] e pos) := .mk fun B0 σ B H Fs E j =>
  toS (ps_set hN hk hx sE hs hf) (he.run σ B H Fs E _ fun v v0 B2 H2 F2 m r hσ hW hF => ⟨B2, _, _, (E.mu m hi hσ hW hF).setP k r, (j.mu m fun a ha => (hF a ha).2).sub fun _ _ z => off_sub z, h⟩)
theorem rs_ifM {i : Nat} {th el : List Stmt} (hc : GoTM X Γ c i W k) (hi : i < Γ.length) (h1 : k = true → Rn X J N (Γ.set i (.ob W)) th) (h2 : k = false → Rn X J N (Γ.set i (.ob W)) el) : RnS X J N Γ (.If c th el pos) := .mk fun B0 σ B H Fs E j =>
  toS (ps_if sT sSs sSs) (hc.run σ B H Fs E _ fun v0 B2 H2 F2 m hσ hW hF => by
    cases k with
    | true => exact iteT (h1 rfl B0 σ B2 H2 _ (E.mu m hi hσ hW hF) (j.mu m fun a ha => (hF a ha).2))
    | false => exact iteF (h2 rfl B0 σ B2 H2 _ (E.mu m hi hσ hW hF) (j.mu m fun a ha => (hF a ha).2)))
theorem goTM_is {i : Nat} {k' : Bool} (h : GoTM X Γ c i W k) (e : k = k') : GoTM X Γ c i W k' := e ▸ h
/-- e is not None -/
theorem goTM_notN {i : Nat} {j pos'} (h : GoM X Γ e i W (datP d)) (hm : behindInMarks .IsNot (.Constant .none j pos') = false := by first | exact nobehind _ (by decide) (by decide) | rfl) : GoTM X Γ (.Compare e [.IsNot] [.Constant .none j pos'] pos) i W (!isNonD d) := .mk fun σ B H Fs E Q q =>
  toT (pt_cmp (pc_notN sE) hm) (h.run σ B H Fs E _ fun v v0 B2 H2 F2 m r hσ hW hF => by
    have e1 : decide (v = V.non) = isNonD d := by
      have r : Dp X.K B2 v d := r
      cases r <;> rfl
    refine ⟨_, rfl, ?_⟩
    show Q (!decide (v = V.non)) H2
    rw [e1]
    exact q v0 B2 H2 F2 m hσ hW hF)
end
end PL

set_option maxHeartbeats 2000000
namespace PL
open PySem PySem.Spec PyProof.Rows L2
/-! ### promises -/
/-- the first argument is changed -/
def spW (K : PySem.W.Frag) (S : Ow → List Mn → Mn → Ow → Prop) : Sp := fun vs H Q _ => ∃ (W : Ow) (Ps : List Mn) (R : Mn) (W' : Ow) (B : Hp) (v0 : V) (us : List V) (F : List Addr), S W Ps R W' ∧ vs = v0 :: us ∧ Ex B H ∧ W.p K B H v0 F ∧ (∀ a ∈ F, B a = none) ∧ MnAll K B us Ps ∧
  ∀ v B2 H2 F2, Mu F B H B2 H2 → R.p K B2 v → W'.p K B2 H2 v0 F2 → (∀ a ∈ F2, B2 a = none ∧ (a ∈ F ∨ H a = none)) → Q v H2
/-- an error of the class x with the field f is raised, nothing is changed -/
def spEx (K : PySem.W.Frag) (S : List Mn → Str → Str → V → Prop) : Sp := fun vs H _ E => ∃ (Ps : List Mn) (x f : Str) (v : V) (B : Hp), S Ps x f v ∧ Ex B H ∧ MnAll K B vs Ps ∧
  ∀ C d H2, ClsAt K x C → Ex H H2 → H d = none → H2 d = some (.xd [(f, v)]) → E (.ref C) (some d) H2
def orSp (a b : Sp) : Sp := fun vs H Q E => a vs H Q E ∨ b vs H Q E
def noN : List Mn → Str → Str → V → Prop := fun _ _ _ _ => False
/-- the def st of the class own is its method m -/
structure Mtd (K : PySem.W.Frag) (own m qual : Str) (st : Stmt) (ps : List Str) : Prop where
  ex : ∃ C g fd, ClsAt K own C ∧ Cls K C ∧ Meth K C m g ∧ Fun K m qual st g fd ∧ Binds K fd ps []
/-- the method m of the class own keeps its promise -/
structure CalM (P : Program) (w : World) (K : PySem.W.Frag) (mg : Str → Option Value) (base : Heap) (CX : CXT) (own m : Str) (ps : List Str) (k : Nat) (sp : Sp) : Prop where
  ex : ∃ C g fd, ClsAt K own C ∧ Cls K C ∧ Meth K C m g ∧ FnOk P w K mg base CX k g fd ps sp ∧ Binds K fd ps []
/-- what stands at the name x keeps its promise -/
structure CalF (P : Program) (w : World) (K : PySem.W.Frag) (mg : Str → Option Value) (base : Heap) (CX : CXT) (x : Str) (ps : List Str) (k : Nat) (sp : Sp) : Prop where
  ex : ∃ f fd, FnOk P w K mg base CX k f fd ps sp ∧ mg x = some (.ref f) ∧ PySem.W.keepIn K (.ref f) = true ∧ Binds K fd ps []
theorem Cal.toF {P : Program} {w : World} {K : PySem.W.Frag} {mg : Str → Option Value} {base : Heap} {x : Str} {ps : List Str} {k : Nat} {S : List Mn → Mn → Prop} (h : Cal P w K mg base x ps k S) : CalF P w K mg base CX0 x ps k (spS K S) := ⟨h.ex⟩
def botM : Mn := ⟨fun _ _ _ => False, fun _ h => h⟩
/-! ### the entry with a thing that may be changed -/
def entryW (W : Ow) (Ps : List Mn) (n : Nat) : Ga := .ob W :: (Ps.map Sl.pr ++ List.replicate (n - 1 - Ps.length) .any)
theorem en_entryW {K : PySem.W.Frag} {B H : Hp} {v0 : V} {us : List V} {W : Ow} {Ps : List Mn} {L : List Str} {F : List Addr} (hB : Ex B H) (hW : W.p K B H v0 F) (hF : ∀ a ∈ F, B a = none) (h : MnAll K B us Ps) (hl : 0 < L.length) :
    En K B H (L2.start L (v0 :: us)) (entryW W Ps L.length) fun i => if i = 0 then F else [] := by
  obtain ⟨x, L', rfl⟩ : ∃ x L', L = x :: L' := by
    cases L with
    | nil => exact absurd hl (by simp)
    | cons x L' => exact ⟨x, L', rfl⟩
  have E := en_entry (L := L') hB h
  have e1 : L2.start (x :: L') (v0 :: us) = some v0 :: L2.start L' us := by
    unfold L2.start
    rw [List.map_cons, List.length_cons, List.length_cons, Nat.add_sub_add_right]
    rfl
  have e2 : entryW W Ps (x :: L').length = .ob W :: entry Ps L'.length := by
    unfold entryW entry
    rw [List.length_cons, Nat.add_sub_cancel]
  rw [e1, e2]
  refine ⟨hB, by rw [List.length_cons, List.length_cons, E.len], fun i s hs => ?_, fun i a ha => ?_, fun i j a h1 h2 => ?_⟩
  · cases i with
    | zero =>
      cases hs
      exact ⟨v0, rfl, hW⟩
    | succ i =>
      have := E.at_ i s hs
      rw [if_neg (Nat.succ_ne_zero i)]
      exact this
  · by_cases e : i = 0
    · rw [if_pos e] at ha
      exact ⟨hF a ha, W.dom hW a ha⟩
    · rw [if_neg e] at ha
      cases ha
  · by_cases e1 : i = 0
    · by_cases e2 : j = 0
      · rw [e1, e2]
      · rw [if_neg e2] at h2
        cases h2
    · rw [if_neg e1] at h1
      cases h1
section
variable {P : Program} {w : World} {K : PySem.W.Frag} {mg : Str → Option Value} {base : Heap}
/-- the ends of a def of data -/
theorem end_S {X : Cx} {H B : Hp} {R : Mn} {Q : VK} (hX : X.K = K) (q : ∀ v B2 H2, Nw B H B2 H2 → R.p K B2 v → Q v H2) {σ : L2.St} {sts : List Stmt} (h : wpSs X sts (({ nx := fun _ => ∀ K B, R.p K B .non, rt := R } : Nd).ends X ⟨H, [], []⟩ B) σ H) : wpSs X sts { nx := fun _ H' => Q .non H', rt := Q } σ H := by
  subst hX
  refine wpSs_mono h ?_ ?_ ?_ ?_
  · exact fun σ' H' ⟨B', Γ', Fs', e, j, n⟩ => q _ B' H' ⟨j.b0, e.bh, fun a o h => j.h0 a o h (by simp), fun a h1 h2 => by
      cases r : B' a with
      | none => rfl
      | some o => exact absurd (j.nb a (by rw [r]; exact fun z => nomatch z) h1) h2⟩ (n X.K B')
  · exact fun v H' ⟨σ', B', Γ', Fs', e, j, _, r⟩ => q v B' H' ⟨j.b0, e.bh, fun a o h => j.h0 a o h (by simp), fun a h1 h2 => by
      cases r : B' a with
      | none => rfl
      | some o => exact absurd (j.nb a (by rw [r]; exact fun z => nomatch z) h1) h2⟩ r
  · exact fun σ' H' ⟨B', Γ', Fs', e, j, n⟩ => n.elim
  · exact fun σ' H' ⟨B', Γ', Fs', e, j, n⟩ => n.elim
/-- what the end of a def asks that changes its first argument -/
abbrev ndW (R : Mn) (W' : Ow) (v0 : V) : Nd := { nx := fun Γ' => Γ'[0]? = some (.ob (pinO W' v0)) ∧ ∀ K B, R.p K B .non, rt := R, rG := fun Γ' => Γ'[0]? = some (.ob (pinO W' v0)) }
theorem end_W {X : Cx} {H B : Hp} {R : Mn} {W' : Ow} {v0 : V} {F : List Addr} {Q : VK} (hX : X.K = K) (q : ∀ v B2 H2 F2, Mu F B H B2 H2 → R.p K B2 v → W'.p K B2 H2 v0 F2 → (∀ a ∈ F2, B2 a = none ∧ (a ∈ F ∨ H a = none)) → Q v H2) {σ : L2.St} {sts : List Stmt}
    (h : wpSs X sts ((ndW R W' v0).ends X ⟨H, F, [0]⟩ B) σ H) : wpSs X sts { nx := fun _ H' => Q .non H', rt := Q } σ H := by
  subst hX
  have key : ∀ {v : V} {B' H' : Hp} {σ' : L2.St} {Γ' : Ga} {Fs' : Nat → List Addr}, En X.K B' H' σ' Γ' Fs' → Jn ⟨H, F, [0]⟩ B B' H' Fs' → Γ'[0]? = some (.ob (pinO W' v0)) → R.p X.K B' v → Q v H' := fun {v B' H' σ' Γ' Fs'} e j g r => by
    obtain ⟨u, h1, rfl, h2⟩ := e.at_ 0 _ g
    refine q v B' H' (Fs' 0) ⟨j.b0, e.bh, j.h0, j.h1, fun a h1 h2 => ?_⟩ r h2 fun a ha => ⟨(e.fre 0 a ha).1, ?_⟩
    · cases r : B' a with
      | none => rfl
      | some o => exact absurd (j.nb a (by rw [r]; exact fun z => nomatch z) h1) h2
    · rcases j.fm 0 a ha with z | z
      · exact .inr z
      · exact .inl z.1
  refine wpSs_mono h ?_ ?_ ?_ ?_
  · exact fun σ' H' ⟨B', Γ', Fs', e, j, g, n⟩ => key e j g (n X.K B')
  · exact fun v H' ⟨σ', B', Γ', Fs', e, j, g, r⟩ => key e j g r
  · exact fun σ' H' ⟨B', Γ', Fs', e, j, n⟩ => n.elim
  · exact fun σ' H' ⟨B', Γ', Fs', e, j, n⟩ => n.elim
theorem jn_entry {H B : Hp} : Jn ⟨H, [], []⟩ B B H fun _ => [] := ⟨.refl _, fun a h1 h2 => absurd h2 h1, fun a o h _ => h, fun a h => h, fun _ _ z => nomatch z⟩
theorem jn_entryW {H B : Hp} {F : List Addr} : Jn ⟨H, F, [0]⟩ B B H fun i => if i = 0 then F else [] := ⟨.refl _, fun a h1 h2 => absurd h2 h1, fun a o h _ => h, fun a h => h, fun i a ha => by
  by_cases e : i = 0
  · rw [if_pos e] at ha
    exact .inr ⟨ha, by rw [e]; exact List.mem_cons_self⟩
  · rw [if_neg e] at ha
    cases ha⟩
/-- what an error's way out asks -/
def Wish (K : PySem.W.Frag) (J : Jd) (E : XK) (x f : Str) (v : V) : Prop := ∀ C d H2, ClsAt K x C → Ex J.H H2 → J.H d = none → H2 d = some (.xd [(f, v)]) → E (.ref C) (some d) H2
/-! ### methods by their bodies -/
theorem mS_ok {own m qual : Str} {st : Stmt} {L ps : List Str} {k : Nat} {S : List Mn → Mn → Prop} (Mt : Mtd K own m qual st ps) (Sc : FnScope L ps (defScope st)) (hl : ∀ Ps R, S Ps R → Ps.length = ps.length)
    (body : ∀ Ps R, S Ps R → ∀ (f : Addr) (cdv : Value) (A : Around) (outer : List Env) (s : Shared) (H : Hp) (E : XK), Room k (A.deeper (envOfC qual (defScope st) s.heap.objs.size f cdv)) → ∀ J : Jd, J.S = [] →
      Rn (cxOf CX0 P w K mg base L qual (defScope st) f cdv A outer s H E).nox J { nx := fun _ => ∀ K B, R.p K B .non, rt := R } (entry Ps L.length) (defBody st)) : CalM P w K mg base CX0 own m ps (k + 1) (spS K S) := by
  obtain ⟨C, g, fd, h1, h2, h3, F, b⟩ := Mt.ex
  refine ⟨C, g, fd, h1, h2, h3, F.ok Sc (fun vs H Q E h => ?_) fun cdv A outer s H vs Q E hr h => ?_, b⟩
  · obtain ⟨Ps, R, B, hS, _, h, _⟩ := h
    rw [mn_len h, hl _ _ hS]
  · obtain ⟨Ps, R, B, hS, hB, hv, q⟩ := h
    exact ⟨_, sSs, end_S rfl q (body Ps R hS g cdv A outer s H E hr ⟨H, [], []⟩ rfl B (L2.start L vs) B H (fun _ => []) (en_entry hB hv) jn_entry)⟩
/-- a method that may raise, by two proofs: where it does not, where it does -/
theorem mX_ok {own m qual : Str} {st : Stmt} {L ps : List Str} {k : Nat} {S : List Mn → Mn → Prop} {S2 : List Mn → Str → Str → V → Prop} (Mt : Mtd K own m qual st ps) (Sc : FnScope L ps (defScope st)) (hl : ∀ Ps R, S Ps R → Ps.length = ps.length) (hl2 : ∀ Ps x f v, S2 Ps x f v → Ps.length = ps.length)
    (body : ∀ Ps R, S Ps R → ∀ (f : Addr) (cdv : Value) (A : Around) (outer : List Env) (s : Shared) (H : Hp) (E : XK), Room k (A.deeper (envOfC qual (defScope st) s.heap.objs.size f cdv)) → ∀ J : Jd, J.S = [] →
      Rn (cxOf (L2.CX P w) P w K mg base L qual (defScope st) f cdv A outer s H E).nox J { nx := fun _ => ∀ K B, R.p K B .non, rt := R } (entry Ps L.length) (defBody st))
    (body2 : ∀ Ps x fl v, S2 Ps x fl v → ∀ (f : Addr) (cdv : Value) (A : Around) (outer : List Env) (s : Shared) (H : Hp) (E : XK), Room k (A.deeper (envOfC qual (defScope st) s.heap.objs.size f cdv)) → ∀ J : Jd, J.S = [] → J.M = [] → Wish K J E x fl v →
      Rn (cxOf (L2.CX P w) P w K mg base L qual (defScope st) f cdv A outer s H E) J { nx := fun _ => False, rt := botM } (entry Ps L.length) (defBody st)) : CalM P w K mg base (L2.CX P w) own m ps (k + 1) (orSp (spS K S) (spEx K S2)) := by
  obtain ⟨C, g, fd, h1, h2, h3, F, b⟩ := Mt.ex
  refine ⟨C, g, fd, h1, h2, h3, F.okX Sc (fun vs H Q E h => ?_) fun cdv A outer s H vs Q E hr h => ?_, b⟩
  · rcases h with ⟨Ps, R, B, hS, _, h, _⟩ | ⟨Ps, x, f, v, B, hS, _, h, _⟩
    · rw [mn_len h, hl _ _ hS]
    · rw [mn_len h, hl2 _ _ _ _ hS]
  · rcases h with ⟨Ps, R, B, hS, hB, hv, q⟩ | ⟨Ps, x, fl, v, B, hS, hB, hv, q⟩
    · exact ⟨_, sSs.nox, end_S rfl q (body Ps R hS g cdv A outer s H E hr ⟨H, [], []⟩ rfl B (L2.start L vs) B H (fun _ => []) (en_entry hB hv) jn_entry)⟩
    · refine ⟨_, sSs, wpSs_mono (body2 Ps x fl v hS g cdv A outer s H E hr ⟨H, [], []⟩ rfl rfl q B (L2.start L vs) B H (fun _ => []) (en_entry hB hv) jn_entry) ?_ ?_ ?_ ?_⟩
      · exact fun σ' H' ⟨B', Γ', Fs', e, j, n⟩ => n.elim
      · exact fun v H' ⟨σ', B', Γ', Fs', e, j, _, r⟩ => (show False from r).elim
      · exact fun σ' H' ⟨B', Γ', Fs', e, j, n⟩ => n.elim
      · exact fun σ' H' ⟨B', Γ', Fs', e, j, n⟩ => n.elim
/-- a method that changes its object -/
theorem mW_ok {own m qual : Str} {st : Stmt} {L ps : List Str} {k : Nat} {S : Ow → List Mn → Mn → Ow → Prop} (Mt : Mtd K own m qual st ps) (Sc : FnScope L ps (defScope st)) (hl : ∀ W Ps R W', S W Ps R W' → Ps.length + 1 = ps.length) (hL : 0 < L.length)
    (body : ∀ W Ps R W', S W Ps R W' → ∀ (v0 : V) (f : Addr) (cdv : Value) (A : Around) (outer : List Env) (s : Shared) (H : Hp) (E : XK), Room k (A.deeper (envOfC qual (defScope st) s.heap.objs.size f cdv)) → ∀ J : Jd, J.S = [0] →
      Rn (cxOf CX0 P w K mg base L qual (defScope st) f cdv A outer s H E).nox J (ndW R W' v0) (entryW (pinO W v0) Ps L.length) (defBody st)) : CalM P w K mg base CX0 own m ps (k + 1) (spW K S) := by
  obtain ⟨C, g, fd, h1, h2, h3, F, b⟩ := Mt.ex
  refine ⟨C, g, fd, h1, h2, h3, F.ok Sc (fun vs H Q E h => ?_) fun cdv A outer s H vs Q E hr h => ?_, b⟩
  · obtain ⟨W, Ps, R, W', B, v0, us, F, hS, rfl, _, _, _, h, _⟩ := h
    rw [List.length_cons, mn_len h, hl _ _ _ _ hS]
  · obtain ⟨W, Ps, R, W', B, v0, us, F, hS, rfl, hB, hW, hF, hv, q⟩ := h
    exact ⟨_, sSs, end_W rfl q (body W Ps R W' hS v0 g cdv A outer s H E hr ⟨H, F, [0]⟩ rfl B (L2.start L (v0 :: us)) B H _ (en_entryW hB ⟨rfl, hW⟩ hF hv hL) jn_entryW)⟩
/-- a method that changes its object, or raises -/
theorem mWX_ok {own m qual : Str} {st : Stmt} {L ps : List Str} {k : Nat} {S : Ow → List Mn → Mn → Ow → Prop} {S2 : List Mn → Str → Str → V → Prop} (Mt : Mtd K own m qual st ps) (Sc : FnScope L ps (defScope st)) (hl : ∀ W Ps R W', S W Ps R W' → Ps.length + 1 = ps.length) (hl2 : ∀ Ps x f v, S2 Ps x f v → Ps.length = ps.length) (hL : 0 < L.length)
    (body : ∀ W Ps R W', S W Ps R W' → ∀ (v0 : V) (f : Addr) (cdv : Value) (A : Around) (outer : List Env) (s : Shared) (H : Hp) (E : XK), Room k (A.deeper (envOfC qual (defScope st) s.heap.objs.size f cdv)) → ∀ J : Jd, J.S = [0] →
      Rn (cxOf (L2.CX P w) P w K mg base L qual (defScope st) f cdv A outer s H E).nox J (ndW R W' v0) (entryW (pinO W v0) Ps L.length) (defBody st))
    (body2 : ∀ Ps x fl v, S2 Ps x fl v → ∀ (f : Addr) (cdv : Value) (A : Around) (outer : List Env) (s : Shared) (H : Hp) (E : XK), Room k (A.deeper (envOfC qual (defScope st) s.heap.objs.size f cdv)) → ∀ J : Jd, J.S = [] → J.M = [] → Wish K J E x fl v →
      Rn (cxOf (L2.CX P w) P w K mg base L qual (defScope st) f cdv A outer s H E) J { nx := fun _ => False, rt := botM } (entry Ps L.length) (defBody st)) : CalM P w K mg base (L2.CX P w) own m ps (k + 1) (orSp (spW K S) (spEx K S2)) := by
  obtain ⟨C, g, fd, h1, h2, h3, F, b⟩ := Mt.ex
  refine ⟨C, g, fd, h1, h2, h3, F.okX Sc (fun vs H Q E h => ?_) fun cdv A outer s H vs Q E hr h => ?_, b⟩
  · rcases h with ⟨W, Ps, R, W', B, v0, us, F, hS, rfl, _, _, _, h, _⟩ | ⟨Ps, x, f, v, B, hS, _, h, _⟩
    · rw [List.length_cons, mn_len h, hl _ _ _ _ hS]
    · rw [mn_len h, hl2 _ _ _ _ hS]
  · rcases h with ⟨W, Ps, R, W', B, v0, us, F, hS, rfl, hB, hW, hF, hv, q⟩ | ⟨Ps, x, fl, v, B, hS, hB, hv, q⟩
    · exact ⟨_, sSs.nox, end_W rfl q (body W Ps R W' hS v0 g cdv A outer s H E hr ⟨H, F, [0]⟩ rfl B (L2.start L (v0 :: us)) B H _ (en_entryW hB ⟨rfl, hW⟩ hF hv hL) jn_entryW)⟩
    · refine ⟨_, sSs, wpSs_mono (body2 Ps x fl v hS g cdv A outer s H E hr ⟨H, [], []⟩ rfl rfl q B (L2.start L vs) B H (fun _ => []) (en_entry hB hv) jn_entry) ?_ ?_ ?_ ?_⟩
      · exact fun σ' H' ⟨B', Γ', Fs', e, j, n⟩ => n.elim
      · exact fun v H' ⟨σ', B', Γ', Fs', e, j, _, r⟩ => (show False from r).elim
      · exact fun σ' H' ⟨B', Γ', Fs', e, j, n⟩ => n.elim
      · exact fun σ' H' ⟨B', Γ', Fs', e, j, n⟩ => n.elim
/-- a method that hands back a new thing -/
theorem mU_ok {own m qual : Str} {st : Stmt} {L ps : List Str} {k : Nat} {S : List Mn → Ow → Prop} (Mt : Mtd K own m qual st ps) (Sc : FnScope L ps (defScope st)) (hl : ∀ Ps R, S Ps R → Ps.length = ps.length)
    (body : ∀ Ps R, S Ps R → ∀ (f : Addr) (cdv : Value) (A : Around) (outer : List Env) (s : Shared) (H : Hp) (E : XK), Room k (A.deeper (envOfC qual (defScope st) s.heap.objs.size f cdv)) → ∀ J : Jd, J.S = [] →
      Rn (cxOf CX0 P w K mg base L qual (defScope st) f cdv A outer s H E).nox J { nx := fun _ => False, rt := datP .none, rn := some R } (entry Ps L.length) (defBody st)) : CalM P w K mg base CX0 own m ps (k + 1) (spSU K S) := by
  obtain ⟨C, g, fd, h1, h2, h3, F, b⟩ := Mt.ex
  refine ⟨C, g, fd, h1, h2, h3, F.ok Sc (fun vs H Q E h => ?_) fun cdv A outer s H vs Q E hr h => ?_, b⟩
  · obtain ⟨Ps, R, B, hS, _, h, _⟩ := h
    rw [mn_len h, hl _ _ hS]
  · obtain ⟨Ps, R, B, hS, hB, hv, q⟩ := h
    refine ⟨_, sSs, wpSs_mono (body Ps R hS g cdv A outer s H E hr ⟨H, [], []⟩ rfl B (L2.start L vs) B H (fun _ => []) (en_entry hB hv) jn_entry) ?_ ?_ ?_ ?_⟩
    · exact fun σ' H' ⟨B', Γ', Fs', e, j, n⟩ => n.elim
    · exact fun v H' ⟨σ', B', Γ', Fs', e, j, _, F, r1, r2, _⟩ => q v F B' H' ⟨j.b0, e.bh, fun a o h => j.h0 a o h (by simp), fun a h1 h2 => by
        cases r : B' a with
        | none => rfl
        | some o => exact absurd (j.nb a (by rw [r]; exact fun z => nomatch z) h1) h2⟩ r1 r2
    · exact fun σ' H' ⟨B', Γ', Fs', e, j, n⟩ => n.elim
    · exact fun σ' H' ⟨B', Γ', Fs', e, j, n⟩ => n.elim
/-- a def whose first argument is changed -/
theorem fW_ok {x : Str} {st : Stmt} {L ps : List Str} {k : Nat} {S : Ow → List Mn → Mn → Ow → Prop} (Df : Dfn K mg x st ps) (Sc : FnScope L ps (defScope st)) (hl : ∀ W Ps R W', S W Ps R W' → Ps.length + 1 = ps.length) (hL : 0 < L.length)
    (body : ∀ W Ps R W', S W Ps R W' → ∀ (v0 : V) (f : Addr) (cdv : Value) (A : Around) (outer : List Env) (s : Shared) (H : Hp) (E : XK), Room k (A.deeper (envOfC x (defScope st) s.heap.objs.size f cdv)) → ∀ J : Jd, J.S = [0] →
      Rn (cxOf CX0 P w K mg base L x (defScope st) f cdv A outer s H E).nox J (ndW R W' v0) (entryW (pinO W v0) Ps L.length) (defBody st)) : CalF P w K mg base CX0 x ps (k + 1) (spW K S) := by
  obtain ⟨f, fd, F, m, b⟩ := Df.ex
  refine ⟨f, fd, F.ok Sc (fun vs H Q E h => ?_) fun cdv A outer s H vs Q E hr h => ?_, m, F.kp, b⟩
  · obtain ⟨W, Ps, R, W', B, v0, us, F, hS, rfl, _, _, _, h, _⟩ := h
    rw [List.length_cons, mn_len h, hl _ _ _ _ hS]
  · obtain ⟨W, Ps, R, W', B, v0, us, F, hS, rfl, hB, hW, hF, hv, q⟩ := h
    exact ⟨_, sSs, end_W rfl q (body W Ps R W' hS v0 f cdv A outer s H E hr ⟨H, F, [0]⟩ rfl B (L2.start L (v0 :: us)) B H _ (en_entryW hB ⟨rfl, hW⟩ hF hv hL) jn_entryW)⟩
end
end PL

set_option maxHeartbeats 2000000
namespace PL
open PySem PySem.Spec PyProof.Rows L2
section
variable {X : Cx} {J : Jd} {N : Nd} {Γ : Ga} {o e : Expr} {es : List Expr} {st : Stmt} {sts rest body : List Stmt} {P R : Mn} {W W' : Ow} {d : D} {ds : List D} {pos apos p : Pos} {own m : Str} {ps : List Str} {j k : Nat} {pl : Sem Bool} {Ps : List (Str × Mn)} {Qs : List Mn} {CX : CXT}
theorem lookO {K : PySem.W.Frag} {B : Hp} {v : V} (h : (insP own Ps).p K B v) (hm : Ps.lookup m = none) : ∃ C a dx vs, ClsAt K own C ∧ v = .ref a ∧ B a = some (.ins C dx vs) ∧ vs.lookup m = none := by
  obtain ⟨C, a, dx, vs, h1, h2, h3, h4⟩ := h
  exact ⟨C, a, dx, vs, h1, h2, h3, h4.none hm⟩
/-! ### a method that changes nothing -/
theorem gx_meth {S : List Mn → Mn → Prop} (C : CalM X.prog X.w X.K X.mg X.base CX0 own m ps k (spS X.K S)) (hr : Room j X.A) (hk : k ≤ j) (ho : GoP X Γ o (insP own Ps)) (hm : Ps.lookup m = none) (ha : GoA X Γ (e :: es) Qs) (hS : S (insP own Ps :: Qs) R := by walk_at "pS")
    (hst : starEach (e :: es) X.env = (false, eval e X.env) :: starEach es X.env := by rfl) (hpl : (backTo pos (starEach es X.env)).any (·.1) = false := by rfl)
    (ht : eval (.Call (.Attribute o m apos) (e :: es) [] pos) X.env = (do
      let ov ← eval o X.env
      standAt apos.atName
      let (f, first) ← holding [ov] (getMethod ov m pl)
      callWith pos f first (backTo pos (starEach (e :: es) X.env)) (backToKw pos (keywordEach [] X.env))) := by rfl) : GoP X Γ (.Call (.Attribute o m apos) (e :: es) [] pos) R := .mk fun σ B H Fs E Q q => by
  obtain ⟨C, g, fd, h1, h2, h3, F, b⟩ := C.ex
  refine toE (pe_meth sE h2 h3 (F.mono hk) hr b .nil pass0 sA hst hpl ht) (ho σ B H Fs E _ fun v B1 H1 n1 r1 => ?_)
  obtain ⟨C', a, dx, vs, e1, rfl, e3, e4⟩ := lookO r1 hm
  cases h1.eq e1
  refine ⟨a, dx, vs, rfl, n1.bh _ _ e3, e4, ha σ B1 H1 Fs (E.nw n1) _ fun us B2 H2 n2 r2 => ?_⟩
  exact ⟨_, R, B2, hS, n2.bh, by rw [List.append_nil]; exact .cons ((insP own Ps).up n2.bb r1) r2, fun v B3 H3 n3 r3 => q v B3 H3 ((n1.trans n2).trans n3) r3⟩
theorem gx_meth0 {S : List Mn → Mn → Prop} (C : CalM X.prog X.w X.K X.mg X.base CX0 own m ps k (spS X.K S)) (hr : Room j X.A) (hk : k ≤ j) (ho : GoP X Γ o (insP own Ps)) (hm : Ps.lookup m = none) (hS : S [insP own Ps] R := by walk_at "pS")
    (ht : eval (.Call (.Attribute o m apos) [] [] pos) X.env = (do
      let ov ← eval o X.env
      standAt apos.atName
      let (f, first) ← holding [ov] (getMethod ov m pl)
      callWith pos f first (backTo pos (starEach [] X.env)) (backToKw pos (keywordEach [] X.env))) := by rfl) : GoP X Γ (.Call (.Attribute o m apos) [] [] pos) R := .mk fun σ B H Fs E Q q => by
  obtain ⟨C, g, fd, h1, h2, h3, F, b⟩ := C.ex
  refine toE (pe_meth0 sE h2 h3 (F.mono hk) hr b .nil pass0 ht) (ho σ B H Fs E _ fun v B1 H1 n1 r1 => ?_)
  obtain ⟨C', a, dx, vs, e1, rfl, e3, e4⟩ := lookO r1 hm
  cases h1.eq e1
  exact ⟨a, dx, vs, rfl, n1.bh _ _ e3, e4, _, R, B1, hS, n1.bh, .cons r1 .nil, fun v B3 H3 n3 r3 => q v B3 H3 (n1.trans n3) r3⟩
/-- .. that may raise, where it does not -/
theorem gx_methX {S : List Mn → Mn → Prop} {S2 : List Mn → Str → Str → V → Prop} (C : CalM X.prog X.w X.K X.mg X.base (L2.CX X.prog X.w) own m ps k (orSp (spS X.K S) (spEx X.K S2))) (hr : Room j X.A) (hk : k ≤ j) (ho : GoP X Γ o (insP own Ps)) (hm : Ps.lookup m = none) (ha : GoA X Γ (e :: es) Qs) (hS : S (insP own Ps :: Qs) R := by walk_at "pS")
    (hst : starEach (e :: es) X.env = (false, eval e X.env) :: starEach es X.env := by rfl) (hpl : (backTo pos (starEach es X.env)).any (·.1) = false := by rfl)
    (ht : eval (.Call (.Attribute o m apos) (e :: es) [] pos) X.env = (do
      let ov ← eval o X.env
      standAt apos.atName
      let (f, first) ← holding [ov] (getMethod ov m pl)
      callWith pos f first (backTo pos (starEach (e :: es) X.env)) (backToKw pos (keywordEach [] X.env))) := by rfl) : GoP X Γ (.Call (.Attribute o m apos) (e :: es) [] pos) R := .mk fun σ B H Fs E Q q => by
  obtain ⟨C, g, fd, h1, h2, h3, F, b⟩ := C.ex
  refine toE (pe_meth sE h2 h3 (F.mono hk) hr b .nil passL sA hst hpl ht) (ho σ B H Fs E _ fun v B1 H1 n1 r1 => ?_)
  obtain ⟨C', a, dx, vs, e1, rfl, e3, e4⟩ := lookO r1 hm
  cases h1.eq e1
  refine ⟨a, dx, vs, rfl, n1.bh _ _ e3, e4, ha σ B1 H1 Fs (E.nw n1) _ fun us B2 H2 n2 r2 => .inl ?_⟩
  exact ⟨_, R, B2, hS, n2.bh, by rw [List.append_nil]; exact .cons ((insP own Ps).up n2.bb r1) r2, fun v B3 H3 n3 r3 => q v B3 H3 ((n1.trans n2).trans n3) r3⟩
/-- .. that hands back a new thing -/
theorem goU_meth0 {S : List Mn → Ow → Prop} (C : CalM X.prog X.w X.K X.mg X.base CX0 own m ps k (spSU X.K S)) (hr : Room j X.A) (hk : k ≤ j) (ho : GoP X Γ o (insP own Ps)) (hm : Ps.lookup m = none) (hS : S [insP own Ps] W := by walk_at "pS")
    (ht : eval (.Call (.Attribute o m apos) [] [] pos) X.env = (do
      let ov ← eval o X.env
      standAt apos.atName
      let (f, first) ← holding [ov] (getMethod ov m pl)
      callWith pos f first (backTo pos (starEach [] X.env)) (backToKw pos (keywordEach [] X.env))) := by rfl) : GoU X Γ (.Call (.Attribute o m apos) [] [] pos) W := .mk fun σ B H Fs E Q q => by
  obtain ⟨C, g, fd, h1, h2, h3, F, b⟩ := C.ex
  refine toE (pe_meth0 sE h2 h3 (F.mono hk) hr b .nil pass0 ht) (ho σ B H Fs E _ fun v B1 H1 n1 r1 => ?_)
  obtain ⟨C', a, dx, vs, e1, rfl, e3, e4⟩ := lookO r1 hm
  cases h1.eq e1
  exact ⟨a, dx, vs, rfl, n1.bh _ _ e3, e4, _, W, B1, hS, n1.bh, .cons r1 .nil, fun v F B3 H3 n3 r3 r4 => q v F B3 H3 (n1.trans n3) r3 fun a ha => ⟨n1.hh.none (r4 a ha).1, (r4 a ha).2⟩⟩
/-! ### a method that changes its object -/
/-- W is an object of the class own that has no field m -/
def IsObj (own m : Str) (W : Ow) : Prop := ∀ K B H v F, W.p K B H v F → ∃ C a dx vs, ClsAt K own C ∧ v = .ref a ∧ H a = some (.ins C dx vs) ∧ vs.lookup m = none
theorem isObj_ins {Ss : List (Str × Sl)} (hm : Ss.lookup m = none) : IsObj own m (insO own Ss) := fun K B H v F h => by
  obtain ⟨C, a, dx, vs, F', h1, h2, h3, h4, h5, h6⟩ := h
  exact ⟨C, a, dx, vs, h1, h2, h5, h6.none hm⟩
theorem isObj_pin {v0 : V} (h : IsObj own m W) : IsObj own m (pinO W v0) := fun K B H v F hW => h K B H v F hW.2
/-- how the thing W of a slot stands to the thing V that a promise speaks of, and W' to V' -/
inductive Pin : Ow → Ow → Ow → Ow → Prop
  | same {W W' : Ow} : Pin W W' W W'
  | pin {W W' : Ow} {v0 : V} : Pin W W' (pinO W v0) (pinO W' v0)
theorem Pin.inn {V V' : Ow} (h : Pin V V' W W') {K : PySem.W.Frag} {B H : Hp} {v : L2.V} {F : List Addr} (hW : W.p K B H v F) : V.p K B H v F ∧ ∀ B' H' F', V'.p K B' H' v F' → W'.p K B' H' v F' := by
  cases h with
  | same => exact ⟨hW, fun _ _ _ z => z⟩
  | pin => exact ⟨hW.2, fun _ _ _ z => ⟨hW.1, z⟩⟩
theorem gm_meth (i : Nat) {V V' : Ow} {S : Ow → List Mn → Mn → Ow → Prop} {x : Str} {p' : Pos} (C : CalM X.prog X.w X.K X.mg X.base CX0 own m ps k (spW X.K S)) (hr : Room j X.A) (hk : k ≤ j) (hΓ : Γ[i]? = some (.ob W)) (hp : Pin V V' W W') (hO : IsObj own m V) (ha : GoA X Γ (e :: es) Qs) (hS : S V Qs R V' := by walk_at "pS")
    (hN : X.N[i]? = some x := by rfl) (hv : Vis X.env.scope x := by first | exact Or.inl rfl | exact Or.inr (Or.inl rfl) | exact Or.inr (Or.inr rfl)) (hd : (x == ("__debug__" : Str)) = false := by decide) (hcd : (x == ("__classdict__" : Str)) = false := by decide)
    (hst : starEach (e :: es) X.env = (false, eval e X.env) :: starEach es X.env := by rfl) (hpl : (backTo pos (starEach es X.env)).any (·.1) = false := by rfl)
    (ht : eval (.Call (.Attribute (.Name x p') m apos) (e :: es) [] pos) X.env = (do
      let ov ← eval (.Name x p') X.env
      standAt apos.atName
      let (f, first) ← holding [ov] (getMethod ov m pl)
      callWith pos f first (backTo pos (starEach (e :: es) X.env)) (backToKw pos (keywordEach [] X.env))) := by rfl) : GoM X Γ (.Call (.Attribute (.Name x p') m apos) (e :: es) [] pos) i W' R := .mk fun σ B H Fs E Q q => by
  obtain ⟨C, g, fd, h1, h2, h3, F, b⟩ := C.ex
  obtain ⟨v, e1, e2⟩ := E.at_ i _ hΓ
  obtain ⟨i1, i2⟩ := hp.inn e2
  obtain ⟨C', a, dx, vs, c1, rfl, c3, c4⟩ := hO _ _ _ _ _ i1
  cases h1.eq c1
  refine toE (pe_meth (pe_var hN hv hd hcd) h2 h3 (F.mono hk) hr b .nil pass0 sA hst hpl ht) ⟨_, e1, a, dx, vs, rfl, c3, c4, ha σ B H Fs E _ fun us B2 H2 n2 r2 => ?_⟩
  obtain ⟨v', e1', e2'⟩ := (E.nw n2).at_ i _ hΓ
  rw [e1] at e1'
  cases e1'
  exact ⟨V, Qs, R, V', B2, _, us, Fs i, hS, by rw [List.append_nil], n2.bh, (hp.inn e2').1, fun b hb => ((E.nw n2).fre i b hb).1, r2, fun v B3 H3 F3 m3 r3 w3 f3 => q v _ B3 H3 F3 (n2.thenMu m3) r3 e1 (i2 _ _ _ w3) fun b hb => ⟨(f3 b hb).1, (f3 b hb).2.imp id fun z => n2.hh.none z⟩⟩
theorem gm_meth0 (i : Nat) {V V' : Ow} {S : Ow → List Mn → Mn → Ow → Prop} {x : Str} {p' : Pos} (C : CalM X.prog X.w X.K X.mg X.base CX0 own m ps k (spW X.K S)) (hr : Room j X.A) (hk : k ≤ j) (hΓ : Γ[i]? = some (.ob W)) (hp : Pin V V' W W') (hO : IsObj own m V) (hS : S V [] R V' := by walk_at "pS")
    (hN : X.N[i]? = some x := by rfl) (hv : Vis X.env.scope x := by first | exact Or.inl rfl | exact Or.inr (Or.inl rfl) | exact Or.inr (Or.inr rfl)) (hd : (x == ("__debug__" : Str)) = false := by decide) (hcd : (x == ("__classdict__" : Str)) = false := by decide)
    (ht : eval (.Call (.Attribute (.Name x p') m apos) [] [] pos) X.env = (do
      let ov ← eval (.Name x p') X.env
      standAt apos.atName
      let (f, first) ← holding [ov] (getMethod ov m pl)
      callWith pos f first (backTo pos (starEach [] X.env)) (backToKw pos (keywordEach [] X.env))) := by rfl) : GoM X Γ (.Call (.Attribute (.Name x p') m apos) [] [] pos) i W' R := .mk fun σ B H Fs E Q q => by
  obtain ⟨C, g, fd, h1, h2, h3, F, b⟩ := C.ex
  obtain ⟨v, e1, e2⟩ := E.at_ i _ hΓ
  obtain ⟨i1, i2⟩ := hp.inn e2
  obtain ⟨C', a, dx, vs, c1, rfl, c3, c4⟩ := hO _ _ _ _ _ i1
  cases h1.eq c1
  refine toE (pe_meth0 (pe_var hN hv hd hcd) h2 h3 (F.mono hk) hr b .nil pass0 ht) ⟨_, e1, a, dx, vs, rfl, c3, c4, ?_⟩
  exact ⟨V, [], R, V', B, _, [], Fs i, hS, rfl, E.bh, i1, fun b hb => (E.fre i b hb).1, .nil, fun v B3 H3 F3 m3 r3 w3 f3 => q v _ B3 H3 F3 m3 r3 e1 (i2 _ _ _ w3) f3⟩
/-- .. that may raise, where it does not -/
theorem gm_methX (i : Nat) {V V' : Ow} {S : Ow → List Mn → Mn → Ow → Prop} {S2 : List Mn → Str → Str → L2.V → Prop} {x : Str} {p' : Pos} (C : CalM X.prog X.w X.K X.mg X.base (L2.CX X.prog X.w) own m ps k (orSp (spW X.K S) (spEx X.K S2))) (hr : Room j X.A) (hk : k ≤ j) (hΓ : Γ[i]? = some (.ob W)) (hp : Pin V V' W W') (hO : IsObj own m V) (ha : GoA X Γ (e :: es) Qs) (hS : S V Qs R V' := by walk_at "pS")
    (hN : X.N[i]? = some x := by rfl) (hv : Vis X.env.scope x := by first | exact Or.inl rfl | exact Or.inr (Or.inl rfl) | exact Or.inr (Or.inr rfl)) (hd : (x == ("__debug__" : Str)) = false := by decide) (hcd : (x == ("__classdict__" : Str)) = false := by decide)
    (hst : starEach (e :: es) X.env = (false, eval e X.env) :: starEach es X.env := by rfl) (hpl : (backTo pos (starEach es X.env)).any (·.1) = false := by rfl)
    (ht : eval (.Call (.Attribute (.Name x p') m apos) (e :: es) [] pos) X.env = (do
      let ov ← eval (.Name x p') X.env
      standAt apos.atName
      let (f, first) ← holding [ov] (getMethod ov m pl)
      callWith pos f first (backTo pos (starEach (e :: es) X.env)) (backToKw pos (keywordEach [] X.env))) := by rfl) : GoM X Γ (.Call (.Attribute (.Name x p') m apos) (e :: es) [] pos) i W' R := .mk fun σ B H Fs E Q q => by
  obtain ⟨C, g, fd, h1, h2, h3, F, b⟩ := C.ex
  obtain ⟨v, e1, e2⟩ := E.at_ i _ hΓ
  obtain ⟨i1, i2⟩ := hp.inn e2
  obtain ⟨C', a, dx, vs, c1, rfl, c3, c4⟩ := hO _ _ _ _ _ i1
  cases h1.eq c1
  refine toE (pe_meth (pe_var hN hv hd hcd) h2 h3 (F.mono hk) hr b .nil passL sA hst hpl ht) ⟨_, e1, a, dx, vs, rfl, c3, c4, ha σ B H Fs E _ fun us B2 H2 n2 r2 => .inl ?_⟩
  obtain ⟨v', e1', e2'⟩ := (E.nw n2).at_ i _ hΓ
  rw [e1] at e1'
  cases e1'
  exact ⟨V, Qs, R, V', B2, _, us, Fs i, hS, by rw [List.append_nil], n2.bh, (hp.inn e2').1, fun b hb => ((E.nw n2).fre i b hb).1, r2, fun v B3 H3 F3 m3 r3 w3 f3 => q v _ B3 H3 F3 (n2.thenMu m3) r3 e1 (i2 _ _ _ w3) fun b hb => ⟨(f3 b hb).1, (f3 b hb).2.imp id fun z => n2.hh.none z⟩⟩
/-- a def whose first argument is changed: f(x, e, ..) -/
theorem gm_call (i : Nat) {V V' : Ow} {S : Ow → List Mn → Mn → Ow → Prop} {x f' : Str} {p' : Pos} (C : CalF X.prog X.w X.K X.mg X.base CX0 f' ps k (spW X.K S)) (hr : Room j X.A) (hk : k ≤ j) (hΓ : Γ[i]? = some (.ob W)) (hp : Pin V V' W W') (ha : GoA X Γ es Qs) (hS : S V Qs R V' := by walk_at "pS")
    (hN : X.N[i]? = some x := by rfl) (hv : Vis X.env.scope x := by first | exact Or.inl rfl | exact Or.inr (Or.inl rfl) | exact Or.inr (Or.inr rfl)) (hd : (x == ("__debug__" : Str)) = false := by decide) (hcd : (x == ("__classdict__" : Str)) = false := by decide)
    (hg : Gl X f' := by rfl) (hdb : (f' == ("__debug__" : Str)) = false := by decide)
    (he : starEach (.Name x p' :: es) X.env = (false, eval (.Name x p') X.env) :: starEach es X.env := by rfl) (hpl : (backTo pos (starEach es X.env)).any (·.1) = false := by rfl) : GoM X Γ (.Call (.Name f' p) (.Name x p' :: es) [] pos) i W' R := .mk fun σ B H Fs E Q q => by
  obtain ⟨f, fd, F, m, kp, b⟩ := C.ex
  obtain ⟨v, e1, e2⟩ := E.at_ i _ hΓ
  obtain ⟨i1, i2⟩ := hp.inn e2
  refine toE (pe_call (F.mono hk) hr hg m kp b .nil pass0 (pa_cons (pe_var hN hv hd hcd) sA he) hdb he hpl) ⟨v, e1, ha σ B H Fs E _ fun us B2 H2 n2 r2 => ?_⟩
  obtain ⟨v', e1', e2'⟩ := (E.nw n2).at_ i _ hΓ
  rw [e1] at e1'
  cases e1'
  exact ⟨V, Qs, R, V', B2, _, us, Fs i, hS, by rw [List.append_nil], n2.bh, (hp.inn e2').1, fun b hb => ((E.nw n2).fre i b hb).1, r2, fun v B3 H3 F3 m3 r3 w3 f3 => q v _ B3 H3 F3 (n2.thenMu m3) r3 e1 (i2 _ _ _ w3) fun b hb => ⟨(f3 b hb).1, (f3 b hb).2.imp id fun z => n2.hh.none z⟩⟩
/-! ### a class is called -/
structure CalC (P : Program) (w : World) (K : PySem.W.Frag) (mg : Str → Option Value) (base : Heap) (own : Str) (ps : List Str) (k : Nat) (S : Ow → List Mn → Mn → Ow → Prop) : Prop where
  ex : ∃ C g fd, ClsAt K own C ∧ mg own = some (.ref C) ∧ Mk K C g ∧ FnOk P w K mg base CX0 k g fd ps (spW K S) ∧ Binds K fd ps []
theorem goU_make {S : Ow → List Mn → Mn → Ow → Prop} (C : CalC X.prog X.w X.K X.mg X.base own ps k S) (hr : Room (j + 1) X.A) (hk : k ≤ j) (ha : GoA X Γ (e :: es) Qs) (hS : S (insO own []) Qs (datP .none) W' := by walk_at "pS") (hg : Gl X own := by rfl)
    (hdb : (own == ("__debug__" : Str)) = false := by decide) (he : starEach (e :: es) X.env = (false, eval e X.env) :: starEach es X.env := by rfl) (hpl : (backTo pos (starEach es X.env)).any (·.1) = false := by rfl) : GoU X Γ (.Call (.Name own p) (e :: es) [] pos) W' := .mk fun σ B H Fs E Q q => by
  obtain ⟨C, g, fd, h1, h2, h3, F, b⟩ := C.ex
  refine toE (pe_make h3 (F.mono hk) hr hg h2 b .nil pass0 sA hdb he hpl) (ha σ B H Fs E _ fun us B1 H1 n1 r1 x dx nx ndx ne => ?_)
  have eH : Ex H1 (upd (upd H1 dx (.own x)) x (.ins C dx [])) := fun a o h => by
    rw [upd_ne (ne_of_none h nx), upd_ne (ne_of_none h ndx)]
    exact h
  have hn1 : ∀ a, (upd (upd H1 dx (.own x)) x (.ins C dx [])) a = none → H1 a = none := fun a z => eH.none z
  refine ⟨insO own [], Qs, datP .none, W', B1, .ref x, us, [x], hS, by rw [List.append_nil], n1.bh.trans eH, ⟨C, x, dx, [], [], h1, rfl, rfl, List.not_mem_nil, upd_same, .nil⟩, fun a ha => by rw [List.mem_singleton.mp ha]; exact n1.bh.none nx, r1, fun v B3 H3 F3 m3 r3 w3 f3 => ⟨dp_non r3, q _ F3 B3 H3 ⟨n1.bb.trans m3.bb, m3.bh, fun a o h => ?_, fun a z1 z2 => ?_⟩ w3 fun a ha => ⟨?_, (f3 a ha).1⟩⟩⟩
  · have h' := n1.hh a o h
    exact m3.hh a o (eH a o h') fun z => by
      rw [List.mem_singleton.mp z, nx] at h'
      cases h'
  · refine m3.nu a (n1.nu a z1 z2) fun z => z2 (n1.hh.none (hn1 a z))
  · rcases (f3 a ha).2 with z | z
    · rw [List.mem_singleton.mp z]
      exact n1.hh.none nx
    · exact n1.hh.none (hn1 a z)
/-! ### an expression that raises -/
/-- e raises an error of the class x, its field f is v: W of it is wanted -/
structure GoX (X : Cx) (W : WX) (Γ : Ga) (e : Expr) (x f : Str) (v : L2.V) : Prop where
  run : ∀ σ B H Fs, En X.K B H σ Γ Fs → (∀ C d H2, ClsAt X.K x C → Ex H H2 → H d = none → H2 d = some (.xd [(f, v)]) → W (.ref C) (some d) σ H2) → ∀ Q : VK, wpE X e σ H Q
structure GoXA (X : Cx) (W : WX) (Γ : Ga) (es : List Expr) (x f : Str) (v : L2.V) : Prop where
  run : ∀ σ B H Fs, En X.K B H σ Γ Fs → (∀ C d H2, ClsAt X.K x C → Ex H H2 → H d = none → H2 d = some (.xd [(f, v)]) → W (.ref C) (some d) σ H2) → ∀ Q : List L2.V → Hp → Prop, wpA X es σ H Q
variable {Wx : WX} {xn fn : Str} {fv : L2.V}
theorem goxa_here (he : GoX X Wx Γ e xn fn fv) (hs : starEach (e :: es) X.env = (false, eval e X.env) :: starEach es X.env := by rfl) : GoXA X Wx Γ (e :: es) xn fn fv := .mk fun σ B H Fs E hw Q =>
  toA (pa_cons sE (sA (es := es)) hs) (he.run σ B H Fs E hw _)
theorem goxa_next (he : GoP X Γ e P) (ht : GoXA X Wx Γ es xn fn fv) (hs : starEach (e :: es) X.env = (false, eval e X.env) :: starEach es X.env := by rfl) : GoXA X Wx Γ (e :: es) xn fn fv := .mk fun σ B H Fs E hw Q =>
  toA (pa_cons sE sA hs) (he σ B H Fs E _ fun v B1 H1 n1 r1 => ht.run σ B1 H1 Fs (E.nw n1) (fun C d H2 h1 h2 h3 h4 => hw C d H2 h1 (n1.hh.trans h2) (n1.hh.none h3) h4) _)
theorem gox_th (i : Nat) (hΓ : Γ[i]? = some (.ob W)) (hz : FzM W P) (h : GoX X Wx (Γ.set i (.pr P)) e xn fn fv) : GoX X Wx Γ e xn fn fv := .mk fun σ B H Fs E hw Q => h.run σ _ H _ (E.iceM hΓ hz) hw Q
/-- a def is called with an argument that raises -/
theorem gox_call {x : Str} {sp : Sp} (C : CalF X.prog X.w X.K X.mg X.base CX0 x ps k sp) (hr : Room j X.A) (hk : k ≤ j) (ha : GoXA X Wx Γ (e :: es) xn fn fv) (hg : Gl X x := by rfl) (hdb : (x == ("__debug__" : Str)) = false := by decide)
    (he : starEach (e :: es) X.env = (false, eval e X.env) :: starEach es X.env := by rfl) (hpl : (backTo pos (starEach es X.env)).any (·.1) = false := by rfl) : GoX X Wx Γ (.Call (.Name x p) (e :: es) [] pos) xn fn fv := .mk fun σ B H Fs E hw Q => by
  obtain ⟨f, fd, F, m, kp, b⟩ := C.ex
  exact toE (pe_call (F.mono hk) hr hg m kp b .nil pass0 sA hdb he hpl) (ha.run σ B H Fs E hw _)
/-- a method that raises -/
theorem gox_meth {sp : Sp} {S2 : List Mn → Str → Str → L2.V → Prop} (C : CalM X.prog X.w X.K X.mg X.base (L2.CX X.prog X.w) own m ps k (orSp sp (spEx X.K S2))) (tk : Takes X Wx) (hr : Room j X.A) (hk : k ≤ j) (ho : GoP X Γ o (insP own Ps)) (hm : Ps.lookup m = none) (ha : GoA X Γ (e :: es) Qs) (hS : S2 (insP own Ps :: Qs) xn fn fv := by walk_at "pS")
    (hst : starEach (e :: es) X.env = (false, eval e X.env) :: starEach es X.env := by rfl) (hpl : (backTo pos (starEach es X.env)).any (·.1) = false := by rfl)
    (ht : eval (.Call (.Attribute o m apos) (e :: es) [] pos) X.env = (do
      let ov ← eval o X.env
      standAt apos.atName
      let (f, first) ← holding [ov] (getMethod ov m pl)
      callWith pos f first (backTo pos (starEach (e :: es) X.env)) (backToKw pos (keywordEach [] X.env))) := by rfl) : GoX X Wx Γ (.Call (.Attribute o m apos) (e :: es) [] pos) xn fn fv := .mk fun σ B H Fs E hw Q => by
  obtain ⟨C, g, fd, h1, h2, h3, F, b⟩ := C.ex
  intro pins s I
  refine PySem.W.methodCall_KW (pl := pl) (thn ((sE (e := o)).run pins s σ H _ I (ho σ B H Fs E (fun v H1 => ∃ a dx vs, v = .ref a ∧ H1 a = some (.ins C dx vs) ∧ vs.lookup m = none ∧ wpA X (e :: es) σ H1 fun us H2 => orSp sp (spEx X.K S2) (v :: us) H2 Q fun cls d H' => Wx cls d σ H') fun v B1 H1 n1 r1 => ?_)) fun u s1 ⟨x, H1, I1, rx, a, dx, vs, ex, ea, l, q⟩ => ?_) ht
  · obtain ⟨C', a, dx, vs, e1, rfl, e3, e4⟩ := lookO r1 hm
    cases h1.eq e1
    refine ⟨a, dx, vs, rfl, n1.bh _ _ e3, e4, ha σ B1 H1 Fs (E.nw n1) _ fun us B2 H2 n2 r2 => .inr ?_⟩
    exact ⟨_, _, _, _, B2, hS, n2.bh, .cons ((insP own Ps).up n2.bb r1) r2, fun C d H3 g1 g2 g3 g4 => hw C d H3 g1 ((n1.hh.trans n2.hh).trans g2) ((n1.hh.trans n2.hh).none g3) g4⟩
  · subst ex
    obtain rfl : u = Value.ref a := rx
    refine getmeth_ok I1 ea h2 h3 l ?_
    refine PySem.W.callWith_K (first := [.ref a]) (h₀ := X.base) I.ok.mod.kin h3.kp (thn (q pos pins s1 I1) fun us s2 ⟨vs, H2, I2, r, q2⟩ => ⟨I2.kIn, ?_⟩) hst hpl
    exact run_fnS (E := WE Wx) (us := .ref a :: us) (vs := .ref a :: vs) (F.mono hk) hr b (passAt tk σ) I2 (.cons rfl r) q2
/-! ### statements that raise -/
theorem rs_retX (he : GoX X Wx Γ e xn fn fv) (hM : J.M = []) (hW : ∀ σ C d H2, ClsAt X.K xn C → Ex J.H H2 → J.H d = none → H2 d = some (.xd [(fn, fv)]) → Wx (.ref C) (some d) σ H2) : RnS X J N Γ (.Return (some e) pos) := .mk fun B0 σ B H Fs En j =>
  toS (ps_ret sE) (he.run σ B H Fs En (fun C d H2 h1 h2 h3 h4 => hW σ C d H2 h1 (fun a o h => h2 a o (j.h0 a o h (by rw [hM]; exact List.not_mem_nil))) (by
    cases q : J.H d with
    | none => rfl
    | some o => exact absurd h3 (j.h1 d (by rw [q]; exact fun z => nomatch z))) h4) _)
theorem rs_setX (i : Nat) {x : Str} {p' : Pos} (he : GoX X Wx Γ e xn fn fv) (hM : J.M = []) (hW : ∀ σ C d H2, ClsAt X.K xn C → Ex J.H H2 → J.H d = none → H2 d = some (.xd [(fn, fv)]) → Wx (.ref C) (some d) σ H2) (hN : X.N.Nodup) (hi : X.N[i]? = some x := by rfl) (hx : Loc X.env.scope x := by first | exact .inl rfl | exact .inr rfl)
    (hs : swapsWith e (some (.Name x p')) pos.line X.env = pure false := by rfl) (hf : X.fn x = true ∨ X.env.scope.names.lookup x = some .local := by first | exact .inl rfl | exact .inr rfl) : RnS X J N Γ (.Assign [.Name x p'] e pos) := .mk fun B0 σ B H Fs En j =>
  toS (ps_set hN hi hx sE hs hf) (he.run σ B H Fs En (fun C d H2 h1 h2 h3 h4 => hW σ C d H2 h1 (fun a o h => h2 a o (j.h0 a o h (by rw [hM]; exact List.not_mem_nil))) (by
    cases q : J.H d with
    | none => rfl
    | some o => exact absurd h3 (j.h1 d (by rw [q]; exact fun z => nomatch z))) h4) _)
/-! ### try -/
theorem rs_thru {h₀ : ExceptHandler} {hs : List ExceptHandler} (hb : Rn X.nox J N Γ body) : RnS X J N Γ (.Try body (h₀ :: hs) [] [] pos) := .mk fun B0 σ B H Fs E j =>
  toS (ps_try_thru0 (sSs (X := X.nox))) (hb.run B0 σ B H Fs E j)
/-- the error that a suite holds: at a, its dict at d -/
def errM (a d : Addr) (f : Str) (v : L2.V) : Mn := ⟨fun _ B w => w = .ref a ∧ B d = some (.xd [(f, v)]), fun e ⟨h1, h2⟩ => ⟨h1, e _ _ h2⟩⟩
theorem rs_try_ret {n : Str} {i : Nat} {b₀ : Stmt} {suite : List Stmt} {np rp pos' : Pos} (hs : X.stack = X.env :: X.outer) (hf : X.env.frame = some X.env.locals) (hN : X.N.Nodup) (hi : X.N[i]? = some n) (hln : X.env.kindOf n = some .local) (hc : ∃ C, ClsAt X.K xn C ∧ Names X xn (.ref C) ∧ PySem.W.exmOne X.K (.ref C) (.ref C) = some true) (tk : Takes X fun _ _ _ _ => False)
    (he : ∀ (W : WX) (pn : List (Addr × Obj)) (xe : Value → Shared → Prop), Takes (X.tr pn xe) W → GoX (X.tr pn xe) W Γ e xn fn fv)
    (hsu : ∀ (C a d : Addr) (oe : Obj) (pn : List (Addr × Obj)), ClsAt X.K xn C → Zc (.ref C) (some d) oe → (∃ vs, oe.data = .fields vs) → Rn (X.suite a ((a, oe) :: pn)) J { N with nx := fun _ => False, bk := fun _ => False, ct := fun _ => False } (Γ.set i (.pr (errM a d fn fv))) (b₀ :: suite)) :
    RnS X J N Γ (.Try [.Return (some e) rp] [.ExceptHandler (some (.Name xn np)) (some n) (b₀ :: suite) pos'] [] [] pos) := .mk fun B0 σ B H Fs E j => by
  obtain ⟨C, hC, nC, xC⟩ := hc
  refine toS (ps_try_as (tb := fun W => fun D σ' H' => ∀ pn xe, Takes (X.tr pn xe) W → wpSs (X.tr pn xe) [.Return (some e) rp] D σ' H')
    (ts := fun a cls d => fun D σ' H' => ∀ oe pn, Zc cls d oe → (∃ vs, oe.data = .fields vs) → wpSs (X.suite a ((a, oe) :: pn)) (b₀ :: suite) D σ' H') hs hf hN hi hln nC tk ?_ ?_) ?_
  · exact fun W pn xe tk' _ => ⟨fun pins s σ' H' D I h => h pn xe tk' pins s I⟩
  · exact fun a oe cls d pn hz hd => ⟨fun pins s σ' H' D I h => h oe pn hz hd pins s I⟩
  · intro pn xe tk'
    refine toSs (pss_one (ps_ret sE)) ((he _ pn xe tk').run σ B H Fs E (fun C' d H2 h1 h2 h3 h4 => ?_) _)
    cases hC.eq h1
    refine ⟨true, xC, fun _ a ha oe pn' hz hd => ?_, fun z => nomatch z⟩
    have nB : B d = none := E.bh.none h3
    have n2 : Nw B H (L2.upd B d (.xd [(fn, fv)])) H2 := ⟨Ex.new nB, fun b u z => by
      by_cases q : b = d
      · subst q
        rw [upd_same] at z
        rw [h4]
        exact z
      · rw [upd_ne q] at z
        exact h2 b u (E.bh b u z), h2, fun b z1 z2 => by
        have : b ≠ d := fun q => z2 (by rw [q]; exact h3)
        rw [upd_ne this]
        exact z1⟩
    have E2 := (E.nw n2).setP (P := errM a d fn fv) (v := .ref a) i ⟨rfl, upd_same⟩
    refine wpSs_mono ((hsu C a d oe pn' hC hz hd).run B0 _ _ H2 _ E2 ((j.nw n2).sub fun _ _ z => off_sub z)) ?_ ?_ ?_ ?_
    · exact fun σ' H' ⟨B', Γ', Fs', e, j, n⟩ => n.elim
    · exact fun v H' z => z
    · exact fun σ' H' ⟨B', Γ', Fs', e, j, n⟩ => n.elim
    · exact fun σ' H' ⟨B', Γ', Fs', e, j, n⟩ => n.elim
end
end PL

set_option maxHeartbeats 2000000
namespace PL
open PySem PySem.Spec PyProof.Rows L2
/-! ### fields of an object of our own -/
def putS (f : Str) (s : Sl) : List (Str × Sl) → List (Str × Sl)
  | [] => [(f, s)]
  | (g, t) :: r => if g = f then (g, s) :: r else (g, t) :: putS f s r
section
variable {K : PySem.W.Frag} {B H : Hp} {f : Str}
theorem FlO.len : ∀ {vs : List (Str × V)} {Ss : List (Str × Sl)} {F : List Addr}, FlO K B H vs Ss F → vs.length = Ss.length
  | _, _, _, .nil => rfl
  | _, _, _, .pr _ t => by rw [List.length_cons, List.length_cons, t.len]
  | _, _, _, .ob _ _ t => by rw [List.length_cons, List.length_cons, t.len]
theorem FlO.putP {v : V} {P : Mn} (h : P.p K B v) : ∀ {vs : List (Str × V)} {Ss : List (Str × Sl)} {F : List Addr}, FlO K B H vs Ss F → ∃ F', FlO K B H (putF f v vs) (putS f (.pr P) Ss) F' ∧ ∀ a ∈ F', a ∈ F
  | _, _, _, .nil => ⟨[], .pr h .nil, fun _ z => z⟩
  | _, _, F, .pr (f := g) (v := u) (P := P0) (vs := vs) (Ss := Ss) h0 t => by
    unfold putF putS
    by_cases q : g = f
    · rw [if_pos q, if_pos q]
      exact ⟨_, .pr h t, fun _ z => z⟩
    · rw [if_neg q, if_neg q]
      obtain ⟨F', h1, h2⟩ := t.putP h
      exact ⟨F', .pr h0 h1, h2⟩
  | _, _, _, .ob (f := g) (v := u) (W := W) (F1 := F1) (F := F) h0 d t => by
    unfold putF putS
    by_cases q : g = f
    · rw [if_pos q, if_pos q]
      exact ⟨_, .pr h t, fun _ z => List.mem_append_right _ z⟩
    · rw [if_neg q, if_neg q]
      obtain ⟨F', h1, h2⟩ := t.putP h
      exact ⟨F1 ++ F', .ob h0 (fun a ha z => d a ha (h2 a z)) h1, fun a z => by
        rcases List.mem_append.mp z with z | z
        · exact List.mem_append_left _ z
        · exact List.mem_append_right _ (h2 a z)⟩
theorem FlO.putO {v : V} {W : Ow} {G : List Addr} (h : W.p K B H v G) : ∀ {vs : List (Str × V)} {Ss : List (Str × Sl)} {F : List Addr}, FlO K B H vs Ss F → (∀ a ∈ G, a ∉ F) → ∃ F', FlO K B H (putF f v vs) (putS f (.ob W) Ss) F' ∧ ∀ a ∈ F', a ∈ G ∨ a ∈ F
  | _, _, _, .nil, _ => ⟨G ++ [], .ob h (fun _ _ z => nomatch z) .nil, fun a z => .inl (by simpa using z)⟩
  | _, _, F, .pr (f := g) h0 t, hd => by
    unfold putF putS
    by_cases q : g = f
    · rw [if_pos q, if_pos q]
      exact ⟨G ++ F, .ob h hd t, fun a z => List.mem_append.mp z⟩
    · rw [if_neg q, if_neg q]
      obtain ⟨F', h1, h2⟩ := t.putO h hd
      exact ⟨F', .pr h0 h1, h2⟩
  | _, _, _, .ob (f := g) (F1 := F1) (F := F) h0 d t, hd => by
    unfold putF putS
    by_cases q : g = f
    · rw [if_pos q, if_pos q]
      exact ⟨G ++ F, .ob h (fun a ha z => hd a ha (List.mem_append_right _ z)) t, fun a z => (List.mem_append.mp z).imp id fun z => List.mem_append_right _ z⟩
    · rw [if_neg q, if_neg q]
      obtain ⟨F', h1, h2⟩ := t.putO h fun a ha z => hd a ha (List.mem_append_right _ z)
      refine ⟨F1 ++ F', .ob h0 (fun a ha z => ?_) h1, fun a z => ?_⟩
      · rcases h2 a z with y | y
        · exact hd a y (List.mem_append_left _ ha)
        · exact d a ha y
      · rcases List.mem_append.mp z with z | z
        · exact .inr (List.mem_append_left _ z)
        · exact (h2 a z).imp id fun z => List.mem_append_right _ z
/-- a list that is a field -/
theorem FlO.lst {ds : List D} : ∀ {vs : List (Str × V)} {Ss : List (Str × Sl)} {F : List Addr}, FlO K B H vs Ss F → F.Nodup ∨ True → Ss.lookup f = some (.own ds) →
    ∃ p us, vs.lookup f = some (.ref p) ∧ p ∈ F ∧ H p = some (.lst us) ∧ DpAll K B us ds ∧ ∀ B' H', Ex B B' → (∀ a ∈ F, H' a = H a) → ∀ us' es, DpAll K B' us' es → FlO K B' (L2.upd H' p (.lst us')) vs (putS f (.own es) Ss) F
  | _, _, _, .nil, _, e => nomatch e
  | _, _, F, .pr (f := g) (v := u) (P := P0) (vs := vs) (Ss := Ss) h0 t, _, e => by
    by_cases q : g = f
    · subst q
      rw [List.lookup_cons, beq_self_eq_true] at e
      cases e
    · have q2 : (f == g) = false := by simpa using fun z : f = g => q z.symm
      rw [List.lookup_cons, q2] at e
      obtain ⟨p, us, h1, h2, h3, h4, h5⟩ := t.lst (.inr trivial) e
      refine ⟨p, us, by rw [List.lookup_cons, q2]; exact h1, h2, h3, h4, fun B' H' hB hH us' es hu => ?_⟩
      unfold putS
      rw [if_neg q]
      exact .pr (P0.up hB h0) (h5 B' H' hB hH us' es hu)
  | _, _, _, .ob (f := g) (v := u) (W := W) (F1 := F1) (vs := vs) (Ss := Ss) (F := F) h0 d t, _, e => by
    by_cases q : g = f
    · subst q
      rw [List.lookup_cons, beq_self_eq_true] at e
      cases e
      obtain ⟨p, us, rfl, e2, e3, e4⟩ := h0
      refine ⟨p, us, by rw [List.lookup_cons, beq_self_eq_true], List.mem_append_left _ (by rw [e2]; exact List.mem_cons_self), e3, e4, fun B' H' hB hH us' es hu => ?_⟩
      unfold putS
      rw [if_pos rfl]
      refine .ob ⟨p, us', rfl, e2, upd_same, hu⟩ d (FlO.loc (fun a ha => ?_) (t.upB hB))
      have np : a ≠ p := fun z => d p (by rw [e2]; exact List.mem_cons_self) (z ▸ ha)
      rw [upd_ne np]
      exact hH a (List.mem_append_right _ ha)
    · have q2 : (f == g) = false := by simpa using fun z : f = g => q z.symm
      rw [List.lookup_cons, q2] at e
      obtain ⟨p, us, h1, h2, h3, h4, h5⟩ := t.lst (.inr trivial) e
      refine ⟨p, us, by rw [List.lookup_cons, q2]; exact h1, List.mem_append_right _ h2, h3, h4, fun B' H' hB hH us' es hu => ?_⟩
      unfold putS
      rw [if_neg q]
      refine .ob (W.loc (fun a ha => ?_) (W.upB hB h0)) d (h5 B' H' hB (fun a ha => hH a (List.mem_append_right _ ha)) us' es hu)
      have np : a ≠ p := fun z => d a ha (z ▸ h2)
      rw [upd_ne np]
      exact hH a (List.mem_append_left _ ha)
end
section
variable {X : Cx} {J : Jd} {N : Nd} {Γ : Ga} {a e : Expr} {es : List Expr} {st : Stmt} {sts rest body : List Stmt} {P R : Mn} {W W' : Ow} {d : D} {ds : List D} {pos apos p : Pos} {own f : Str} {j k : Nat} {Ss : List (Str × Sl)} {fl : List Str}
/-- x.f = e, x an object of our own -/
theorem rs_fld (i : Nat) {x : Str} {p' q : Pos} {Ss' : List (Str × Sl)} (O : ClsOk X.K own fl) (he : GoP X Γ e P) (hΓ : Γ[i]? = some (.ob W)) (hp : Pin (insO own Ss) (insO own Ss') W W') (h : N.nx (Γ.set i (.ob W'))) (hS : putS f (.pr P) Ss = Ss' := by repeat (first | rfl | (unfold putS; first | rw [if_neg (by decide +kernel)] | rw [if_pos rfl]))) (hi : i < Γ.length := by first | decide | exact of_decide_eq_true rfl | (simp only [List.length_set, List.length_cons, List.length_nil]; decide)) (hl : Ss.length < 900 := by first | decide | exact of_decide_eq_true rfl | (simp only [List.length_set, List.length_cons, List.length_nil]; decide)) (hm : f ∈ fl := by first | exact List.mem_cons_self | decide)
    (hN : X.N[i]? = some x := by rfl) (hv : Vis X.env.scope x := by first | exact Or.inl rfl | exact Or.inr (Or.inl rfl) | exact Or.inr (Or.inr rfl)) (hd : (x == ("__debug__" : Str)) = false := by decide) (hcd : (x == ("__classdict__" : Str)) = false := by decide)
    (hs : swapsWith e (some (.Attribute (.Name x p') f q)) pos.line X.env = pure false := by rfl) : RnS X J N Γ (.Assign [.Attribute (.Name x p') f q] e pos) := .mk fun B0 σ B H Fs E j' =>
  toS (ps_fld (pe_var hN hv hd hcd) sE hs) (he σ B H Fs E _ fun v B2 H2 n r => by
    subst hS
    obtain ⟨u, h1, h2⟩ := (E.nw n).at_ i _ hΓ
    obtain ⟨i1, i2⟩ := hp.inn h2
    obtain ⟨C, a, dx, vs, F', c1, rfl, c3, c4, c5, c6⟩ := i1
    obtain ⟨F2, g1, g2⟩ := c6.putP (f := f) r
    have m : Mu (Fs i) B2 H2 B2 (upd H2 a (.ins C dx (putF f v vs))) := ⟨.refl _, fun b o z => by
      have nb : b ≠ a := fun q => by
        have := ((E.nw n).fre i a (by rw [c3]; exact List.mem_cons_self)).1
        rw [q, this] at z
        cases z
      rw [upd_ne nb]
      exact n.bh b o z, fun b o z hF => by
      rw [upd_ne (fun q => hF (by rw [q, c3]; exact List.mem_cons_self))]
      exact z, fun b z q => by
      by_cases y : b = a
      · rw [y, upd_same] at q
        cases q
      · rw [upd_ne y] at q
        exact z q, fun _ z _ => z⟩
    have na : a ∉ F2 := fun z => c4 (g2 a z)
    refine ⟨_, h1, a, C, dx, vs, rfl, c5, O.cl C c1, O.na C f c1 hm, by rw [c6.len]; omega, B2, _, _, (E.nw n).mu m hi h1 (F2 := a :: F2) (i2 _ _ _ ⟨C, a, dx, _, F2, c1, rfl, rfl, na, upd_same, FlO.loc (fun b hb => upd_ne fun z => na (z ▸ hb)) g1⟩) (fun b hb => ?_), (j'.nw n).mu m (fun b hb => ?_), h⟩
    · have hb2 : b ∈ Fs i := by
        rw [c3]
        rcases List.mem_cons.mp hb with rfl | hb
        · exact List.mem_cons_self
        · exact List.mem_cons_of_mem _ (g2 b hb)
      exact ⟨((E.nw n).fre i b hb2).1, .inl hb2⟩
    · rw [c3]
      rcases List.mem_cons.mp hb with rfl | hb
      · exact .inl List.mem_cons_self
      · exact .inl (List.mem_cons_of_mem _ (g2 b hb)))
/-- x.f = e, e a new list -/
theorem rs_fldN (i : Nat) {x : Str} {p' q : Pos} {Ss' : List (Str × Sl)} (O : ClsOk X.K own fl) (he : GoN X Γ e ds) (hΓ : Γ[i]? = some (.ob W)) (hp : Pin (insO own Ss) (insO own Ss') W W') (h : N.nx (Γ.set i (.ob W'))) (hS : putS f (.own ds) Ss = Ss' := by repeat (first | rfl | (unfold putS; first | rw [if_neg (by decide +kernel)] | rw [if_pos rfl]))) (hi : i < Γ.length := by first | decide | exact of_decide_eq_true rfl | (simp only [List.length_set, List.length_cons, List.length_nil]; decide)) (hl : Ss.length < 900 := by first | decide | exact of_decide_eq_true rfl | (simp only [List.length_set, List.length_cons, List.length_nil]; decide)) (hm : f ∈ fl := by first | exact List.mem_cons_self | decide)
    (hN : X.N[i]? = some x := by rfl) (hv : Vis X.env.scope x := by first | exact Or.inl rfl | exact Or.inr (Or.inl rfl) | exact Or.inr (Or.inr rfl)) (hd : (x == ("__debug__" : Str)) = false := by decide) (hcd : (x == ("__classdict__" : Str)) = false := by decide)
    (hs : swapsWith e (some (.Attribute (.Name x p') f q)) pos.line X.env = pure false := by rfl) : RnS X J N Γ (.Assign [.Attribute (.Name x p') f q] e pos) := .mk fun B0 σ B H Fs E j' =>
  toS (ps_fld (pe_var hN hv hd hcd) sE hs) (he σ B H Fs E _ fun l us B2 H2 n hp0 hb0 hH hds => by
    subst hS
    obtain ⟨u, h1, h2⟩ := (E.nw n).at_ i _ hΓ
    obtain ⟨i1, i2⟩ := hp.inn h2
    obtain ⟨C, a, dx, vs, F', c1, rfl, c3, c4, c5, c6⟩ := i1
    have nl : ∀ k b, b ∈ Fs k → b ≠ l := fun k b hb z => (E.fre k b hb).2 (by rw [z]; exact hp0)
    have nla : l ≠ a := fun z => nl i a (by rw [c3]; exact List.mem_cons_self) z.symm
    obtain ⟨F2, g1, g2⟩ := c6.putO (f := f) (W := lstO ds) (G := [l]) ⟨l, us, rfl, rfl, hH, hds⟩ (fun b hb z => nl i b (by rw [c3]; exact List.mem_cons_of_mem _ z) (List.mem_singleton.mp hb))
    have m : Mu (Fs i) B2 H2 B2 (upd H2 a (.ins C dx (putF f (.ref l) vs))) := ⟨.refl _, fun b o z => by
      have nb : b ≠ a := fun q => by
        have := ((E.nw n).fre i a (by rw [c3]; exact List.mem_cons_self)).1
        rw [q, this] at z
        cases z
      rw [upd_ne nb]
      exact n.bh b o z, fun b o z hF => by
      rw [upd_ne (fun q => hF (by rw [q, c3]; exact List.mem_cons_self))]
      exact z, fun b z q => by
      by_cases y : b = a
      · rw [y, upd_same] at q
        cases q
      · rw [upd_ne y] at q
        exact z q, fun _ z _ => z⟩
    have na : a ∉ F2 := fun z => by
      rcases g2 a z with y | y
      · exact nla (List.mem_singleton.mp y).symm
      · exact c4 y
    have mm : Mu (Fs i) B H B2 (upd H2 a (.ins C dx (putF f (.ref l) vs))) := n.thenMu m
    have hFF : ∀ b ∈ a :: F2, b ∈ Fs i ∨ b = l := fun b hb => by
      rw [c3]
      rcases List.mem_cons.mp hb with rfl | hb
      · exact .inl List.mem_cons_self
      · rcases g2 b hb with y | y
        · exact .inr (List.mem_singleton.mp y)
        · exact .inl (List.mem_cons_of_mem _ y)
    refine ⟨_, h1, a, C, dx, vs, rfl, c5, O.cl C c1, O.na C f c1 hm, by rw [c6.len]; omega, B2, _, _, E.mu mm hi h1 (F2 := a :: F2) (i2 _ _ _ ⟨C, a, dx, _, F2, c1, rfl, rfl, na, upd_same, FlO.loc (fun b hb => upd_ne fun z => na (z ▸ hb)) g1⟩) (fun b hb => ?_), j'.mu mm (fun b hb => ?_), h⟩
    · rcases hFF b hb with y | rfl
      · exact ⟨((E.nw n).fre i b y).1, .inl y⟩
      · exact ⟨hb0, .inr hp0⟩
    · rcases hFF b hb with y | rfl
      · exact .inl y
      · exact .inr hp0)
/-- x.f, a list within the object of the slot i -/
theorem gol_fld (i : Nat) {x : Str} {p' : Pos} {Wf : List D → Ow} (O : ClsOk X.K own fl) (hΓ : Γ[i]? = some (.ob W)) {Sf : List D → List (Str × Sl)} (hp : ∀ es, Pin (insO own Ss) (insO own (Sf es)) W (Wf es)) (hf : Ss.lookup f = some (.own ds) := by rfl) (hS : ∀ es, putS f (.own es) Ss = Sf es := by intro es; repeat (first | rfl | (unfold putS; first | rw [if_neg (by decide +kernel)] | rw [if_pos rfl]))) (hm : f ∈ fl := by first | exact List.mem_cons_self | decide)
    (hN : X.N[i]? = some x := by rfl) (hv : Vis X.env.scope x := by first | exact Or.inl rfl | exact Or.inr (Or.inl rfl) | exact Or.inr (Or.inr rfl)) (hd : (x == ("__debug__" : Str)) = false := by decide) (hcd : (x == ("__classdict__" : Str)) = false := by decide)
    (hb : attributeBase (.Name x p') f X.env (eval (.Name x p') X.env) = eval (.Name x p') X.env := by rfl) : GoL X Γ (.Attribute (.Name x p') f pos) i ds Wf := .mk fun σ B H Fs E Q q => by
  obtain ⟨u, h1, h2⟩ := E.at_ i _ hΓ
  obtain rfl : Sf = fun es => putS f (.own es) Ss := funext fun es => (hS es).symm
  obtain ⟨i1, _⟩ := (hp ds).inn h2
  obtain ⟨C, a, dx, vs, F', c1, rfl, c3, c4, c5, c6⟩ := i1
  obtain ⟨l, us, g1, g2, g3, g4, g5⟩ := c6.lst (.inr trivial) hf
  have nla : a ≠ l := fun z => c4 (z ▸ g2)
  refine toE (pe_fld (pe_var hN hv hd hcd) hb) ⟨_, h1, a, C, dx, vs, _, rfl, c5, O.cl C c1, O.na C f c1 hm, g1, q l us _ B H (.same E.bh) h1 (by rw [c3]; exact List.mem_cons_of_mem _ g2) g3 g4 fun B' H' hB hH us' es hu => ?_⟩
  refine ((hp es).inn h2).2 _ _ _ ⟨C, a, dx, vs, F', c1, rfl, c3, c4, ?_, g5 B' H' hB (fun b hb => hH b (by rw [c3]; exact List.mem_cons_of_mem _ hb)) us' es hu⟩
  rw [upd_ne nla, hH a (by rw [c3]; exact List.mem_cons_self)]
  exact c5
/-! ### what a suite asks of its error -/
structure IsiC (K : PySem.W.Frag) (C : Addr) : Prop where
  hcl : (PySem.W.clsIn K C).isSome = true
  hga : PySem.W.findIn K (.ref C) "__getattribute__" = some (some (.builtin "BaseException.__getattribute__"))
  hgt : PySem.W.findIn K (.ref C) "__getattr__" = some none
  hsub : PySem.W.subIn K (.ref C) (.type "BaseException") = some true
  ha : PySem.W.findIn K (.ref C) "__class__" = some (some (.builtin "object.__class__"))
  hn : PySem.W.specialIn K (.builtin "object.__class__") "__get__" = some (some (.builtin "getset_descriptor.__get__"))
  htk : PySem.W.takesIn K (.builtin "object.__class__") = some true
  hm : PySem.W.mroIn K C (.type "object") = some true
variable {A D0 C CF : Addr} {oe : Obj} {pn : List (Addr × Obj)} {fv : V}
def rIsE2 (D0 A CF : Addr) (r : Bool) : List V → Hp → VK → Prop := fun xs H Q => (∃ fs, H D0 = some (.xd fs)) ∧ xs = [.ref A, .ref CF] ∧ Q (.bl r) H
theorem call_isE2 {r : Bool} (I0 : IsiC X.K C) (hz : Zc (.ref C) (some D0) oe) (hf : ∃ vs, oe.data = .fields vs) (hk : PySem.W.kitOne X.K (.ref C) (.ref CF) = some r) : CallR (X.suite A ((A, oe) :: pn)) (.builtin "isinstance") (rIsE2 D0 A CF r) := by
  intro pins s σ H xs us Q I r0 h
  obtain ⟨⟨fs, hd⟩, rfl, q⟩ := h
  cases r0 with
  | cons rx rr =>
    cases rr with
    | cons rt rr =>
      cases rr
      cases rx
      cases rt
      obtain ⟨hget, _⟩ := I.pin (A, oe) (List.mem_append.mpr (.inl List.mem_cons_self))
      obtain ⟨vs, hv⟩ := hf
      have hx : ObjOk X.prog X.w H s.heap D0 (.xd fs) := I.hok D0 _ hd
      obtain ⟨mA, hns, _⟩ := hx
      obtain ⟨od, ho, _⟩ := lookIn_ns hns
      have J : PySem.W.InstAt s.heap A oe C (some od) := ⟨hget, hz.1, by unfold PySem.W.notCls; rw [hv] <;> rfl, by rw [hz.2]; exact ho⟩
      exact PySem.W.kia_one (PySem.W.kitx_exc I0.hcl I0.hga I0.hgt I0.hsub I0.ha I0.hn I0.htk I0.hm) I.kIn J hk (fun z => nomatch z) fun tk => ⟨.bl r, H, I.kept (t' := tk) fun _ _ z => z, rfl, q⟩
def refP (a : Addr) : Mn := ⟨fun _ _ v => v = .ref a, fun _ h => h⟩
theorem go_glob {x : Str} {c : Addr} (hm : X.mg x = some (.ref c)) (hg : Gl X x := by rfl) (hd : (x == ("__debug__" : Str)) = false := by decide) : GoP X Γ (.Name x pos) (refP c) := .mk fun σ B H Fs E Q q =>
  toE (pe_glob (v := .ref c) hg hm rfl hd) (q _ B H (.same E.bh) rfl)
theorem go_isE {x : Str} {r : Bool} {p2 : Pos} (I0 : IsiC X.K C) (hz : Zc (.ref C) (some D0) oe) (hf : ∃ vs, oe.data = .fields vs) (hk : PySem.W.kitOne X.K (.ref C) (.ref CF) = some r) (he : GoP (X.suite A ((A, oe) :: pn)) Γ a (errM A D0 f fv)) (hmi : X.mg "isinstance" = none) (hm : X.mg x = some (.ref CF))
    (hgi : Gl X "isinstance" := by rfl) (hg : Gl X x := by rfl) (hd : (x == ("__debug__" : Str)) = false := by decide) (he1 : starEach [a, .Name x p2] X.env = (false, eval a X.env) :: starEach [.Name x p2] X.env := by rfl) (he2 : starEach [.Name x p2] X.env = (false, eval (.Name x p2) X.env) :: starEach [] X.env := by rfl) :
    Go (X.suite A ((A, oe) :: pn)) Γ (.Call (.Name "isinstance" p) [a, .Name x p2] [] pos) (.bool r) :=
  go_callB (X := X.suite A ((A, oe) :: pn)) (call_isE2 I0 hz hf hk) hgi hmi PyProof.Rows.boot_isinstance (goA_cons he (goA_cons (go_glob (X := X.suite A ((A, oe) :: pn)) hm hg hd) goA_nil he2) he1) (fun vs B H hB rr Q q => by
    obtain ⟨v, w, rfl, h, h2⟩ := mn2 rr
    obtain ⟨rfl, h3⟩ := h
    have h2 : w = .ref CF := h2
    subst h2
    exact ⟨⟨_, hB _ _ h3⟩, rfl, q _ B H (.same hB) (Dp.bl _)⟩) (by decide) (by decide) he1 (by rw [he2]; rfl)
/-- the field of the error that a suite holds -/
theorem go_errf (T : XfC X.K C) (hno : PySem.W.findIn X.K (.ref C) f = some none) (hz : Zc (.ref C) (some D0) oe) (hf : ∃ vs, oe.data = .fields vs) (he : GoP (X.suite A ((A, oe) :: pn)) Γ a (errM A D0 f fv)) (hv : ∀ K B, Dp K B fv d)
    (hb : attributeBase a f X.env (eval a X.env) = eval a X.env := by rfl) : Go (X.suite A ((A, oe) :: pn)) Γ (.Attribute a f pos) d := .mk fun σ B H Fs E Q q =>
  toE (pe_xf T hno hz hf sE hb) (he σ B H Fs E _ fun v B1 H1 n1 ⟨h1, h2⟩ => ⟨h1, rfl, D0, _, fv, rfl, n1.bh _ _ h2, by rw [List.lookup_cons, beq_self_eq_true], q _ B1 H1 n1 (hv _ _)⟩)
end
end PL
namespace PL
open PySem PySem.Spec PyProof.Rows L2
/-- the __init__ of the class own is st -/
structure MtdI (K : PySem.W.Frag) (mg : Str → Option Value) (own qual : Str) (st : Stmt) (ps : List Str) : Prop where
  ex : ∃ C g fd, ClsAt K own C ∧ mg own = some (.ref C) ∧ Mk K C g ∧ Fun K "__init__" qual st g fd ∧ Binds K fd ps []
theorem mI_ok {P : Program} {w : World} {K : PySem.W.Frag} {mg : Str → Option Value} {base : Heap} {own qual : Str} {st : Stmt} {L ps : List Str} {k : Nat} {S : Ow → List Mn → Mn → Ow → Prop} (Mt : MtdI K mg own qual st ps) (Sc : FnScope L ps (defScope st)) (hl : ∀ W Ps R W', S W Ps R W' → Ps.length + 1 = ps.length) (hL : 0 < L.length)
    (body : ∀ W Ps R W', S W Ps R W' → ∀ (v0 : V) (f : Addr) (cdv : Value) (A : Around) (outer : List Env) (s : Shared) (H : Hp) (E : XK), Room k (A.deeper (envOfC qual (defScope st) s.heap.objs.size f cdv)) → ∀ J : Jd, J.S = [0] →
      Rn (cxOf CX0 P w K mg base L qual (defScope st) f cdv A outer s H E).nox J (ndW R W' v0) (entryW (pinO W v0) Ps L.length) (defBody st)) : CalC P w K mg base own ps (k + 1) S := by
  obtain ⟨C, g, fd, h1, h2, h3, F, b⟩ := Mt.ex
  refine ⟨C, g, fd, h1, h2, h3, F.ok Sc (fun vs H Q E h => ?_) fun cdv A outer s H vs Q E hr h => ?_, b⟩
  · obtain ⟨W, Ps, R, W', B, v0, us, F, hS, rfl, _, _, _, h, _⟩ := h
    rw [List.length_cons, mn_len h, hl _ _ _ _ hS]
  · obtain ⟨W, Ps, R, W', B, v0, us, F, hS, rfl, hB, hW, hF, hv, q⟩ := h
    exact ⟨_, sSs, end_W rfl q (body W Ps R W' hS v0 g cdv A outer s H E hr ⟨H, F, [0]⟩ rfl B (L2.start L (v0 :: us)) B H _ (en_entryW hB ⟨rfl, hW⟩ hF hv hL) jn_entryW)⟩
end PL

set_option maxHeartbeats 2000000
namespace PL
open PySem PySem.Spec PyProof.Rows L2
section
variable {X : Cx} {J : Jd} {N : Nd} {Γ : Ga} {tg iter : Expr} {P : Mn} {W : Ow} {pos : Pos}
/-- name = [..], a thing of our own read on the way: the items are flat -/
theorem rs_lcT (t : Nat) (hΓ : Γ[t]? = some (.ob W)) (hz0 : FzM W P) (i : Nat) {x' : Str} {p' lpos : Pos} {elt : Expr} {ifs : List Expr} {scope : Scope} {α : Type} {xs : List α} {enc : α → D} {q : α → Bool} {f : α → D} (own : List (Str × Nat)) (hc : X.calm = true) (hN : X.N.Nodup) (hi : GoI X (Γ.set t (.pr P)) tg iter (xs.map enc))
    (body : ∀ (k : Nat) x, xs[k]? = some x → ∃ Γ' ts, (Blk X scope fun X' => GoG X' (wipeG (Γ.set t (.pr P)) (own.map (·.2))) tg (enc x) Γ' ts) ∧ (Blk X scope fun X' => GoTs X' Γ' ifs (q x)) ∧ (q x = true → Blk X scope fun X' => Go X' Γ' elt (f x)) ∧ (∀ t ∈ ts, t ∈ own.map (·.2)))
    (ok : blkC X.N X.env.scope scope own = true) (hsw : swapsWith (.ListComp elt [⟨tg, iter, ifs, 0⟩] scope lpos) (some (.Name x' p')) pos.line X.env = pure true) (hfl : ((xs.filter q).map f).all flatD = true) (h : N.nx (Γ.set i (.dat (.list ((xs.filter q).map f))))) (hz : xs.length < 1000000 := by walk_at "pside") (hx : X.N[i]? = some x' := by rfl) (hyl : X.env.scope.names.lookup x' = some .local := by rfl) (hs : ∀ x, foldedSetIterable iter X.env x = pure x := by intro _; rfl) :
    RnS X J N Γ (.Assign [.Name x' p'] (.ListComp elt [⟨tg, iter, ifs, 0⟩] scope lpos) pos) := .mk fun B0 σ B H Fs E j =>
  toS (ps_setLc (own := own) hc hN hx hyl hsw sI (blkOk_by ok) (fun s H C cl fp => ⟨fun pins s' σ H v u Q I r h => (h s _ C cl fp) pins s' u I r⟩) (fun s H C cl fp => ⟨fun pins s' σ H Q I h => (h s _ C cl fp) pins s' I⟩) (fun s H C cl fp => ⟨fun pins s' σ H Q I h => (h s _ C cl fp) pins s' I⟩) hs)
    (lc_run q f hi (ltZ hz) (fun k x hx => let ⟨Γ', ts, h1, h2, h3, h4⟩ := body k x hx; ⟨Γ', ts, h4, h1, h2, h3⟩) (E.iceM hΓ hz0) (fun x H1 => gName i x σ H1 (N.ends X J B0).nx) fun l us B2 H2 n hl hb hH hd => by
      have n0 : Nw B H B H2 := ⟨.refl _, E.bh.trans n.hh, n.hh, fun _ h _ => h⟩
      obtain ⟨e1, e2⟩ := Nw.ice n0.bh (E.bh.none hl) hH
      have n2 : Nw B H (upd B l (.lst us)) H2 := ⟨e1, e2, n.hh, fun a h1 h2 => by
        have : a ≠ l := fun z => h2 (by rw [z]; exact hl)
        rw [upd_ne this]
        exact h1⟩
      exact ⟨_, _, _, (E.nw n2).setP (P := datP (.list ((xs.filter q).map f))) i (show Dp _ _ _ _ from .lst (.of upd_same) (flats_any hd hfl)), (j.nw n2).sub fun _ _ z => off_sub z, h⟩)
theorem rs_lcTM (t : Nat) (hΓ : Γ[t]? = some (.ob W)) (hz0 : FzM W P) (i : Nat) {x' : Str} {p' lpos : Pos} {elt : Expr} {scope : Scope} {α : Type} {xs : List α} {enc : α → D} {f : α → D} (own : List (Str × Nat)) (hc : X.calm = true) (hN : X.N.Nodup) (hi : GoI X (Γ.set t (.pr P)) tg iter (xs.map enc))
    (body : ∀ (k : Nat) x, xs[k]? = some x → ∃ Γ' ts, (Blk X scope fun X' => GoG X' (wipeG (Γ.set t (.pr P)) (own.map (·.2))) tg (enc x) Γ' ts) ∧ (Blk X scope fun X' => Go X' Γ' elt (f x)) ∧ (∀ t ∈ ts, t ∈ own.map (·.2)))
    (ok : blkC X.N X.env.scope scope own = true) (hsw : swapsWith (.ListComp elt [⟨tg, iter, [], 0⟩] scope lpos) (some (.Name x' p')) pos.line X.env = pure true) (hfl : (xs.map f).all flatD = true) (h : N.nx (Γ.set i (.dat (.list (xs.map f))))) (hz : xs.length < 1000000 := by walk_at "pside") (hx : X.N[i]? = some x' := by rfl) (hyl : X.env.scope.names.lookup x' = some .local := by rfl) (hs : ∀ x, foldedSetIterable iter X.env x = pure x := by intro _; rfl) :
    RnS X J N Γ (.Assign [.Name x' p'] (.ListComp elt [⟨tg, iter, [], 0⟩] scope lpos) pos) :=
  rs_lcT t hΓ hz0 i (q := fun _ => true) own hc hN hi (fun k x hx => let ⟨Γ', ts, h1, h2, h4⟩ := body k x hx; ⟨Γ', ts, h1, fun _ _ _ _ _ => goTs_nil, fun _ => h2, h4⟩) ok hsw (by rw [List.filter_eq_self.mpr fun _ _ => rfl]; exact hfl) (by rw [List.filter_eq_self.mpr fun _ _ => rfl]; exact h) hz hx hyl hs
/-- .. the new list is our own -/
theorem rs_lcTO (t : Nat) (hΓ : Γ[t]? = some (.ob W)) (hz0 : FzM W P) (i : Nat) {x' : Str} {p' lpos : Pos} {elt : Expr} {ifs : List Expr} {scope : Scope} {α : Type} {xs : List α} {enc : α → D} {q : α → Bool} {f : α → D} (own : List (Str × Nat)) (hc : X.calm = true) (hN : X.N.Nodup) (hi : GoI X (Γ.set t (.pr P)) tg iter (xs.map enc))
    (body : ∀ (k : Nat) x, xs[k]? = some x → ∃ Γ' ts, (Blk X scope fun X' => GoG X' (wipeG (Γ.set t (.pr P)) (own.map (·.2))) tg (enc x) Γ' ts) ∧ (Blk X scope fun X' => GoTs X' Γ' ifs (q x)) ∧ (q x = true → Blk X scope fun X' => Go X' Γ' elt (f x)) ∧ (∀ t ∈ ts, t ∈ own.map (·.2)))
    (ok : blkC X.N X.env.scope scope own = true) (hsw : swapsWith (.ListComp elt [⟨tg, iter, ifs, 0⟩] scope lpos) (some (.Name x' p')) pos.line X.env = pure true) (hfl : ((xs.filter q).map f).all flatD = true) (h : N.nx (Γ.set i (.own ((xs.filter q).map f)))) (hz : xs.length < 1000000 := by walk_at "pside") (hx : X.N[i]? = some x' := by rfl) (hyl : X.env.scope.names.lookup x' = some .local := by rfl) (hs : ∀ x, foldedSetIterable iter X.env x = pure x := by intro _; rfl) :
    RnS X J N Γ (.Assign [.Name x' p'] (.ListComp elt [⟨tg, iter, ifs, 0⟩] scope lpos) pos) := .mk fun B0 σ B H Fs E j =>
  toS (ps_setLc (own := own) hc hN hx hyl hsw sI (blkOk_by ok) (fun s H C cl fp => ⟨fun pins s' σ H v u Q I r h => (h s _ C cl fp) pins s' u I r⟩) (fun s H C cl fp => ⟨fun pins s' σ H Q I h => (h s _ C cl fp) pins s' I⟩) (fun s H C cl fp => ⟨fun pins s' σ H Q I h => (h s _ C cl fp) pins s' I⟩) hs)
    (lc_run q f hi (ltZ hz) (fun k x hx => let ⟨Γ', ts, h1, h2, h3, h4⟩ := body k x hx; ⟨Γ', ts, h4, h1, h2, h3⟩) (E.iceM hΓ hz0) (fun x H1 => gName i x σ H1 (N.ends X J B0).nx) fun l us B2 H2 n hl hb hH hd => by
      have n0 : Nw B H B H2 := ⟨.refl _, E.bh.trans n.hh, n.hh, fun _ h _ => h⟩
      exact ⟨B, _, _, (E.nw n0).setO (P := lstO ((xs.filter q).map f)) (F := [l]) i ⟨l, us, rfl, rfl, hH, flats_any hd hfl⟩ (fun a ha => by rw [List.mem_singleton.mp ha]; exact E.bh.none hl)
        (fun k a ha hm => (E.fre k a ha).2 (by rw [List.mem_singleton.mp hm]; exact hl)), (j.nw n0).lay fun a ha => by
          rw [List.mem_singleton.mp ha]
          cases q : J.H l with
          | none => rfl
          | some o => exact absurd hl (j.h1 l (by rw [q]; exact fun z => nomatch z)), h⟩)
theorem rs_lcTMO (t : Nat) (hΓ : Γ[t]? = some (.ob W)) (hz0 : FzM W P) (i : Nat) {x' : Str} {p' lpos : Pos} {elt : Expr} {scope : Scope} {α : Type} {xs : List α} {enc : α → D} {f : α → D} (own : List (Str × Nat)) (hc : X.calm = true) (hN : X.N.Nodup) (hi : GoI X (Γ.set t (.pr P)) tg iter (xs.map enc))
    (body : ∀ (k : Nat) x, xs[k]? = some x → ∃ Γ' ts, (Blk X scope fun X' => GoG X' (wipeG (Γ.set t (.pr P)) (own.map (·.2))) tg (enc x) Γ' ts) ∧ (Blk X scope fun X' => Go X' Γ' elt (f x)) ∧ (∀ t ∈ ts, t ∈ own.map (·.2)))
    (ok : blkC X.N X.env.scope scope own = true) (hsw : swapsWith (.ListComp elt [⟨tg, iter, [], 0⟩] scope lpos) (some (.Name x' p')) pos.line X.env = pure true) (hfl : (xs.map f).all flatD = true) (h : N.nx (Γ.set i (.own (xs.map f)))) (hz : xs.length < 1000000 := by walk_at "pside") (hx : X.N[i]? = some x' := by rfl) (hyl : X.env.scope.names.lookup x' = some .local := by rfl) (hs : ∀ x, foldedSetIterable iter X.env x = pure x := by intro _; rfl) :
    RnS X J N Γ (.Assign [.Name x' p'] (.ListComp elt [⟨tg, iter, [], 0⟩] scope lpos) pos) :=
  rs_lcTO t hΓ hz0 i (q := fun _ => true) own hc hN hi (fun k x hx => let ⟨Γ', ts, h1, h2, h4⟩ := body k x hx; ⟨Γ', ts, h1, fun _ _ _ _ _ => goTs_nil, fun _ => h2, h4⟩) ok hsw (by rw [List.filter_eq_self.mpr fun _ _ => rfl]; exact hfl) (by rw [List.filter_eq_self.mpr fun _ _ => rfl]; exact h) hz hx hyl hs
end
end PL

set_option maxHeartbeats 2000000
namespace PL
open PySem PySem.Spec PyProof.Rows L2
theorem Mu.trans {F F1 : List Addr} {B H B1 H1 B2 H2 : Hp} (m : Mu F B H B1 H1) (m2 : Mu F1 B1 H1 B2 H2) (hF : ∀ a ∈ F1, a ∈ F ∨ H a = none) : Mu F B H B2 H2 :=
  ⟨m.bb.trans m2.bb, m2.bh, (fun a o h hf => m2.hh a o (m.hh a o h hf) (fun z => (hF a z).elim hf (fun q => by rw [q] at h; exact nomatch h))), (fun a h => m2.hd a (m.hd a h)), (fun a h1 h2 => m2.nu a (m.nu a h1 h2) (m.hd a h2))⟩
theorem keepW {K : PySem.W.Frag} {W : Ow} {B H B2 H2 : Hp} {v : V} {F : List Addr} (hW : W.p K B H v F) (n : Nw B H B2 H2) : W.p K B2 H2 v F := W.loc (fun a ha => by
  cases q : H a with
  | none => exact absurd q (W.dom hW a ha)
  | some o => exact n.hh a o q) (W.upB n.bb hW)
section
variable {X : Cx} {J : Jd} {N : Nd} {Γ : Ga} {a b e : Expr} {es rest : List Expr} {P : Mn} {W W1 W2 : Ow} {x y d : D} {ds : List D} {pos : Pos} {i : Nat} {c k l : Bool} {op : CmpOp}
theorem rs_retM (he : GoM X Γ e i W N.rt) (hi : i < Γ.length) (hG : N.rG (Γ.set i (.ob W)) := by exact rfl) (hn : N.rn = none := by rfl) : RnS X J N Γ (.Return (some e) pos) := .mk fun B0 σ B H Fs E j =>
  toS (ps_ret sE) (he.run σ B H Fs E _ fun v v0 B2 H2 F2 m r hσ hW hF => ⟨σ, B2, _, _, E.mu m hi hσ hW hF, j.mu m fun a ha => (hF a ha).2, hG, by rw [hn]; exact r⟩)
theorem gm_imp {P' : Mn} (h : GoM X Γ e i W P) (hp : ∀ K B v, P.p K B v → P'.p K B v) : GoM X Γ e i W P' := .mk fun σ B H Fs E Q q => h.run σ B H Fs E Q fun v v0 B2 H2 F2 m r => q v v0 B2 H2 F2 m (hp _ _ _ r)
theorem gm_is {d' : D} (h : GoM X Γ e i W (datP d)) (he : d = d') : GoM X Γ e i W (datP d') := he ▸ h
theorem gm_ixT {j : Int} (ha : GoM X Γ a i W (datP (.tuple ds))) (hi : i < Γ.length) (hb : Go X (Γ.set i (.ob W)) b (.int j)) (hd : atI ds j = some d) (hs : PlainIx b := by exact fun _ _ => rfl) : GoM X Γ (.Subscript a b pos) i W (datP d) := .mk fun σ B H Fs E Q q =>
  toE (pe_ix ix_tup sE sE hs) (ha.run σ B H Fs E _ fun v v0 B1 H1 F1 m1 r1 h1 w1 f1 => hb σ B1 H1 _ (E.mu m1 hi h1 w1 f1) _ fun w B2 H2 n2 r2 => by
    obtain ⟨p, vs, e1, e2, e3⟩ := dp_tup (dpUp n2.bb r1)
    obtain ⟨u, e4, e5⟩ := dps_atI e3 hd
    refine ⟨p, vs, j, u, e1, dp_int r2, n2.bh.st e2, e4, q u v0 B2 H2 F1 (m1.thenNw n2) e5 h1 (keepW w1 n2) fun b hb => ⟨n2.nu b (f1 b hb).1 (W.dom w1 b hb), (f1 b hb).2⟩⟩)
theorem goTM_cmp {r : V → V → Hp → VK → Prop} (ho : OpR X (compareOp op) r) (ha : GoM X Γ a i W (datP x)) (hi : i < Γ.length) (hb : Go X (Γ.set i (.ob W)) b y) (hr : ∀ v w B H, Ex B H → Dp X.K B v x → Dp X.K B w y → ∀ Q : VK, Q (.bl c) H → r v w H Q)
    (hm : behindInMarks op b = false := by first | exact nobehind _ (by decide) (by decide) | rfl) : GoTM X Γ (.Compare a [op] [b] pos) i W c := .mk fun σ B H Fs E Q q =>
  toT (pt_cmp (pc_op ho sE sE) hm) (ha.run σ B H Fs E _ fun v v0 B1 H1 F1 m1 r1 h1 w1 f1 => hb σ B1 H1 _ (E.mu m1 hi h1 w1 f1) _ fun w B2 H2 n2 r2 =>
    hr v w B2 H2 n2.bh (dpUp n2.bb r1) r2 _ ⟨c, rfl, q v0 B2 H2 F1 (m1.thenNw n2) h1 (keepW w1 n2) fun b hb => ⟨n2.nu b (f1 b hb).1 (W.dom w1 b hb), (f1 b hb).2⟩⟩)
theorem goTM_neD (hu : UOk X) (ha : GoM X Γ a i W (datP x)) (hi : i < Γ.length) (hb : Go X (Γ.set i (.ob W)) b y) (h1 : SeqAt.shaped x = true) (h2 : SeqAt.shaped y = true) (hm : behindInMarks .NotEq b = false := by first | exact nobehind _ (by decide) (by decide) | rfl) : GoTM X Γ (.Compare a [.NotEq] [b] pos) i W (!PyData.eqv x y) :=
  goTM_cmp (op_neD hu.u64) ha hi hb (fun v w B H hB r1 r2 Q q => ⟨x, y, dpUp hB r1, dpUp hB r2, h1, h2, q⟩) hm
theorem gm_cmp {r : V → V → Hp → VK → Prop} (ho : OpR X (compareOp op) r) (ha : GoM X Γ a i W (datP x)) (hi : i < Γ.length) (hb : Go X (Γ.set i (.ob W)) b y) (hr : ∀ v w B H, Ex B H → Dp X.K B v x → Dp X.K B w y → ∀ Q : VK, Q (.bl c) H → r v w H Q)
    (hm : behindInMarks op b = false := by first | exact nobehind _ (by decide) (by decide) | rfl) : GoM X Γ (.Compare a [op] [b] pos) i W (datP (.bool c)) := .mk fun σ B H Fs E Q q =>
  toE (pe_cmp (pc_op ho sE sE) hm) (ha.run σ B H Fs E _ fun v v0 B1 H1 F1 m1 r1 h1 w1 f1 => hb σ B1 H1 _ (E.mu m1 hi h1 w1 f1) _ fun w B2 H2 n2 r2 =>
    hr v w B2 H2 n2.bh (dpUp n2.bb r1) r2 _ (q _ v0 B2 H2 F1 (m1.thenNw n2) (Dp.bl c) h1 (keepW w1 n2) fun b hb => ⟨n2.nu b (f1 b hb).1 (W.dom w1 b hb), (f1 b hb).2⟩))
theorem gm_eqD (hu : UOk X) (ha : GoM X Γ a i W (datP x)) (hi : i < Γ.length) (hb : Go X (Γ.set i (.ob W)) b y) (h1 : SeqAt.shaped x = true) (h2 : SeqAt.shaped y = true) (hm : behindInMarks .Eq b = false := by first | exact nobehind _ (by decide) (by decide) | rfl) : GoM X Γ (.Compare a [.Eq] [b] pos) i W (datP (.bool (PyData.eqv x y))) :=
  gm_cmp (op_eqD hu.u64) ha hi hb (fun v w B H hB r1 r2 Q q => ⟨x, y, dpUp hB r1, dpUp hB r2, h1, h2, q⟩) hm
/-! ### a row of tests, some of them change the thing of the slot i -/
structure GoWM (X : Cx) (Γ : Ga) (e : Expr) (i : Nat) (W : Ow) (k : Bool) : Prop where
  run : ∀ σ B H Fs, En X.K B H σ Γ Fs → ∀ Q : Bool → Hp → Prop, (∀ v0 B2 H2 F2, Mu (Fs i) B H B2 H2 → σ[i]? = some (some v0) → W.p X.K B2 H2 v0 F2 → (∀ a ∈ F2, B2 a = none ∧ (a ∈ Fs i ∨ H a = none)) → Q k H2) → wpW X e σ H Q
theorem goWM_T (h : GoWM X Γ e i W k) : GoTM X Γ e i W k := .mk fun σ B H Fs E Q q pins s I => h.run σ B H Fs E Q q (eval e X.env) pins s I
theorem goWM_or1 (h : GoTM X Γ a i W k) : GoWM X Γ (.BoolOp .Or [a] pos) i W k := .mk fun σ B H Fs E Q q => toW (pw_or1 sT) (h.run σ B H Fs E _ q)
theorem goWM_orP (h : GoT X Γ a false) (h2 : GoWM X Γ (.BoolOp .Or (b :: rest) pos) i W l) : GoWM X Γ (.BoolOp .Or (a :: b :: rest) pos) i W l := .mk fun σ B H Fs E Q q =>
  toW (pw_or sT sW) (h σ B H Fs E _ fun B1 H1 n1 => iteF (h2.run σ B1 H1 Fs (E.nw n1) _ fun v0 B2 H2 F2 m hσ hW hF => q v0 B2 H2 F2 (n1.thenMu m) hσ hW fun b hb => ⟨(hF b hb).1, (hF b hb).2.imp id fun z => n1.hh.none z⟩))
theorem goWM_orM (h : GoTM X Γ a i W1 false) (hi : i < Γ.length) (h2 : GoWM X (Γ.set i (.ob W1)) (.BoolOp .Or (b :: rest) pos) i W l) : GoWM X Γ (.BoolOp .Or (a :: b :: rest) pos) i W l := .mk fun σ B H Fs E Q q =>
  toW (pw_or sT sW) (h.run σ B H Fs E _ fun v0 B1 H1 F1 m1 hσ hW hF => iteF (h2.run σ B1 H1 _ (E.mu m1 hi hσ hW hF) _ fun v1 B2 H2 F2 m2 hσ2 hW2 hF2 => by
    rw [off_same] at m2 hF2
    exact q v1 B2 H2 F2 (m1.trans m2 fun b hb => (hF b hb).2) hσ2 hW2 fun b hb => ⟨(hF2 b hb).1, by
      rcases (hF2 b hb).2 with z | z
      · exact (hF b z).2
      · right
        cases w : H b with
        | none => rfl
        | some o => exact absurd z (m1.hd b (by rw [w]; exact fun z => nomatch z))⟩))
end
end PL

set_option maxHeartbeats 2000000
namespace PL
open PySem PySem.Spec PyProof.Rows L2
/-- what isinstance(x, own class) asks of the top -/
structure IsiT (K : PySem.W.Frag) (mg : Str → Option Value) (own : Str) : Prop where
  ex : ∃ C, ClsAt K own C ∧ mg own = some (.ref C) ∧ Cls K C ∧ PySem.W.findIn K (.ref C) "__class__" = some (some (.builtin "object.__class__")) ∧ PySem.W.specialIn K (.builtin "object.__class__") "__get__" = some (some (.builtin "getset_descriptor.__get__")) ∧
    PySem.W.takesIn K (.builtin "object.__class__") = some true ∧ PySem.W.mroIn K C (.type "object") = some true ∧ PySem.W.kitOne K (.ref C) (.ref C) = some true
section
variable {X : Cx} {J : Jd} {N : Nd} {Γ : Ga} {a : Expr} {pos : Pos}
theorem go_isO {own : Str} {Ps : List (Str × Mn)} {p p2 : Pos} (T : IsiT X.K X.mg own) (he : GoP X Γ a (insP own Ps)) (hmi : X.mg "isinstance" = none)
    (hgi : Gl X "isinstance" := by rfl) (hg : Gl X own := by rfl) (hd : (own == ("__debug__" : Str)) = false := by decide) (he1 : starEach [a, .Name own p2] X.env = (false, eval a X.env) :: starEach [.Name own p2] X.env := by rfl) (he2 : starEach [.Name own p2] X.env = (false, eval (.Name own p2) X.env) :: starEach [] X.env := by rfl) :
    Go X Γ (.Call (.Name "isinstance" p) [a, .Name own p2] [] pos) (.bool true) := by
  obtain ⟨C, hC, hm, cl, h1, h2, h3, h4, h5⟩ := T.ex
  exact go_callB call_isi hgi hmi PyProof.Rows.boot_isinstance (goA_cons he (goA_cons (go_glob hm hg hd) goA_nil he2) he1) (fun vs B H hB rr Q q => by
    obtain ⟨v, w, rfl, h, h6⟩ := mn2 rr
    obtain ⟨C', a', dx, fs, e1, rfl, e3, _⟩ := h
    have h6 : w = .ref C := h6
    subst h6
    cases hC.eq e1
    exact ⟨_, .ref C, _, _, true, rfl, .own C, .base (.ins (hB _ _ e3) cl h1 h2 h3 h4), h5, q _ B H (.same hB) (Dp.bl _)⟩) (by decide) (by decide) he1 (by rw [he2]; rfl)
end
/-! ### own things whose parts are plain -/
def AnyB (W : Ow) : Prop := ∀ (K : PySem.W.Frag) (B B' H : Hp) (v : V) (F : List Addr), W.p K B H v F → W.p K B' H v F
inductive FlatSs : List (Str × Sl) → Prop
  | nil : FlatSs []
  | pr {f : Str} {d : D} {Ss : List (Str × Sl)} : flatD d = true → FlatSs Ss → FlatSs ((f, .dat d) :: Ss)
  | ob {f : Str} {W : Ow} {Ss : List (Str × Sl)} : AnyB W → FlatSs Ss → FlatSs ((f, .ob W) :: Ss)
theorem anyB_lst {ds : List D} (h : ds.all flatD = true) : AnyB (lstO ds) := fun K B B' H v F ⟨a, vs, h1, h2, h3, h4⟩ => ⟨a, vs, h1, h2, h3, flats_any h4 h⟩
theorem FlatSs.any {Ss : List (Str × Sl)} (h : FlatSs Ss) : ∀ {K : PySem.W.Frag} {B B' H : Hp} {vs : List (Str × V)} {F : List Addr}, FlO K B H vs Ss F → FlO K B' H vs Ss F := by
  induction h with
  | nil => intro K B B' H vs F z; cases z; exact .nil
  | pr hd _ ih => intro K B B' H vs F z; cases z with | pr z t => exact .pr (flat_any z hd) (ih t)
  | ob hd _ ih => intro K B B' H vs F z; cases z with | ob z hn t => exact .ob (hd _ _ _ _ _ _ z) hn (ih t)
theorem anyB_ins {x : Str} {Ss : List (Str × Sl)} (h : FlatSs Ss) : AnyB (insO x Ss) := fun K B B' H v F ⟨C, a, dx, vs, F', h1, h2, h3, h4, h5, h6⟩ => ⟨C, a, dx, vs, F', h1, h2, h3, h4, h5, h.any h6⟩
section
variable {X : Cx} {Γ : Ga} {e : Expr} {W R : Ow} {P : Mn}
theorem goU_thM (i : Nat) (hΓ : Γ[i]? = some (.ob W)) (hz : FzM W P) (h : GoU X (Γ.set i (.pr P)) e R) (hR : AnyB R) : GoU X Γ e R := .mk fun σ B H Fs E Q q =>
  h σ _ H _ (E.iceM hΓ hz) Q fun v F B2 H2 n hv hF => q v F B H2 ⟨.refl _, E.bh.trans n.hh, n.hh, fun _ h _ => h⟩ (hR _ _ _ _ _ _ hv) fun a ha => ⟨(hF a ha).1, E.bh.none (hF a ha).1⟩
end
end PL

set_option maxHeartbeats 2000000
namespace PL
open PySem PySem.Spec PyProof.Rows L2
/-! ### a second name of a list within a list of our own -/
/-- such a list whose k-th list stands elsewhere: at p, in the slot of the second name -/
def llH (dss : List (List D)) (k : Nat) (c0 : Addr) : Ow where
  p := fun K B H v F => ∃ a ps, v = .ref a ∧ F = a :: ps.filter (fun b => decide (b ≠ c0)) ∧ H a = some (.lst (ps.map .ref)) ∧ (a :: ps).Nodup ∧ ps[k]? = some c0 ∧ LLs K B (L2.upd H c0 (.lst [])) ps (dss.set k [])
  upB := fun {K B B' H v F} e h => by
    obtain ⟨a, ps, h1, h2, h3, h4, h5, h6⟩ := h
    exact ⟨a, ps, h1, h2, h3, h4, h5, h6.mono e fun _ _ => rfl⟩
  loc := fun {K B H H' v F} e h => by
    obtain ⟨a, ps, h1, h2, h3, h4, h5, h6⟩ := h
    refine ⟨a, ps, h1, h2, (e a (by rw [h2]; exact List.mem_cons_self)).trans h3, h4, h5, h6.mono (.refl _) fun b hb => ?_⟩
    by_cases q : b = c0
    · rw [q, upd_same, upd_same]
    · rw [upd_ne q, upd_ne q]
      exact e b (by rw [h2]; exact List.mem_cons_of_mem _ (List.mem_filter.mpr ⟨hb, decide_eq_true q⟩))
  dom := fun {K B H v F} h b hb => by
    obtain ⟨a, ps, h1, h2, h3, h4, h5, h6⟩ := h
    rw [h2] at hb
    rcases List.mem_cons.mp hb with e | e
    · rw [e, h3]
      exact fun z => nomatch z
    · obtain ⟨e1, e2⟩ := List.mem_filter.mp e
      have := h6.dom b e1
      rwa [upd_ne (of_decide_eq_true e2)] at this
section
variable {K : PySem.W.Frag} {B H : Hp} {σ : L2.St} {Γ : Ga} {Fs : Nat → List Addr} {W : Ow}
theorem En.shrink {i : Nat} {F : List Addr} {v : V} (E : En K B H σ Γ Fs) (hi : i < Γ.length) (hσ : σ[i]? = some (some v)) (hW : W.p K B H v F) (hF : ∀ a ∈ F, a ∈ Fs i) : En K B H σ (Γ.set i (.ob W)) (off Fs i F) :=
  E.mu (Nw.same E.bh).mu hi hσ hW fun a ha => ⟨(E.fre i a (hF a ha)).1, .inl (hF a ha)⟩
end
section
variable {X : Cx} {J : Jd} {N : Nd} {Γ : Ga} {e : Expr} {sts : List Stmt} {pos : Pos} {ds es : List D} {dss : List (List D)}
theorem rs_focus (i j : Nat) {x d : Str} {k : Nat} {p1 p2 p3 : Pos} (hΓ : Γ[i]? = some (.ob (llO dss))) (he : Go X Γ e (.int ((k : Nat) : Int))) (hk : dss[k]? = some ds) (hij : i ≠ j) (hi : i ∉ J.S)
    (h : ∀ p, N.nx ((Γ.set i (.ob (llH dss k p))).set j (.ob (pinO (lstO ds) (.ref p))))) (hN : X.N.Nodup) (hj : X.N[j]? = some x := by rfl) (hx : Loc X.env.scope x := by first | exact .inl rfl | exact .inr rfl)
    (hN2 : X.N[i]? = some d := by rfl) (hv : Vis X.env.scope d := by first | exact Or.inl rfl | exact Or.inr (Or.inl rfl) | exact Or.inr (Or.inr rfl)) (hd : (d == ("__debug__" : Str)) = false := by decide) (hcd : (d == ("__classdict__" : Str)) = false := by decide) (hix : PlainIx e := by exact fun _ _ => rfl)
    (hs : swapsWith (.Subscript (.Name d p2) e p3) (some (.Name x p1)) pos.line X.env = pure false := by rfl) (hf : X.fn x = true ∨ X.env.scope.names.lookup x = some .local := by first | exact .inl rfl | exact .inr rfl) : RnS X J N Γ (.Assign [.Name x p1] (.Subscript (.Name d p2) e p3) pos) := .mk fun B0 σ B H Fs E jn => by
  obtain ⟨v, h1, a, ps, e1, e2, e3, e4, e5⟩ := E.at_ i _ hΓ
  subst e1
  obtain ⟨p, us, f1, f2, f3⟩ := e5.get hk
  have hp : p ∈ ps := List.mem_of_getElem? f1
  rw [e2] at e4
  have np : p ≠ a := fun z => (List.nodup_cons.mp e4).1 (z ▸ hp)
  have hil := (List.getElem?_eq_some_iff.mp hΓ).1
  have pF : p ∈ Fs i := by rw [e2]; exact List.mem_cons_of_mem _ hp
  refine toS (ps_set hN hj hx (pe_ix ix_list (pe_var hN2 hv hd hcd) sE hix) hs hf) ⟨_, h1, he σ B H Fs E _ fun w B2 H2 n r => ?_⟩
  have sm : ∀ b ∈ Fs i, H2 b = H b := fun b hb => by
    cases q : H b with
    | none => exact absurd q (E.fre i b hb).2
    | some o => exact n.hh b o q
  have E2 := E.nw n
  have ll2 : LLs X.K B2 H2 ps dss := e5.mono n.bb fun b hb => sm b (by rw [e2]; exact List.mem_cons_of_mem _ hb)
  refine ⟨a, ps.map .ref, (k : Nat), .ref p, rfl, dp_int r, .of (n.hh _ _ e3), atI_nat (by rw [List.getElem?_map, f1]; rfl), B2, _, off (off Fs i (a :: ps.filter fun b => decide (b ≠ p))) j [p], ?_, ?_, h p⟩
  · refine (E2.shrink hil h1 (W := llH dss k p) ⟨a, ps, rfl, rfl, (sm a (by rw [e2]; exact List.mem_cons_self)).trans e3, e4, f1, ?_⟩ (fun b hb => ?_)).setO j (P := pinO (lstO ds) (.ref p)) ⟨rfl, p, us, rfl, rfl, (sm p pF).trans f2, dpsUp n.bb f3⟩ (fun b hb => ?_) (fun m b hb hm => ?_)
    · exact ll2.set .nil (List.nodup_cons.mp e4).2 f1
    · rw [e2]
      rcases List.mem_cons.mp hb with z | z
      · rw [z]; exact List.mem_cons_self
      · exact List.mem_cons_of_mem _ (List.mem_filter.mp z).1
    · rw [List.mem_singleton.mp hb]
      exact (E2.fre i p pF).1
    · rw [List.mem_singleton.mp hm] at hb
      by_cases q : m = i
      · subst q
        rw [off_same] at hb
        rcases List.mem_cons.mp hb with z | z
        · exact np z
        · exact of_decide_eq_true (List.mem_filter.mp z).2 rfl
      · rw [off_ne q] at hb
        exact q (E.dis m i p hb pF)
  · refine ⟨(jn.nw n).b0, (jn.nw n).nb, (jn.nw n).h0, (jn.nw n).h1, fun m b hb => ?_⟩
    have old : ∀ c ∈ Fs i, J.H c = none := fun c hc => by
      rcases jn.fm i c hc with z | z
      · exact z
      · exact absurd z.2 hi
    by_cases q : m = j
    · subst q
      rw [off_same] at hb
      rw [List.mem_singleton.mp hb]
      exact .inl (old p pF)
    · rw [off_ne q] at hb
      by_cases q2 : m = i
      · subst q2
        rw [off_same] at hb
        refine .inl (old b ?_)
        rw [e2]
        rcases List.mem_cons.mp hb with z | z
        · rw [z]; exact List.mem_cons_self
        · exact List.mem_cons_of_mem _ (List.mem_filter.mp z).1
      · rw [off_ne q2] at hb
        exact jn.fm m b hb
theorem rn_unfocus (i j : Nat) {k : Nat} {p : Addr} (hΓi : Γ[i]? = some (.ob (llH dss k p))) (hΓj : Γ[j]? = some (.ob (pinO (lstO es) (.ref p)))) (hij : i ≠ j) (hS : J.S = [])
    (h : Rn X J N ((Γ.set i (.ob (llO (dss.set k es)))).set j .any) sts) : Rn X J N Γ sts := .mk fun B0 σ B H Fs E jn => by
  obtain ⟨v, h1, a, ps, e1, e2, e3, e4, e5, e6⟩ := E.at_ i _ hΓi
  subst e1
  obtain ⟨v2, g1, g2, b, us, g3, g4, g5, g6⟩ := E.at_ j _ hΓj
  subst g2
  cases g3
  have hp : p ∈ ps := List.mem_of_getElem? e5
  have hil := (List.getElem?_eq_some_iff.mp hΓi).1
  have orig : ∀ m c, c ∈ off (off Fs i (a :: ps)) j [] m → (m = i ∧ (c ∈ Fs i ∨ c ∈ Fs j)) ∨ (m ≠ i ∧ m ≠ j ∧ c ∈ Fs m) := fun m c hc => by
    by_cases q : m = j
    · subst q
      rw [off_same] at hc
      cases hc
    · rw [off_ne q] at hc
      by_cases q2 : m = i
      · subst q2
        rw [off_same] at hc
        refine .inl ⟨rfl, ?_⟩
        rcases List.mem_cons.mp hc with z | z
        · left; rw [z, e2]; exact List.mem_cons_self
        · by_cases w : c = p
          · right; rw [w, g4]; exact List.mem_cons_self
          · left; rw [e2]; exact List.mem_cons_of_mem _ (List.mem_filter.mpr ⟨z, decide_eq_true w⟩)
      · rw [off_ne q2] at hc
        exact .inr ⟨q2, q, hc⟩
  have ll : LLs X.K B H ps (dss.set k es) := by
    have := e6.set g6 (List.nodup_cons.mp e4).2 e5
    rw [List.set_set] at this
    refine this.mono (.refl _) fun c _ => ?_
    by_cases w : c = p
    · rw [w, upd_same]; exact g5
    · rw [upd_ne w, upd_ne w]
  refine h B0 σ B H (off (off Fs i (a :: ps)) j []) ⟨E.bh, by rw [List.length_set, List.length_set]; exact E.len, fun m s hs => ?_, fun m c hc => ?_, fun m1 m2 c h1 h2 => ?_⟩ ⟨jn.b0, jn.nb, jn.h0, jn.h1, fun m c hc => ?_⟩
  · by_cases q : j = m
    · subst q
      by_cases w : j < (Γ.set i (.ob (llO (dss.set k es)))).length
      · rw [List.getElem?_set_self w] at hs
        cases hs
        trivial
      · rw [List.getElem?_eq_none (by rw [List.length_set]; omega)] at hs
        cases hs
    · rw [List.getElem?_set_ne q] at hs
      rw [off_ne (Ne.symm q)]
      by_cases q2 : i = m
      · subst q2
        rw [List.getElem?_set_self hil] at hs
        cases hs
        rw [off_same]
        exact ⟨_, h1, a, ps, rfl, rfl, e3, e4, ll⟩
      · rw [List.getElem?_set_ne q2] at hs
        rw [off_ne (Ne.symm q2)]
        exact E.at_ m s hs
  · rcases orig m c hc with ⟨_, z | z⟩ | ⟨_, _, z⟩
    · exact E.fre i c z
    · exact E.fre j c z
    · exact E.fre m c z
  · rcases orig m1 c h1 with ⟨r1, z1⟩ | ⟨r1, s1, z1⟩ <;> rcases orig m2 c h2 with ⟨r2, z2⟩ | ⟨r2, s2, z2⟩
    · rw [r1, r2]
    · rcases z1 with z1 | z1
      · exact absurd (E.dis m2 i c z2 z1) r2
      · exact absurd (E.dis m2 j c z2 z1) s2
    · rcases z2 with z2 | z2
      · exact absurd (E.dis m1 i c z1 z2) r1
      · exact absurd (E.dis m1 j c z1 z2) s1
    · exact E.dis m1 m2 c z1 z2
  · have nS : ∀ n, n ∉ J.S := fun n z => by rw [hS] at z; cases z
    have old : ∀ n c, c ∈ Fs n → J.H c = none := fun n c hc => by
      rcases jn.fm n c hc with z | z
      · exact z
      · exact absurd z.2 (nS n)
    rcases orig m c hc with ⟨_, z | z⟩ | ⟨_, _, z⟩
    · exact .inl (old i c z)
    · exact .inl (old j c z)
    · exact .inl (old m c z)
theorem rn_to {Γ' : Ga} (e : Γ = Γ') (h : Rn X J N Γ' sts) : Rn X J N Γ sts := e ▸ h
theorem gol_nameP (i : Nat) {x : Str} {v0 : V} (hΓ : Γ[i]? = some (.ob (pinO (lstO ds) v0)) := by rfl) (hN : X.N[i]? = some x := by rfl) (hv : Vis X.env.scope x := by first | exact Or.inl rfl | exact Or.inr (Or.inl rfl) | exact Or.inr (Or.inr rfl))
    (hd : (x == ("__debug__" : Str)) = false := by decide) (hcd : (x == ("__classdict__" : Str)) = false := by decide) : GoL X Γ (.Name x pos) i ds fun es => pinO (lstO es) v0 := .mk fun σ B H Fs E Q q => by
  obtain ⟨v, h1, h0, a, vs, h2, h3, h4, h5⟩ := E.at_ i _ hΓ
  subst h2
  subst h0
  exact toE (pe_var hN hv hd hcd) ⟨_, h1, q a vs _ B H (.same E.bh) h1 (by rw [h3]; exact List.mem_cons_self) h4 h5 fun B' H' _ _ us es hu => ⟨rfl, a, us, rfl, h3, upd_same, hu⟩⟩
end
/-! ### a list of new lists by a comprehension -/
section
variable {X : Cx} {Γ : Ga} {tg iter elt : Expr} {pos : Pos}
theorem LLs.snoc {K : PySem.W.Frag} {B H : Hp} {p : Addr} {us : List V} {ds : List D} (h1 : H p = some (.lst us)) (h2 : DpAll K B us ds) : ∀ {ps : List Addr} {dss : List (List D)}, LLs K B H ps dss → LLs K B H (ps ++ [p]) (dss ++ [ds])
  | _, _, .nil => .cons h1 h2 .nil
  | _, _, .cons a b t => .cons a b (LLs.snoc h1 h2 t)
theorem LLs.len {K : PySem.W.Frag} {B H : Hp} : ∀ {ps : List Addr} {dss : List (List D)}, LLs K B H ps dss → ps.length = dss.length
  | _, _, .nil => rfl
  | _, _, .cons _ _ t => congrArg (· + 1) t.len
theorem lc_runU {scope : Scope} {vs : List Nat} {α : Type} {xs : List α} {enc : α → D} (f : α → List D) (hi : GoI X Γ tg iter (xs.map enc)) (hz : xs.length < sizeLine)
    (body : ∀ (k : Nat) x, xs[k]? = some x → ∃ Γ' ts, (∀ t ∈ ts, t ∈ vs) ∧ (Blk X scope fun X' => GoG X' (wipeG Γ vs) tg (enc x) Γ' ts) ∧ (Blk X scope fun X' => GoN X' Γ' elt (f x)))
    {σ B H Fs} (E : En X.K B H σ Γ Fs) (Q : VK)
    (q : ∀ l ps B2 H2, Nw B H B2 H2 → H l = none → B2 l = none → H2 l = some (.lst (ps.map .ref)) → (l :: ps).Nodup → (∀ a ∈ ps, H a = none ∧ B2 a = none) → LLs X.K B2 H2 ps (xs.map f) → Q (.ref l) H2) : lcRd X scope tg [] elt iter vs σ H Q := by
  refine hi σ B H Fs E _ fun I B1 H1 n1 it => ?_
  intro Dl hDl
  have E1 := E.nw n1
  have hl : (xs.map enc).length = xs.length := List.length_map _
  refine ⟨fun i m H' => m = xs.length - i ∧ i ≤ xs.length ∧ ∃ B' ps, Nw B1 H1 B' H' ∧ B' Dl = none ∧ H' Dl = some (.lst (ps.map .ref)) ∧ (Dl :: ps).Nodup ∧ (∀ a ∈ ps, H1 a = none ∧ B' a = none) ∧ LLs X.K B' H' ps ((xs.take i).map f),
    ⟨xs.length, by omega, Nat.zero_le _, B1, [], .lay n1.bh hDl, n1.bh.none hDl, upd_same, by simp, (fun _ z => nomatch z), by rw [List.take_zero]; exact .nil⟩, ?_⟩
  rintro i m H' ⟨rfl, hi', B', ps, n', hb, hH, nd, hps, hd⟩
  have nDl : ∀ {j : Nat}, Dl ∉ Fs j := fun {j} ha => (E1.fre j Dl ha).2 hDl
  by_cases hlt : i < xs.length
  · refine .inr ⟨it.go i H' (by rw [hl]; exact hlt) (n'.bb.trans n'.bh), fun H' => i + 1 ≤ xs.length ∧ ∃ B' ps, Nw B1 H1 B' H' ∧ B' Dl = none ∧ H' Dl = some (.lst (ps.map .ref)) ∧ (Dl :: ps).Nodup ∧ (∀ a ∈ ps, H1 a = none ∧ B' a = none) ∧ LLs X.K B' H' ps ((xs.take (i + 1)).map f), fun H' pp => ⟨xs.length - (i + 1), by omega, rfl, pp⟩, fun x H'' y => ?_⟩
    have ge : (xs.map enc)[i]? = some (enc xs[i]) := by
      rw [List.getElem?_map, List.getElem?_eq_getElem hlt]
      rfl
    obtain ⟨B2, n2, r2⟩ := it.yld i H' x H'' B' _ ge n'.bb n'.bh y
    obtain ⟨Γ', ts, hts, hg, he⟩ := body i xs[i] (List.getElem?_eq_getElem hlt)
    have E2 : En X.K B2 H'' (wipe σ vs) (wipeG Γ vs) Fs := ((E1.nw n').nw n2).wipe vs
    have acl : (ps.map V.ref).length ≤ xs.length := by
      rw [List.length_map, hd.len, List.length_map, List.length_take]
      omega
    have eT : xs.take (i + 1) = xs.take i ++ [xs[i]] := by rw [List.take_succ_eq_append_getElem hlt]
    intro s0 H0 C0 cl0 fp0
    refine hg s0 H0 C0 cl0 fp0 (wipe σ vs) B2 H'' Fs x E2 r2 _ fun σ2 F2 E3 sb hw => ⟨(hw vs hts).trans (wipe_wipe vs), ?_⟩
    intro s1 H1' C1 cl1 fp1
    have ht : Blk X scope fun X' => GoTs X' Γ' [] true := fun _ _ _ _ _ => goTs_nil
    refine ht s1 H1' C1 cl1 fp1 σ2 B2 H'' F2 E3 _ fun B4 H4 n4 => ?_
    have dk : B4 Dl = none := n4.nu Dl (n2.nu Dl hb (by rw [hH]; exact fun z => nomatch z)) (by rw [n2.hh Dl _ hH]; exact fun z => nomatch z)
    have dH : H4 Dl = some (.lst (ps.map .ref)) := n4.hh Dl _ (n2.hh Dl _ hH)
    have nAll := (n'.trans n2).trans n4
    refine iteT ?_
    intro s2 H2' C2 cl2 fp2
    refine he s2 H2' C2 cl2 fp2 σ2 B4 H4 F2 (E3.nw n4) _ fun p' us' B5 H5 n5 hp5 hb5 hH5 hd5 => ?_
    have d5 : B5 Dl = none := n5.nu Dl dk (by rw [dH]; exact fun z => nomatch z)
    have dH5 : H5 Dl = some (.lst (ps.map .ref)) := n5.hh Dl _ dH
    have n6 := nAll.trans n5
    have npD : p' ≠ Dl := fun z => by
      rw [z, dH] at hp5
      cases hp5
    have hdd := hd.mono (n2.bb.trans n4.bb |>.trans n5.bb) (H' := H5) fun b hbm => by
      cases w : H' b with
      | none => exact absurd w (hd.dom b hbm)
      | some o => exact n5.hh b o (n4.hh b o (n2.hh b o w))
    have nips : p' ∉ ps := fun z => by
      have h1 := hd.dom p' z
      cases w : H' p' with
      | none => exact h1 w
      | some o =>
        rw [n4.hh p' o (n2.hh p' o w)] at hp5
        cases hp5
    refine ⟨ps.map .ref, dH5, Nat.lt_of_le_of_lt acl hz, hlt, B5, ps ++ [p'], ⟨n6.bb, fun a u e => ?_, fun a u e => ?_, n6.nu⟩, d5, ?_, ?_, fun a ha => ?_, ?_⟩
    · rw [upd_ne (ne_of_none e d5)]
      exact n6.bh a u e
    · rw [upd_ne (ne_of_none e hDl)]
      exact n6.hh a u e
    · rw [upd_same, List.map_append]
      rfl
    · rw [← List.cons_append]
      refine List.nodup_append.mpr ⟨nd, by simp, fun a ha b hb z => ?_⟩
      rw [List.mem_singleton.mp hb] at z
      rcases List.mem_cons.mp ha with w | w
      · exact npD (z.symm.trans w)
      · exact nips (z ▸ w)
    · rcases List.mem_append.mp ha with z | z
      · exact ⟨(hps a z).1, n5.nu a (n4.nu a (n2.nu a (hps a z).2 (hd.dom a z)) (by have h1 := hd.dom a z; cases w : H' a with | none => exact absurd w h1 | some o => rw [n2.hh a o w]; exact fun z => nomatch z)) (by have h1 := hd.dom a z; cases w : H' a with | none => exact absurd w h1 | some o => rw [n4.hh a o (n2.hh a o w)]; exact fun z => nomatch z)⟩
      · rw [List.mem_singleton.mp z]
        exact ⟨nAll.hh.none hp5, hb5⟩
    · rw [eT, List.map_append]
      refine (LLs.snoc (ps := ps) hH5 hd5 hdd).mono (.refl _) fun b hbm => upd_ne fun z => ?_
      rcases List.mem_append.mp hbm with w | w
      · exact (List.nodup_cons.mp nd).1 (z ▸ w)
      · exact npD ((List.mem_singleton.mp w).symm.trans z)
  · have e : i = xs.length := by omega
    subst e
    rw [List.take_length] at hd
    exact .inl ⟨by rw [← hl]; exact it.stop H' (n'.bb.trans n'.bh), q Dl ps B' H' (n1.trans n') (n1.hh.none hDl) hb hH nd (fun a ha => ⟨n1.hh.none (hps a ha).1, (hps a ha).2⟩) hd⟩
theorem goU_lc {scope : Scope} {α : Type} {xs : List α} {enc : α → D} {f : α → List D} (own : List (Str × Nat)) (hc : X.calm = true) (hN : X.N.Nodup) (hi : GoI X Γ tg iter (xs.map enc))
    (body : ∀ (k : Nat) x, xs[k]? = some x → ∃ Γ' ts, (Blk X scope fun X' => GoG X' (wipeG Γ (own.map (·.2))) tg (enc x) Γ' ts) ∧ (Blk X scope fun X' => GoN X' Γ' elt (f x)) ∧ (∀ t ∈ ts, t ∈ own.map (·.2)))
    (ok : blkC X.N X.env.scope scope own = true) (hz : xs.length < 1000000 := by walk_at "pside") (hs : ∀ x, foldedSetIterable iter X.env x = pure x := by intro _; rfl) :
    GoU X Γ (.ListComp elt [⟨tg, iter, [], 0⟩] scope pos) (llO (xs.map f)) := .mk fun σ B H Fs E Q q =>
  toE (pe_lc (own := own) hc hN sI (blkOk_by ok) (fun s H C cl fp => ⟨fun pins s' σ H v u Q I r h => (h s _ C cl fp) pins s' u I r⟩) (fun s H C cl fp => ⟨fun pins s' σ H Q I h => (h s _ C cl fp) pins s' I⟩) (fun s H C cl fp => ⟨fun pins s' σ H Q I h => (h s _ C cl fp) pins s' I⟩) hs)
    (lc_runU f hi (ltZ hz) (fun k x hx => let ⟨Γ', ts, h1, h2, h4⟩ := body k x hx; ⟨Γ', ts, h4, h1, h2⟩) E Q fun l ps B2 H2 n hl0 hb hH nd hps ll => q _ (l :: ps) B2 H2 n ⟨l, ps, rfl, rfl, hH, nd, ll⟩ fun a ha => by
      rcases List.mem_cons.mp ha with z | z
      · rw [z]
        exact ⟨hl0, hb⟩
      · exact hps a z)
end
end PL

set_option maxHeartbeats 2000000
namespace PL
open PySem PySem.Spec PyProof.Rows L2
section
variable {X : Cx} {J : Jd} {N : Nd} {Γ : Ga} {tg iter : Expr} {pos : Pos}
/-- name = [new list for ..] -/
theorem rs_lcU (i : Nat) {x' : Str} {p' lpos : Pos} {elt : Expr} {scope : Scope} {α : Type} {xs : List α} {enc : α → D} {f : α → List D} (own : List (Str × Nat)) (hc : X.calm = true) (hN : X.N.Nodup) (hi : GoI X Γ tg iter (xs.map enc))
    (body : ∀ (k : Nat) x, xs[k]? = some x → ∃ Γ' ts, (Blk X scope fun X' => GoG X' (wipeG Γ (own.map (·.2))) tg (enc x) Γ' ts) ∧ (Blk X scope fun X' => GoN X' Γ' elt (f x)) ∧ (∀ t ∈ ts, t ∈ own.map (·.2)))
    (ok : blkC X.N X.env.scope scope own = true) (hsw : swapsWith (.ListComp elt [⟨tg, iter, [], 0⟩] scope lpos) (some (.Name x' p')) pos.line X.env = pure true) (h : N.nx (Γ.set i (.ob (llO (xs.map f))))) (hz : xs.length < 1000000 := by walk_at "pside") (hx : X.N[i]? = some x' := by rfl) (hyl : X.env.scope.names.lookup x' = some .local := by rfl) (hs : ∀ x, foldedSetIterable iter X.env x = pure x := by intro _; rfl) :
    RnS X J N Γ (.Assign [.Name x' p'] (.ListComp elt [⟨tg, iter, [], 0⟩] scope lpos) pos) := .mk fun B0 σ B H Fs E j =>
  toS (ps_setLc (own := own) hc hN hx hyl hsw sI (blkOk_by ok) (fun s H C cl fp => ⟨fun pins s' σ H v u Q I r h => (h s _ C cl fp) pins s' u I r⟩) (fun s H C cl fp => ⟨fun pins s' σ H Q I h => (h s _ C cl fp) pins s' I⟩) (fun s H C cl fp => ⟨fun pins s' σ H Q I h => (h s _ C cl fp) pins s' I⟩) hs)
    (lc_runU f hi (ltZ hz) (fun k x hx => let ⟨Γ', ts, h1, h2, h4⟩ := body k x hx; ⟨Γ', ts, h4, h1, h2⟩) E (fun x H1 => gName i x σ H1 (N.ends X J B0).nx) fun l ps B2 H2 n hl hb hH nd hps ll => by
      have hF : ∀ a ∈ l :: ps, H a = none ∧ B2 a = none := fun a ha => by
        rcases List.mem_cons.mp ha with z | z
        · rw [z]
          exact ⟨hl, hb⟩
        · exact hps a z
      exact ⟨B2, _, _, (E.nw n).setO (P := llO (xs.map f)) (F := l :: ps) i ⟨l, ps, rfl, rfl, hH, nd, ll⟩ (fun a ha => (hF a ha).2) (fun k a ha hm => (E.fre k a ha).2 (hF a hm).1), (j.nw n).lay fun a ha => by
        cases q : J.H a with
        | none => rfl
        | some o => exact absurd (hF a ha).1 (j.h1 a (by rw [q]; exact fun z => nomatch z)), h⟩)
end
/-! ### a op b op c -/
section
variable {X : Cx} {Γ : Ga} {a b c : Expr} {pos : Pos}
theorem go_chainI {op op' : CmpOp} {g g' : Int → Int → Bool} {i j k : Int} (ho : OpR X (compareOp op) (rI0 fun i j => .bl (g i j))) (ho' : OpR X (compareOp op') (rI0 fun i j => .bl (g' i j))) (ha : Go X Γ a (.int i)) (hb : Go X Γ b (.int j)) (hc : Go X Γ c (.int k))
    (hm : lastMarks [op, op'] [b, c] = false := by with_unfolding_all rfl) : Go X Γ (.Compare a [op, op'] [b, c] pos) (.bool (g i j && g' j k)) := .mk fun σ B H Fs E Q q => by
  refine toE (pe_chain ho ho' sE sE sE hm) (ha σ B H Fs E _ fun v B1 H1 n1 r1 => hb σ B1 H1 Fs (E.nw n1) _ fun w B2 H2 n2 r2 => ⟨i, j, dp_int (dpUp n2.bb r1), dp_int r2, g i j, rfl, ?_⟩)
  cases h : g i j with
  | false =>
    rw [h] at q
    exact iteF (q _ B2 H2 (n1.trans n2) (Dp.bl _))
  | true =>
    rw [h] at q
    exact iteT (hc σ B2 H2 Fs ((E.nw n1).nw n2) _ fun u B3 H3 n3 r3 => ⟨j, k, dp_int (dpUp n3.bb r2), dp_int r3, q _ B3 H3 ((n1.trans n2).trans n3) (Dp.bl _)⟩)
theorem go_chainIT {op op' : CmpOp} {g g' : Int → Int → Bool} {i j k : Int} (ho : OpR X (compareOp op) (rI0 fun i j => .bl (g i j))) (ho' : OpR X (compareOp op') (rI0 fun i j => .bl (g' i j))) (ha : Go X Γ a (.int i)) (hb : Go X Γ b (.int j)) (hc : Go X Γ c (.int k))
    (hm : lastMarks [op, op'] [b, c] = false := by with_unfolding_all rfl) : GoT X Γ (.Compare a [op, op'] [b, c] pos) (g i j && g' j k) := .mk fun σ B H Fs E Q q => by
  refine toT (pt_chain ho ho' sE sE sE hm) (ha σ B H Fs E _ fun v B1 H1 n1 r1 => hb σ B1 H1 Fs (E.nw n1) _ fun w B2 H2 n2 r2 => ⟨i, j, dp_int (dpUp n2.bb r1), dp_int r2, g i j, rfl, ?_⟩)
  cases h : g i j with
  | false =>
    rw [h] at q
    exact iteF ⟨_, rfl, q B2 H2 (n1.trans n2)⟩
  | true =>
    rw [h] at q
    exact iteT (hc σ B2 H2 Fs ((E.nw n1).nw n2) _ fun u B3 H3 n3 r3 => ⟨j, k, dp_int (dpUp n3.bb r2), dp_int r3, _, rfl, q B3 H3 ((n1.trans n2).trans n3)⟩)
end
end PL

set_option maxHeartbeats 2000000
namespace PL
open PySem PySem.Spec PyProof.Rows L2
/-! ### a dict of our own: from ints to ints -/
def dcO (n : Nat) (g : Int → Option Int) : Ow where
  p := fun K B H v F => ∃ (a : Addr) (kvs : List (Key × V)), v = .ref a ∧ F = [a] ∧ H a = some (.dK kvs) ∧ kvs.length ≤ n ∧ ∀ k : Int, valV kvs (Sum.inl k : Key) = (g k).map V.int
  upB := fun _ h => h
  loc := fun e ⟨a, kvs, h1, h2, h3, h4, h5⟩ => ⟨a, kvs, h1, h2, (e a (by rw [h2]; exact List.mem_cons_self)).trans h3, h4, h5⟩
  dom := fun ⟨a, kvs, h1, h2, h3, h4, h5⟩ b hb => by
    rw [h2] at hb
    rw [List.mem_singleton.mp hb, h3]
    exact fun z => nomatch z
theorem putK_le (c : List (Key × V)) (k : Key) (x : V) : (putK c k x).length ≤ c.length + 1 := by
  unfold putK
  split
  · rw [List.length_map]
    omega
  · rw [List.length_append]
    exact Nat.le_refl _
section
variable {X : Cx} {J : Jd} {N : Nd} {Γ : Ga} {e f : Expr} {pos apos cpos : Pos} {n : Nat} {g : Int → Option Int} {k z : Int}
theorem goU_dict : GoU X Γ (.Dict [] [] pos) (dcO 0 fun _ => none) := .mk fun σ B H Fs E Q q =>
  toE pe_dnewK fun p hp => q _ [p] B _ (.lay E.bh hp) ⟨p, [], rfl, rfl, upd_same, Nat.le_refl _, fun _ => rfl⟩ fun a ha => by
    rw [List.mem_singleton.mp ha]
    exact ⟨hp, E.bh.none hp⟩
/-- x.get(k, d) -/
theorem go_dget2 (i : Nat) {x : Str} {p' : Pos} (hu : UOk X) (hΓ : Γ[i]? = some (.ob (dcO n g))) (hk : Go X Γ e (.int k)) (hd : Go X Γ f (.int z)) (hN : X.N[i]? = some x := by rfl) (hv : Vis X.env.scope x := by first | exact Or.inl rfl | exact Or.inr (Or.inl rfl) | exact Or.inr (Or.inr rfl))
    (hdb : (x == ("__debug__" : Str)) = false := by decide) (hcd : (x == ("__classdict__" : Str)) = false := by decide)
    (m1 : attributeBase (.Name x p') "get" X.env (eval (.Name x p') X.env) = eval (.Name x p') X.env := by rfl)
    (m2 : ((backTo cpos (starEach [e, f] X.env)).all (fun x => !x.1) && (backToKw cpos (keywordEach [] X.env)).all (fun x => x.1.isSome)
    && decide (([e, f] : List Expr).length + ([] : List Keyword).length + (if ([] : List Keyword).isEmpty then 0 else 1) < 30)) = true := by rfl)
    (m3 : (apos.endLine == cpos.line) = true := by rfl) (m4 : backTo cpos (starEach [e, f] X.env) = [(false, eval e X.env), (false, eval f X.env)] := by rfl) :
    Go X Γ (.Call (.Attribute (.Name x p') "get" apos) [e, f] [] cpos) (.int ((g k).getD z)) := .mk fun σ B H Fs E Q q => by
  obtain ⟨v, h1, a, kvs, rfl, h3, h4, h5, h6⟩ := E.at_ i _ hΓ
  refine toE (pe_dget2 (by have := hu.u65; omega) (pe_var hN hv hdb hcd) sE sE ⟨m1, m2, m3, m4⟩) ⟨_, h1, a, rfl, .inl ⟨kvs, .of h4⟩, hk σ B H Fs E _ fun v1 B1 H1 n1 r1 => hd σ B1 H1 Fs (E.nw n1) _ fun v2 B2 H2 n2 r2 => ?_⟩
  have n := n1.trans n2
  rw [dp_int r1, dp_int r2]
  refine ⟨_, DGet.k (k := Sum.inl k) (n.hh _ _ h4), ?_⟩
  rw [h6]
  generalize g k = o at q ⊢
  cases o with
  | none => exact q _ B2 H2 n (Dp.int _)
  | some u => exact q _ B2 H2 n (Dp.int _)
/-- x[k] = e -/
theorem rs_dput (i : Nat) {n0 : Nat} {x : Str} {p' q' : Pos} (hu : UOk X) (hΓ : Γ[i]? = some (.ob (dcO n0 g))) (he : Go X Γ f (.int z)) (hk : Go X Γ e (.int k)) (hl : n0 < 1000) (h : N.nx (Γ.set i (.ob (dcO (n0 + 1) fun j => if j = k then some z else g j)))) (hi : i < Γ.length) (hN : X.N[i]? = some x := by rfl) (hv : Vis X.env.scope x := by first | exact Or.inl rfl | exact Or.inr (Or.inl rfl) | exact Or.inr (Or.inr rfl))
    (hdb : (x == ("__debug__" : Str)) = false := by decide) (hcd : (x == ("__classdict__" : Str)) = false := by decide) (hs : swapsWith f (some (.Subscript (.Name x p') e q')) pos.line X.env = pure false := by rfl) : RnS X J N Γ (.Assign [.Subscript (.Name x p') e q'] f pos) := .mk fun B0 σ B H Fs E j =>
  toS (ps_dput (by have := hu.u65; omega) (pe_var hN hv hdb hcd) sE sE hs) (he σ B H Fs E _ fun v1 B1 H1 n1 r1 => by
    obtain ⟨v, h1, a, kvs, rfl, h3, h4, h5, h6⟩ := (E.nw n1).at_ i _ hΓ
    refine ⟨_, h1, hk σ B1 H1 Fs (E.nw n1) _ fun v2 B2 H2 n2 r2 => ?_⟩
    have n := n1.trans n2
    rw [dp_int r1, dp_int r2]
    have ea : H2 a = some (.dK kvs) := n2.hh _ _ h4
    have m : Mu (Fs i) B2 H2 B2 (upd H2 a (.dK (putK kvs (Sum.inl k : Key) (.int z)))) := ⟨.refl _, fun b o y => by
      have nb : b ≠ a := fun q => by
        have := ((E.nw n).fre i a (by rw [h3]; exact List.mem_cons_self)).1
        rw [q, this] at y
        cases y
      rw [upd_ne nb]
      exact n.bh b o y, fun b o y hF => by
      rw [upd_ne (fun q => hF (by rw [q, h3]; exact List.mem_cons_self))]
      exact y, fun b y q => by
      by_cases w : b = a
      · rw [w, upd_same] at q
        cases q
      · rw [upd_ne w] at q
        exact y q, fun _ y _ => y⟩
    refine ⟨a, _, rfl, DPut.k (k := Sum.inl k) ea (Nat.lt_of_le_of_lt h5 (Nat.lt_of_lt_of_le hl (by decide))), B2, _, _, (E.nw n).mu (W := dcO (n0 + 1) fun j => if j = k then some z else g j) m hi h1 (F2 := [a]) ⟨a, _, rfl, rfl, upd_same, Nat.le_trans (putK_le _ _ _) (Nat.succ_le_succ h5), fun j => ?_⟩ (fun b hb => ?_), (j.nw n).mu m (fun b hb => ?_), h⟩
    · show valV _ _ = Option.map V.int (if j = k then some z else g j)
      rw [valV_put, h6]
      by_cases w : j = k
      · rw [if_pos (by rw [w]), if_pos w]
        rfl
      · rw [if_neg (fun y => w (Sum.inl.inj y)), if_neg w]
    · rw [List.mem_singleton.mp hb]
      have ha : a ∈ Fs i := by rw [h3]; exact List.mem_cons_self
      exact ⟨((E.nw n).fre i a ha).1, .inl ha⟩
    · rw [List.mem_singleton.mp hb]
      exact .inl (by rw [h3]; exact List.mem_cons_self))
end
end PL

set_option maxHeartbeats 2000000
namespace PL
open PySem PySem.Spec PyProof.Rows L2
/-! ### a for over a list of our own that stays -/
section
variable {K : PySem.W.Frag} {B H : Hp} {σ : L2.St} {Γ : Ga} {Fs : Nat → List Addr} {W : Ow}
theorem En.pin {i : Nat} {v : V} (E : En K B H σ Γ Fs) (hΓ : Γ[i]? = some (.ob W)) (hσ : σ[i]? = some (some v)) : En K B H σ (Γ.set i (.ob (pinO W v))) Fs := ⟨E.bh, by rw [List.length_set]; exact E.len, fun j s hs => by
  by_cases e : i = j
  · subst e
    rw [List.getElem?_set_self (List.getElem?_eq_some_iff.mp hΓ).1] at hs
    cases hs
    obtain ⟨u, h1, h2⟩ := E.at_ i _ hΓ
    rw [hσ] at h1
    cases h1
    exact ⟨v, hσ, rfl, h2⟩
  · rw [List.getElem?_set_ne e] at hs
    exact E.at_ j s hs, E.fre, E.dis⟩
end
section
variable {X : Cx} {J : Jd} {N : Nd} {Γ : Ga} {tg e e1 e2 e3 b : Expr} {body sts : List Stmt} {ds ds2 : List D} {dss : List (List D)} {pos p2 : Pos}
theorem rs_forO (i0 : Nat) {x : Str} {p' : Pos} (Iv : V → Nat → Ga → Prop) (hΓ : Γ[i0]? = some (.own ds)) (h0 : ∀ v0, Iv v0 0 (Γ.set i0 (.ob (pinO (lstO ds) v0)))) (hO : ∀ v0 k Γ', Iv v0 k Γ' → Γ'[i0]? = some (.ob (pinO (lstO ds) v0)))
    (hb : ∀ v0 k d Γ', ds[k]? = some d → Iv v0 k Γ' → ∃ Γ2 ts, GoG X Γ' tg d Γ2 ts ∧ Rn X J { N with nx := Iv v0 (k + 1), ct := Iv v0 (k + 1), bk := N.nx } Γ2 body) (hd : ∀ v0 Γ', Iv v0 ds.length Γ' → N.nx Γ')
    (hc : X.calm = true) (hN : X.N[i0]? = some x := by rfl) (hv : Vis X.env.scope x := by first | exact Or.inl rfl | exact Or.inr (Or.inl rfl) | exact Or.inr (Or.inr rfl)) (hdb : (x == ("__debug__" : Str)) = false := by decide) (hcd : (x == ("__classdict__" : Str)) = false := by decide)
    (hp : PassesOwn (model X.prog X.w) X.A X.env X.xe := by exact PassesOwn.never) (hs : ∀ y, foldedSetIterable (.Name x p') X.env y = pure y := by intro _; rfl) : RnS X J N Γ (.For tg (.Name x p') body [] pos) := .mk fun B0 σ B H Fs E j => by
  obtain ⟨v, h1, a, vs, rfl, h3, h4, h5⟩ := E.at_ i0 _ hΓ
  refine toS (ps_for hp hc (pi_list (pe_var hN hv hdb hcd)) sG sSs hs) ⟨_, h1, a, rfl, ⟨vs, .of h4⟩, ?_⟩
  refine ⟨fun i m σ' H' => m = ds.length - i ∧ i ≤ ds.length ∧ ∃ B' Γ' Fs', Ex B B' ∧ En X.K B' H' σ' Γ' Fs' ∧ Jn J B0 B' H' Fs' ∧ Iv (.ref a) i Γ', ⟨ds.length, by omega, Nat.zero_le _, B, _, Fs, .refl _, E.pin hΓ h1, j, h0 _⟩, ?_⟩
  rintro i m σ' H' ⟨rfl, hi, B', Γ', Fs', q1, E', j', v⟩
  obtain ⟨u, g1, g2, a2, vs2, g3, g4, g5, g6⟩ := E'.at_ i0 _ (hO _ _ _ v)
  subst g3
  cases g2
  by_cases hlt : i < ds.length
  · obtain ⟨w, k1, k2⟩ := dps_get g6 (List.getElem?_eq_getElem hlt)
    refine .inr ⟨⟨vs2, w, .of g5, k1⟩, fun σ' H' => ∃ B' Γ' Fs', Ex B B' ∧ En X.K B' H' σ' Γ' Fs' ∧ Jn J B0 B' H' Fs' ∧ Iv (.ref a) (i + 1) Γ', fun σ' H' p => ⟨ds.length - (i + 1), by omega, rfl, hlt, p⟩, fun x H'' y => ?_⟩
    obtain ⟨f1, y⟩ := y
    subst f1
    obtain ⟨d', f3, f4⟩ := dps_getv g6 (y vs2 (.of g5))
    obtain ⟨Γ2, ts, g, rb⟩ := hb _ i _ Γ' f3 v
    refine g σ' B' _ Fs' x E' f4 _ fun σ2 F2 E2 sb _ => ?_
    have j2 : Jn J B0 B' _ F2 := j'.sub sb
    refine wpSs_mono (rb B' σ2 B' _ F2 E2 j2.fresh) ?_ ?_ ?_ ?_
    · exact fun σ3 H3 ⟨B3, Γ3, F3, p1, p2, p3⟩ => ⟨B3, Γ3, F3, q1.trans p2.b0, p1, j2.trans p2, p3⟩
    · exact fun v H3 ⟨σ3, B3, Γ3, F3, p1, p2, p3⟩ => ⟨σ3, B3, Γ3, F3, p1, j2.trans p2, p3⟩
    · exact fun σ3 H3 ⟨B3, Γ3, F3, p1, p2, p3⟩ => ⟨B3, Γ3, F3, p1, j2.trans p2, p3⟩
    · exact fun σ3 H3 ⟨B3, Γ3, F3, p1, p2, p3⟩ => ⟨B3, Γ3, F3, q1.trans p2.b0, p1, j2.trans p2, p3⟩
  · have z : i = ds.length := by omega
    subst z
    exact .inl ⟨⟨vs2, .of g5, by rw [dps_len g6]; exact Nat.le_refl _⟩, B', Γ', Fs', E', j', hd _ Γ' v⟩
/-! ### a tuple of lists of our own -/
def tlO (dss : List (List D)) : Ow where
  p := fun K B H v F => ∃ a ps, v = .ref a ∧ F = a :: ps ∧ H a = some (.tup (ps.map .ref)) ∧ F.Nodup ∧ LLs K B H ps dss
  upB := fun e ⟨a, ps, h1, h2, h3, h4, h5⟩ => ⟨a, ps, h1, h2, h3, h4, h5.mono e fun _ _ => rfl⟩
  loc := fun e ⟨a, ps, h1, h2, h3, h4, h5⟩ => ⟨a, ps, h1, h2, (e a (by rw [h2]; exact List.mem_cons_self)).trans h3, h4, h5.mono (.refl _) fun b hb => e b (by rw [h2]; exact List.mem_cons_of_mem _ hb)⟩
  dom := fun ⟨a, ps, h1, h2, h3, h4, h5⟩ b hb => by
    rw [h2] at hb
    rcases List.mem_cons.mp hb with e | e
    · rw [e, h3]
      exact fun z => nomatch z
    · exact h5.dom b e
theorem fz_tl (dss : List (List D)) : Fz (tlO dss) (.tuple (dss.map .list)) := fun K B H v F h hF => by
  obtain ⟨a, ps, rfl, h2, h3, h4, h5⟩ := h
  exact .tup (.of (by rw [ovl_in (by rw [h2]; exact List.mem_cons_self)]; exact h3)) (h5.dps (ovl_ex hF) fun b hb => ovl_in (by rw [h2]; exact List.mem_cons_of_mem _ hb))
theorem gol_ixT (i : Nat) {x : Str} {k : Nat} {j p2 p3} (hk : dss[k]? = some ds) (hΓ : Γ[i]? = some (.ob (tlO dss)) := by rfl) (hN : X.N[i]? = some x := by rfl) (hv : Vis X.env.scope x := by first | exact Or.inl rfl | exact Or.inr (Or.inl rfl) | exact Or.inr (Or.inr rfl))
    (hd : (x == ("__debug__" : Str)) = false := by decide) (hcd : (x == ("__classdict__" : Str)) = false := by decide) : GoL X Γ (.Subscript (.Name x p2) (.Constant (.int (k : Nat)) j p3) pos) i ds fun es => tlO (dss.set k es) := .mk fun σ B H Fs E Q q => by
  obtain ⟨v, h1, a, ps, e1, e2, e3, e4, e5⟩ := E.at_ i _ hΓ
  subst e1
  obtain ⟨p, us, f1, f2, f3⟩ := e5.get hk
  have hp : p ∈ ps := List.mem_of_getElem? f1
  have np : p ≠ a := fun z => by
    rw [e2] at e4
    exact (List.nodup_cons.mp e4).1 (z ▸ hp)
  refine toE (pe_ix ix_tup (pe_var hN hv hd hcd) pe_int fun _ _ => rfl) ⟨_, h1, a, ps.map .ref, (k : Nat), .ref p, rfl, rfl, .of e3, atI_nat (by rw [List.getElem?_map, f1]; rfl), ?_⟩
  refine q p us _ B H (.same E.bh) h1 (by rw [e2]; exact List.mem_cons_of_mem _ hp) f2 f3 fun B' H' hB hH us es hu => ⟨a, ps, rfl, e2, ?_, e4, ?_⟩
  · rw [upd_ne (Ne.symm np), hH a (by rw [e2]; exact List.mem_cons_self)]
    exact e3
  · rw [e2] at e4
    exact (e5.mono hB fun b hb => hH b (by rw [e2]; exact List.mem_cons_of_mem _ hb)).set hu (List.nodup_cons.mp e4).2 f1
theorem goN_is {ds' : List D} (h : GoN X Γ e ds) (e' : ds = ds') : GoN X Γ e ds' := e' ▸ h
/-- handed back: (a name of a list of our own, a new list) -/
theorem rs_retTL (i : Nat) {x : Str} {p' : Pos} {j0} {v0 : V} (hΓ : Γ[i]? = some (.ob (pinO (lstO ds) v0))) (he : GoN X Γ e ds2) (hn : N.rn = some (tlO [ds, ds2])) (hi : i ∉ J.S) (hN : X.N[i]? = some x := by rfl) (hv : Vis X.env.scope x := by first | exact Or.inl rfl | exact Or.inr (Or.inl rfl) | exact Or.inr (Or.inr rfl))
    (hd : (x == ("__debug__" : Str)) = false := by decide) (hcd : (x == ("__classdict__" : Str)) = false := by decide) (hG : N.rG Γ := by exact rfl) (hs1 : starEach [.Name x p', e] X.env = (false, eval (.Name x p') X.env) :: starEach [e] X.env := by rfl) (hs2 : starEach [e] X.env = (false, eval e X.env) :: starEach [] X.env := by rfl) :
    RnS X J N Γ (.Return (some (.Tuple [.Name x p', e] j0 p2)) pos) := .mk fun B0 σ B H Fs E j => by
  obtain ⟨v, h1, h0, a, vs, h2, h3, h4, h5⟩ := E.at_ i _ hΓ
  subst h2
  refine toS (ps_ret (pe_tup (pa_cons (pe_var hN hv hd hcd) (pa_cons sE pa_nil hs2) hs1))) ⟨_, h1, he σ B H Fs E _ fun p us B1 H1 n1 hp hbp hH hds => ?_⟩
  refine ⟨by show 2 ≤ _; decide, fun t ht => ?_⟩
  have aF : a ∈ Fs i := by rw [h3]; exact List.mem_cons_self
  have e1 : H1 a = some (.lst vs) := n1.hh _ _ h4
  have ap : a ≠ p := fun z => by rw [z, hp] at h4; cases h4
  have at_ : a ≠ t := fun z => by rw [z, ht] at e1; cases e1
  have pt : p ≠ t := fun z => by rw [z, ht] at hH; cases hH
  have n2 : Nw B1 H1 B1 (upd H1 t (.tup [.ref a, .ref p])) := .lay n1.bh ht
  have n := n1.trans n2
  refine ⟨σ, B1, Γ, Fs, E.nw n, j.nw n, hG, ?_⟩
  rw [hn]
  have fresh : ∀ b, H b = none → J.H b = none := fun b hb => by
    cases q : J.H b with
    | none => rfl
    | some o => exact absurd hb (j.h1 b (by rw [q]; exact fun z => nomatch z))
  refine ⟨[t, a, p], ⟨t, [a, p], rfl, rfl, upd_same, ?_, .cons ((upd_ne at_).trans e1) (dpsUp n1.bb h5) (.cons ((upd_ne pt).trans hH) hds .nil)⟩, fun b hb => ?_, fun m hm b hb hbm => ?_⟩
  · simp only [List.nodup_cons, List.mem_cons, List.not_mem_nil, or_false, not_or, not_false_eq_true, List.nodup_nil, and_true]
    exact ⟨⟨Ne.symm at_, Ne.symm pt⟩, ap⟩
  · rcases List.mem_cons.mp hb with z | hb
    · rw [z]
      exact ⟨fresh t (n1.hh.none ht), n1.bh.none ht⟩
    · rcases List.mem_cons.mp hb with z | hb
      · rw [z]
        refine ⟨?_, ((E.nw n1).fre i a aF).1⟩
        rcases j.fm i a aF with z | z
        · exact z
        · exact absurd z.2 hi
      · rw [List.mem_singleton.mp hb]
        exact ⟨fresh p hp, hbp⟩
  · rcases List.mem_cons.mp hb with z | hb
    · rw [z] at hbm
      exact ((E.nw n1).fre m t hbm).2 ht
    · rcases List.mem_cons.mp hb with z | hb
      · rw [z] at hbm
        exact hi (E.dis m i a hbm aF ▸ hm)
      · rw [List.mem_singleton.mp hb] at hbm
        exact (E.fre m p hbm).2 hp
end
/-! ### a method that changes its object and hands back a new thing -/
def spWU (K : PySem.W.Frag) (S : Ow → List Mn → Ow → Ow → Prop) : Sp := fun vs H Q _ => ∃ (W : Ow) (Ps : List Mn) (R W' : Ow) (B : Hp) (v0 : V) (us : List V) (F : List Addr), S W Ps R W' ∧ vs = v0 :: us ∧ Ex B H ∧ W.p K B H v0 F ∧ (∀ a ∈ F, B a = none) ∧ MnAll K B us Ps ∧
  ∀ v B2 H2 F2 F3, Mu F B H B2 H2 → R.p K B2 H2 v F3 → W'.p K B2 H2 v0 F2 → (∀ a ∈ F2, B2 a = none ∧ (a ∈ F ∨ H a = none)) → (∀ a ∈ F3, H a = none ∧ B2 a = none ∧ a ∉ F2) → Q v H2
abbrev ndWU (R W' : Ow) (v0 : V) : Nd := { nx := fun _ => False, rt := datP .none, rG := fun Γ' => Γ'[0]? = some (.ob (pinO W' v0)), rn := some R }
section
variable {P : Program} {w : World} {K : PySem.W.Frag} {mg : Str → Option Value} {base : Heap}
theorem mWU_ok {own m qual : Str} {st : Stmt} {L ps : List Str} {k : Nat} {S : Ow → List Mn → Ow → Ow → Prop} (Mt : Mtd K own m qual st ps) (Sc : FnScope L ps (defScope st)) (hl : ∀ W Ps R W', S W Ps R W' → Ps.length + 1 = ps.length) (hL : 0 < L.length)
    (body : ∀ W Ps R W', S W Ps R W' → ∀ (v0 : V) (f : Addr) (cdv : Value) (A : Around) (outer : List Env) (s : Shared) (H : Hp) (E : XK), Room k (A.deeper (envOfC qual (defScope st) s.heap.objs.size f cdv)) → ∀ J : Jd, J.S = [0] →
      Rn (cxOf CX0 P w K mg base L qual (defScope st) f cdv A outer s H E).nox J (ndWU R W' v0) (entryW (pinO W v0) Ps L.length) (defBody st)) : CalM P w K mg base CX0 own m ps (k + 1) (spWU K S) := by
  obtain ⟨C, g, fd, h1, h2, h3, F, b⟩ := Mt.ex
  refine ⟨C, g, fd, h1, h2, h3, F.ok Sc (fun vs H Q E h => ?_) fun cdv A outer s H vs Q E hr h => ?_, b⟩
  · obtain ⟨W, Ps, R, W', B, v0, us, F, hS, rfl, _, _, _, h, _⟩ := h
    rw [List.length_cons, mn_len h, hl _ _ _ _ hS]
  · obtain ⟨W, Ps, R, W', B, v0, us, F, hS, rfl, hB, hW, hF, hv, q⟩ := h
    refine ⟨_, sSs, wpSs_mono (body W Ps R W' hS v0 g cdv A outer s H E hr ⟨H, F, [0]⟩ rfl B (L2.start L (v0 :: us)) B H _ (en_entryW hB ⟨rfl, hW⟩ hF hv hL) jn_entryW) ?_ ?_ ?_ ?_⟩
    · exact fun σ' H' ⟨B', Γ', Fs', e, j, n⟩ => n.elim
    · exact fun v H' ⟨σ', B', Γ', Fs', e, j, g, F3, r1, r2, r3⟩ => by
        obtain ⟨u, h1, rfl, h2⟩ := e.at_ 0 _ g
        refine q v B' H' (Fs' 0) F3 ⟨j.b0, e.bh, j.h0, j.h1, fun a h1 h2 => ?_⟩ r1 h2 (fun a ha => ⟨(e.fre 0 a ha).1, ?_⟩) fun a ha => ⟨(r2 a ha).1, (r2 a ha).2, r3 0 List.mem_cons_self a ha⟩
        · cases r : B' a with
          | none => rfl
          | some o => exact absurd (j.nb a (by rw [r]; exact fun z => nomatch z) h1) h2
        · rcases j.fm 0 a ha with z | z
          · exact .inr z
          · exact .inl z.1
    · exact fun σ' H' ⟨B', Γ', Fs', e, j, n⟩ => n.elim
    · exact fun σ' H' ⟨B', Γ', Fs', e, j, n⟩ => n.elim
end
/-- e changes the thing of the slot i and gives a new thing R -/
structure GoMU (X : Cx) (Γ : Ga) (e : Expr) (i : Nat) (W R : Ow) : Prop where
  run : ∀ σ B H Fs, En X.K B H σ Γ Fs → ∀ Q : VK, (∀ v v0 B2 H2 F2 F3, Mu (Fs i) B H B2 H2 → R.p X.K B2 H2 v F3 → σ[i]? = some (some v0) → W.p X.K B2 H2 v0 F2 → (∀ a ∈ F2, B2 a = none ∧ (a ∈ Fs i ∨ H a = none)) → (∀ a ∈ F3, H a = none ∧ B2 a = none ∧ a ∉ F2) → Q v H2) → wpE X e σ H Q
section
variable {X : Cx} {J : Jd} {N : Nd} {Γ : Ga} {e : Expr} {es : List Expr} {W W' R : Ow} {pos apos : Pos} {own m : Str} {ps : List Str} {k j : Nat} {pl : Sem Bool} {d : D}
theorem gmu_meth0 (i : Nat) {V V' : Ow} {S : Ow → List Mn → Ow → Ow → Prop} {x : Str} {p' : Pos} (C : CalM X.prog X.w X.K X.mg X.base CX0 own m ps k (spWU X.K S)) (hr : Room j X.A) (hk : k ≤ j) (hΓ : Γ[i]? = some (.ob W)) (hp : Pin V V' W W') (hO : IsObj own m V) (hS : S V [] R V' := by walk_at "pS")
    (hN : X.N[i]? = some x := by rfl) (hv : Vis X.env.scope x := by first | exact Or.inl rfl | exact Or.inr (Or.inl rfl) | exact Or.inr (Or.inr rfl)) (hd : (x == ("__debug__" : Str)) = false := by decide) (hcd : (x == ("__classdict__" : Str)) = false := by decide)
    (ht : eval (.Call (.Attribute (.Name x p') m apos) [] [] pos) X.env = (do
      let ov ← eval (.Name x p') X.env
      standAt apos.atName
      let (f, first) ← holding [ov] (getMethod ov m pl)
      callWith pos f first (backTo pos (starEach [] X.env)) (backToKw pos (keywordEach [] X.env))) := by rfl) : GoMU X Γ (.Call (.Attribute (.Name x p') m apos) [] [] pos) i W' R := .mk fun σ B H Fs E Q q => by
  obtain ⟨C, g, fd, h1, h2, h3, F, b⟩ := C.ex
  obtain ⟨v, e1, e2⟩ := E.at_ i _ hΓ
  obtain ⟨i1, i2⟩ := hp.inn e2
  obtain ⟨C', a, dx, vs, c1, rfl, c3, c4⟩ := hO _ _ _ _ _ i1
  cases h1.eq c1
  refine toE (pe_meth0 (pe_var hN hv hd hcd) h2 h3 (F.mono hk) hr b .nil pass0 ht) ⟨_, e1, a, dx, vs, rfl, c3, c4, ?_⟩
  exact ⟨V, [], R, V', B, _, [], Fs i, hS, rfl, E.bh, i1, fun b hb => (E.fre i b hb).1, .nil, fun v B3 H3 F3 F4 m3 r3 w3 f3 f4 => q v _ B3 H3 F3 F4 m3 r3 e1 (i2 _ _ _ w3) f3 f4⟩
/-- what it gives is not changed any more -/
theorem gm_of_U {i : Nat} (h : GoMU X Γ e i W R) (hz : Fz R d) : GoM X Γ e i W (datP d) := .mk fun σ B H Fs E Q q => h.run σ B H Fs E Q fun v v0 B2 H2 F2 F3 m r hσ hW hF hF3 => by
  have e1 : Ex B2 (ovl B2 H2 F3) := ovl_ex fun a ha => (hF3 a ha).2.1
  refine q v v0 (ovl B2 H2 F3) H2 F2 ⟨m.bb.trans e1, fun a o ha => ?_, m.hh, m.hd, fun a h1 h2 => ?_⟩ (hz _ _ _ _ _ r fun a ha => (hF3 a ha).2.1) hσ (W.upB e1 hW) fun a ha => ⟨?_, (hF a ha).2⟩
  · by_cases w : a ∈ F3
    · rwa [ovl_in w] at ha
    · rw [ovl_out w] at ha
      exact m.bh a o ha
  · rw [ovl_out fun z => h2 (hF3 a z).1]
    exact m.nu a h1 h2
  · rw [ovl_out fun z => (hF3 a z).2.2 ha]
    exact (hF a ha).1
/-- name = such a call -/
theorem rs_setMU {i : Nat} (k : Nat) {x : Str} {p' : Pos} (he : GoMU X Γ e i W R) (hi : i < Γ.length) (hik : i ≠ k) (h : N.nx ((Γ.set i (.ob W)).set k (.ob R))) (hN : X.N.Nodup) (hk : X.N[k]? = some x := by rfl) (hx : Loc X.env.scope x := by first | exact .inl rfl | exact .inr rfl)
    (hs : swapsWith e (some (.Name x p')) pos.line X.env = pure false := by rfl) (hf : X.fn x = true ∨ X.env.scope.names.lookup x = some .local := by first | exact .inl rfl | exact .inr rfl) : RnS X J N Γ (.Assign [.Name x p'] e pos) := .mk fun B0 σ B H Fs E j =>
  toS (ps_set hN hk hx sE hs hf) (he.run σ B H Fs E _ fun v v0 B2 H2 F2 F3 m r hσ hW hF hF3 => ⟨B2, _, _, (E.mu m hi hσ hW hF).setO (P := R) (F := F3) k r (fun a ha => (hF3 a ha).2.1) (fun q a ha hm => by
    by_cases w : q = i
    · subst w
      rw [off_same] at ha
      exact (hF3 a hm).2.2 ha
    · rw [off_ne w] at ha
      exact (E.fre q a ha).2 (hF3 a hm).1), (j.mu m fun a ha => (hF a ha).2).lay fun a ha => by
    cases q : J.H a with
    | none => rfl
    | some o => exact absurd (hF3 a ha).1 (j.h1 a (by rw [q]; exact fun z => nomatch z)), h⟩)
end
/-! ### {'a': .., 'b': .., 'c': ..}[x] -/
section
variable {X : Cx} {Γ : Ga} {e1 e2 e3 b : Expr} {pos : Pos} {d1 d2 d3 d : D}
theorem lay_nw {B H H1 : Hp} {B1 : Hp} {p : Addr} {o u : HO} (hp : H p = none) (hB : Ex B H) (n : Nw B (upd H p o) B1 H1) : Nw B H B1 (upd H1 p u) := by
  have b1 : B1 p = none := n.nu p (hB.none hp) (by rw [upd_same]; exact fun z => nomatch z)
  refine ⟨n.bb, fun a z h => ?_, fun a z h => ?_, fun a h1 h2 => ?_⟩
  · rw [upd_ne (ne_of_none h b1)]
    exact n.bh a z h
  · have := ne_of_none h hp
    rw [upd_ne this]
    exact n.hh a z (by rw [upd_ne this]; exact h)
  · refine n.nu a h1 ?_
    by_cases w : a = p
    · rw [w, upd_same]
      exact fun z => nomatch z
    · rw [upd_ne w]
      exact h2
theorem go_dic3 {k1 k2 k3 s : Str} {i1 i2 i3 : Nat} {p1 p2 p3 p4 : Pos} (hu : UOk X) (pk : V → V → V → V) (h1 : Go X Γ e1 d1) (h2 : Go X Γ e2 d2) (h3 : Go X Γ e3 d3) (hb : Go X Γ b (.str s))
    (hv : ∀ w1 w2 w3 : V, valV (mergeK [] [((Sum.inr k1 : Key), w1), (Sum.inr k2, w2), (Sum.inr k3, w3)]) (Sum.inr s) = some (pk w1 w2 w3)) (hd : ∀ (K : PySem.W.Frag) (B : Hp) (w1 w2 w3 : V), Dp K B w1 d1 → Dp K B w2 d2 → Dp K B w3 d3 → Dp K B (pk w1 w2 w3) d)
    (hs : NoSl b := by exact fun _ _ => rfl) : Go X Γ (.Subscript (.Dict [some (.Constant (.str k1) i1 p1), some (.Constant (.str k2) i2 p2), some (.Constant (.str k3) i3 p3)] [e1, e2, e3] p4) b pos) d := .mk fun σ B H Fs E Q q => by
  refine toE (pe_dget (by have := hu.u65; omega) (pe_disp (pps_cons sE sE (pps_cons sE sE (pps_cons sE sE pps_nil))) rfl rfl (fun z => nomatch z) (by show 3 ≤ 15; decide)) sE hs) fun p hp => ?_
  have n0 : Nw B H B (upd H p (.dK [])) := .lay E.bh hp
  refine (go_str (Γ := Γ)) σ B _ Fs (E.nw n0) _ fun a1 B1 H1 m1 r1 => h1 σ B1 H1 Fs ((E.nw n0).nw m1) _ fun w1 B2 H2 m2 t1 => (go_str (Γ := Γ)) σ B2 H2 Fs (((E.nw n0).nw m1).nw m2) _ fun a2 B3 H3 m3 r2 => h2 σ B3 H3 Fs ((((E.nw n0).nw m1).nw m2).nw m3) _ fun w2 B4 H4 m4 t2 =>
    (go_str (Γ := Γ)) σ B4 H4 Fs (((((E.nw n0).nw m1).nw m2).nw m3).nw m4) _ fun a3 B5 H5 m5 r3 => h3 σ B5 H5 Fs ((((((E.nw n0).nw m1).nw m2).nw m3).nw m4).nw m5) _ fun w3 B6 H6 m6 t3 => ?_
  have n6 := (((((m1.trans m2).trans m3).trans m4).trans m5).trans m6)
  refine ⟨n6.hh _ _ upd_same, [((Sum.inr k1 : Key), w1), (Sum.inr k2, w2), (Sum.inr k3, w3)], ?_, by show 3 ≤ 15; decide, ?_⟩
  · rw [dp_str r1, dp_str r2, dp_str r3]
    rfl
  have n7 := lay_nw (u := .dK (mergeK [] [((Sum.inr k1 : Key), w1), (Sum.inr k2, w2), (Sum.inr k3, w3)])) hp E.bh n6
  refine hb σ B6 _ Fs (E.nw n7) _ fun y B8 H8 m8 r8 => ?_
  rw [dp_str r8]
  have g := DGet.k (k := (Sum.inr s : Key)) (m8.hh _ _ (upd_same (H := H6) (a := p) (o := .dK (mergeK [] [((Sum.inr k1 : Key), w1), (Sum.inr k2, w2), (Sum.inr k3, w3)]))))
  rw [hv] at g
  exact ⟨p, _, rfl, g, q _ B8 H8 (n7.trans m8) (hd _ _ _ _ _ (dpUp (((((m3.trans m4).trans m5).trans m6).bb).trans m8.bb) t1) (dpUp ((m5.trans m6).bb.trans m8.bb) t2) (dpUp m8.bb t3))⟩
end
/-! ### list(range(n)) -/
section
variable {X : Cx} {Γ : Ga} {a : Expr} {p p1 pos pos1 : Pos}
theorem goN_listRg {n : Nat} (hc : X.calm = true) (hml : X.mg "list" = none) (hmr : X.mg "range" = none) (ha : Go X Γ a (.int ((n : Nat) : Int))) (hn : n ≤ 1000000) (hgl : Gl X "list" := by rfl) (hgr : Gl X "range" := by rfl)
    (na : starEach [a] X.env = (false, eval a X.env) :: starEach [] X.env := by rfl) (nb : starEach [.Call (.Name "range" p1) [a] [] pos1] X.env = (false, eval (.Call (.Name "range" p1) [a] [] pos1) X.env) :: starEach [] X.env := by rfl) :
    GoN X Γ (.Call (.Name "list" p) [.Call (.Name "range" p1) [a] [] pos1] [] pos) ((List.range n).map fun i : Nat => PyData.int ((i : Nat) : Int)) := .mk fun σ B H Fs E Q q =>
  toE (pe_listRg hc hgl hml (prg_1 hgr hmr sE na) nb) (ha σ B H Fs E _ fun v B1 H1 n1 r => ⟨((n : Nat) : Int), dp_int r, RgOk.of_le (by omega) (by omega) (by omega) (by omega), fun q' hq => q q' (rgV 0 ((n : Nat) : Int)) B1 _ (n1.trans (.lay n1.bh hq)) (n1.hh.none hq) (n1.bh.none hq) upd_same (by
    have e1 : rgV 0 ((n : Nat) : Int) = ((List.range n).map fun i : Nat => ((i : Nat) : Int)).map V.int := by
      unfold rgV
      rw [List.map_map, show (((n : Nat) : Int) - 0).toNat = n by omega]
      exact List.map_congr_left fun i _ => congrArg V.int (show (0 : Int) + ((i : Nat) : Int) = ((i : Nat) : Int) by omega)
    have e2 : ((List.range n).map fun i : Nat => PyData.int ((i : Nat) : Int)) = ((List.range n).map fun i : Nat => ((i : Nat) : Int)).map PyData.int := by
      rw [List.map_map]
      rfl
    rw [e1, e2]
    exact dps_ints _)⟩)
end
/-! ### a, b = e, f -/
section
variable {X : Cx} {J : Jd} {N : Nd} {Γ : Ga} {a b : Expr} {d1 d2 : D} {pos : Pos}
theorem rs_par (i j : Nat) {x y : Str} {px py pt pt2 : Pos} {kt k2} (ha : Go X Γ a d1) (hb : Go X Γ b d2) (h : N.nx ((Γ.set i (.dat d1)).set j (.dat d2))) (hN : X.N.Nodup) (hc : X.calm = true) (hij : i ≠ j) (hi : X.N[i]? = some x := by rfl) (hj : X.N[j]? = some y := by rfl)
    (hx : X.env.scope.names.lookup x = some .local := by rfl) (hy : X.env.scope.names.lookup y = some .local := by rfl)
    (hw : swappedStores [.Tuple [.Name x px, .Name y py] kt pt] (.Tuple [a, b] k2 pt2) X.env = pure (some [x, y]) := by rfl)
    (hs : swapsWithSole [.Tuple [.Name x px, .Name y py] kt pt] (.Tuple [a, b] k2 pt2) pos.line X.env = pure false := by rfl)
    (he1 : starEach [a, b] X.env = (false, eval a X.env) :: starEach [b] X.env := by rfl) (he2 : starEach [b] X.env = (false, eval b X.env) :: starEach [] X.env := by rfl) :
    RnS X J N Γ (.Assign [.Tuple [.Name x px, .Name y py] kt pt] (.Tuple [a, b] k2 pt2) pos) := .mk fun B0 σ B H Fs E jn =>
  toS (ps_par hc hN hi hj hij hx hy (pa_cons sE (pa_cons sE pa_nil he2) he1) hw hs) (ha σ B H Fs E _ fun v B1 H1 n1 r1 => hb σ B1 H1 Fs (E.nw n1) _ fun w B2 H2 n2 r2 =>
    ⟨v, w, rfl, B2, _, _, ((E.nw (n1.trans n2)).setP i (P := datP d1) (dpUp n2.bb r1)).setP j (P := datP d2) r2, (jn.nw (n1.trans n2)).sub fun _ _ z => off_sub (off_sub z), h⟩)
end
end PL

set_option maxHeartbeats 2000000
/-! An own exception whose __init__ says super().__init__(text) and keeps one field (after the kit's skeleton 42; the first statement is walked at the known activation). -/
namespace PySem
namespace SupX
open PySem.W PySem.Calls PyProof.Rows PySem.HandSPX
theorem one_size (v : Value) : [v].length ≤ sizeLine := by
  rw [sizeLine_eq]
  exact (by decide : 1 ≤ 16777216)
/-! ### the text of __init__ -/
def iA (p1 p2 : Pos) : Arguments := { posonlyargs := [], args := [{ arg := "self", annotation := none, pos := p1 }, { arg := "place", annotation := none, pos := p2 }], vararg := none, kwonlyargs := [], kw_defaults := [], kwarg := none, defaults := [] }
def iE (m : Str) (j : Nat) : Stmt := .Expr (.Call (.Attribute (.Call (.Name "super" ⟨10, 8, 10, 13⟩) [] [] ⟨10, 8, 10, 15⟩) "__init__" ⟨10, 8, 10, 24⟩) [.Constant (.str m) j ⟨10, 25, 10, 64⟩] [] ⟨10, 8, 10, 65⟩) ⟨10, 8, 10, 65⟩
def iT : Stmt := .Assign [.Attribute (.Name "self" ⟨11, 8, 11, 12⟩) "place" ⟨11, 8, 11, 18⟩] (.Name "place" ⟨11, 21, 11, 26⟩) ⟨11, 8, 11, 26⟩
def iB (m : Str) (j : Nat) : List Stmt := [iE m j, iT]
def iS : Scope := { kind := .function, names := [(PySem.Str.ofString "self", .local), (PySem.Str.ofString "place", .local), (PySem.Str.ofString "__class__", .free), (PySem.Str.ofString "super", .globalImplicit)], isGenerator := false, isCoroutine := false, more := [] }
/-- what the written part says of the class at C, and of its __init__, at fI -/
structure Txt (P : Program) (K : Frag) (mg : Str → Option Value) (C fI : Addr) : Prop where
  gC : mg "Unmendable" = some (.ref C)
  cls : ∃ nm q N bs bm sn sub ab col dd k0 k1 k2 k3 k5, K.lookup C = some (excClassObj nm q C N bs bm true sn sub ab col dd k0 k1 k2 k3 k5 "ValueError.__new__") ∧ refsVE bm = true
  sa : findIn K (.ref C) "__setattr__" = some (some (.builtin "object.__setattr__"))
  ga : findIn K (.ref C) "__getattribute__" = some (some (.builtin "BaseException.__getattribute__"))
  gg : findIn K (.ref C) "__getattr__" = some none
  noN : findIn K (.ref C) "place" = some none
  iC : findIn K (.ref C) "__init__" = some (some (.ref fI))
  tC : typeIn K (.ref fI) = some (.type "function")
  kC : keepIn K (.ref C) = true
  exC : subIn K (.ref C) (.type "BaseException") = some true
  veC : subIn K (.ref C) (.type "ValueError") = some true
  tyC : typeIn K (.ref C) = some (.type "type")
  hdC : hasDictIn K C = true
  te : exmOne K (.ref C) (.ref C) = some true
  su : ks_superIn K C C "__init__" = some (some (.builtin "ValueError.__init__"))
  ei : excInitIn K C [.type "ValueError", .type "Exception", .type "BaseException", .type "object"] "ValueError.__new__" = true
  mro : mroIn K C (.ref C) = some true
  op : nsIn K cStatics "thirdparty.any" = some none
  gS : mg "super" = none
  tp : (P.main.scope.names.lookup ("super" : Str)).isSome = false
  fn : ∃ (oc : Value) (od : Option Addr) (doc pm : Value) (an : Option Addr) (cda cc : Addr) (ct : Value) (osl : Array (Option Value)) (m : Str) (j : Nat) (p1 p2 : Pos) (ccl cl : Value) (cdd cld : Option Addr) (vs : Array Value) (ccs csl : Array (Option Value)) (file : Str) (tf : Tok),
    K.lookup fI = some ⟨oc, od, .func (ksFn "__init__" "Unmendable.__init__" (iA p1 p2) (iB m j) iS .none .none doc pm an (.ref cda) ct cc), osl⟩ ∧ codeIn K (.ref cda) "Unmendable.__init__" = true ∧
      K.lookup cda = some ⟨ccl, cdd, .fields vs, ccs⟩ ∧ vs[2]? = some (.str file tf) ∧ ((P.main.file : Str) == file) = true ∧ K.lookup cc = some ⟨cl, cld, .cell (some (.ref C)), csl⟩
/-- what __init__ leaves of a fresh exception at x -/
structure InitEnd (h h' : Heap) (x C dx t1 : Addr) (v : Value) : Prop where
  keep : ∀ b o, b ≠ x → h.get? b = some o → h'.get? b = some o
  obj : h'.get? x = some { cls := .ref C, dict := some dx, data := .fields #[.ref t1, .none, .none, .none, .bool false, .none] }
  dbig : h.objs.size ≤ dx
  dne : dx ≠ x
  ns : h'.Ns1 dx (fun y => if y = "place" then some v else none)
/-- a made one -/
structure OwnMade (h h' : Heap) (e C d : Addr) (v : Value) : Prop where
  keep : ∀ b o, h.get? b = some o → h'.get? b = some o
  new : h.objs.size ≤ e
  obj : ∃ oe vs, h'.get? e = some oe ∧ oe.cls = .ref C ∧ oe.dict = some d ∧ oe.data = .fields vs ∧ vs[1]? = some .none
  dbig : h.objs.size ≤ d
  dne : d ≠ e
  ns : h'.Ns1 d (fun y => if y = "place" then some v else none)
section
variable {prog : Program} {w : World} {A : Around} {E : Value → Shared → Prop} {R : Result → Shared → Prop} {s : Shared} {K : Frag} {mg : Str → Option Value} {C fI : Addr}
theorem sup_init (T : Txt prog K mg C fI) {x t0 : Addr} {v : Value} (X : K.In s.heap) (hlim : s.heap.NoLimit) (hg : s.heap.Ns mainGlobals mg) (hbl : ∃ mb, s.heap.Ns builtinsNs mb ∧ ∀ x : Str, x ≠ "__name__" → mb x = bootBuiltins x)
    (hx : s.heap.get? x = some (excO C t0)) (hnx : K.lookup x = none) (hroom : A.depth < recursionLimit)
    (hq : ∀ h' tk dx t1, InitEnd s.heap h' x C dx t1 v → R (.ok (.ret .none)) { s with heap := h', toks := tk }) :
    codeAny (model prog w) A (.call (.ref fI) ⟨[.ref x, v], []⟩) R s := by
  obtain ⟨oc, od, doc, pm, an, cda, cc, ct, osl, m, j, p1, p2, ccl, cl, cdd, cld, vs, ccs, csl, file, tf, ho, hcd, hcode, hvs, hfile, hcell⟩ := T.fn
  obtain ⟨nm, q, N, bs, bm, sn, sub, ab, col, dd, k0, k1, k2, k3, k5, hC, hbm⟩ := T.cls
  have hcl : clsIn K C = some { name := nm, bases := bs, mro := .ref C :: bm, ns := N, qualname := q, hasDict := true, slotNames := sn, subclasses := sub, abstract := ab, collection := col, hasDel := false } := by unfold clsIn; rw [hC] <;> rfl
  refine ks_codeAny_call_defAt (fd := ksFn "__init__" "Unmendable.__init__" (iA p1 p2) (iB m j) iS .none .none doc pm an (.ref cda) ct cc) (body := iB m j) (binds := [("self", .ref x), ("place", v)])
    hroom (X _ _ ho) rfl hlim (codeRec_of X hcd) rfl (BindsTo.of_eq (by first | rfl | with_unfolding_all rfl)) (show ∀ y ∈ iS.names, y.2 ≠ .cell by decide) (by intro y hy; rcases List.mem_cons.mp hy with rfl | hy; exact rfl; rw [List.mem_singleton.mp hy]; rfl) (fun h₁ hns k => ?_) rfl rfl rfl
  have hxL : s.heap.objs.size ≠ x := Nat.ne_of_gt (Heap.lt_size hx)
  have X₁ : K.In h₁ := X.keeps k
  have hx₁ := k _ _ hx
  obtain ⟨mb, hb1, hb2⟩ := hbl
  -- super().__init__(text)
  refine ks_wpAt_execs_cons (ks_wpAt_Expr_any (ks_wpAt_MethodCall ?_))
  refine ks_wpAt_super_base (env := ksEnv "Unmendable.__init__" iS s.heap.objs.size fI (.ref cda) cc) rfl rfl (by decide) rfl (X₁ _ _ ho) rfl rfl rfl (X₁ _ _ hcode) rfl hvs hfile T.tp ?_
  refine ks_loadName_global rfl rfl (loadGlobal_builtin (env := ksEnv "Unmendable.__init__" iS s.heap.objs.size fI (.ref cda) cc) (hg.keeps k) T.gS (hb1.keeps k) ((hb2 _ (by decide +kernel)).trans (by first | decide +kernel | rfl)) ⟨rfl, ?_⟩)
  refine wpAny_loadName_free rfl rfl rfl ⟨_, X₁ _ _ hcell, rfl⟩ ?_
  refine wpAny_loadName_local (v := .ref x) rfl rfl hns (by first | rfl | with_unfolding_all rfl | kernel_rfl) ?_
  refine ks_wpAny_isType_cls (X₁ _ _ hC) rfl ⟨rfl, ?_⟩
  refine ks_wpAny_call_super (X₁ _ _ hC) rfl hx₁ rfl (fun c e => nomatch e) (looks_mroIn X₁ T.mro) (fun h₂ e₂ k₂ => ?_)
  have X₂ : K.In h₂ := X₁.keeps k₂
  have I₂ : InstAt h₂ x (excO C t0) C none := ⟨k₂ _ _ hx₁, rfl, rfl, trivial⟩
  have hsu : alongIn K "__init__" (((Value.ref C :: bm).dropWhile (· != .ref C)).drop 1) = some (some (.builtin "ValueError.__init__")) := by
    have := T.su
    unfold ks_superIn at this
    rw [hcl] at this
    exact this
  refine kxs_getMethod kxs_ValueError e₂ (looks_opaque X₂ T.op) (l₀ := .ref C :: bm) (fun A Q E s k q => wpAny_bind ((looks_clsIn X₂ hcl) A _ E s k (wpAny_pure q))) rfl X₂ hsu (I₂.type.andThen (looks_subIn X₂ T.veC)) (ks_ne X₂ I₂ hcl) (by decide) ?_
  generalize hu : h₂.objs.size = u
  have hn₂ : h₂.Ns s.heap.objs.size _ := hns.keeps k₂
  have k₃ : ∀ b o, h₂.get? b = some o → (h₂.push (kxs_mw "ValueError.__init__" x)).get? b = some o := fun b o e => Heap.get?_push_of_some _ e
  have hmw : (h₂.push (kxs_mw "ValueError.__init__" x)).get? u = some (kxs_mw "ValueError.__init__" x) := by rw [← hu]; exact Heap.get?_push_at rfl rfl
  have hux : u ≠ x := Nat.ne_of_gt (by rw [← hu]; exact Heap.lt_size (k₂ _ _ hx₁))
  have huL : u ≠ s.heap.objs.size := Nat.ne_of_gt (by rw [← hu]; exact hn₂.lt)
  have hus : s.heap.objs.size ≤ u := Nat.le_of_lt (by rw [← hu]; exact hn₂.lt)
  refine kxs_callWith (i := "ValueError.__init__") (x := x) rfl (evalArgs_plain (PyProof.Rows.args_cons (Calls.Constant_str (PyProof.Rows.args_nil ⟨hmw, ?_⟩)) rfl))
  -- the built-in one, called
  have kk : ∀ b o, s.heap.get? b = some o → (h₂.push (kxs_mw "ValueError.__init__" x)).get? b = some o := fun b o e => k₃ b o (k₂ b o (k b o e))
  have F₃ : Fr (hideAll s.heap [x]) s.heap.objs.size (h₂.push (kxs_mw "ValueError.__init__" x)) _ := ⟨hn₂.keeps k₃, fun b o e => kk b o (of_hideAll _ e), Nat.le_of_eq (hideAll_size _ _)⟩
  have X₀ : K.In (hideAll s.heap [x]) := fun a o e => hideAll_get [x] (X a o e) (fun z => by rw [List.mem_singleton.mp z, hnx] at e; cases e)
  have hun : (hideAll s.heap [x]).get? u = none := by
    cases z : (hideAll s.heap [x]).get? u with
    | none => rfl
    | some o => exact absurd (Heap.lt_size (of_hideAll _ z)) (Nat.not_lt.mpr hus)
  have N₃ : News (hideAll s.heap [x]) s.heap.objs.size (h₂.push (kxs_mw "ValueError.__init__" x)) [(x, excO C t0), (u, kxs_mw "ValueError.__init__" x)] := fun p hp => by
    rcases List.mem_cons.mp hp with rfl | hp
    · exact ⟨k₃ _ _ (k₂ _ _ hx₁), Ne.symm hxL, hideAll_none _ List.mem_cons_self⟩
    · rw [List.mem_singleton.mp hp]
      exact ⟨hmw, huL, hun⟩
  refine kxs_call (i := "ValueError.__init__") (t := t0) (dv := none) (c2 := .none) F₃ X₀ N₃ F.excBase_ValueError T.ei (List.mem_cons_of_mem _ List.mem_cons_self) (.head (fun p hp => by rw [List.mem_singleton.mp hp]; exact hux)) (one_size _) (fun t1 h₄ F₄ N₄ _ => ?_)
  have hx₄ := (N₄ (x, excO C t1) (by simp)).1
  have k₄ : ∀ b o, b ≠ x → s.heap.get? b = some o → h₄.get? b = some o := fun b o hb e => F₄.keep b o (hideAll_get [x] e (fun z => hb (List.mem_singleton.mp z)))
  have X₄ : K.In h₄ := X₀.keeps F₄.keep
  have hn₄ := F₄.ns
  -- self.f = f
  refine wpAt_of_wpAny ?_
  refine wpAny_execs_cons (plainObj_wpAny_Assign_Attribute ?_)
  refine wpAny_Name (wpAny_loadName_local (v := v) rfl rfl hn₄ (by first | rfl | with_unfolding_all rfl | kernel_rfl) ?_) (by decide)
  refine wpAny_Name (wpAny_loadName_local (v := .ref x) rfl rfl hn₄ (by first | rfl | with_unfolding_all rfl | kernel_rfl) ?_) (by decide)
  refine set_plain X₄ (ox := excO C t1) (od := none) ⟨hx₄, rfl, rfl, trivial⟩ T.sa ?_
  refine exc_osa X₄ hx₄ hcl (show refsVE (.ref C :: bm) = true from hbm) rfl T.noN (fun h₅ tk₅ dx k₅ dn dne hx₅ hn₅ => ?_)
  show wpAny _ _ (execs _ _) _ _ _
  have z : s.heap.objs.size < h₄.objs.size := hn₄.lt
  exact wpAny_execs_nil (hq h₅ tk₅ dx t1 ⟨fun b o hb e => k₅ b o hb (k₄ b o hb e), hx₅, Nat.le_of_lt (Nat.lt_of_lt_of_le z dn), dne, hn₅⟩)
end
end SupX
end PySem
namespace PySem
namespace SupX
open PySem.W PySem.Calls PyProof.Rows PySem.HandSPX
section
variable {prog : Program} {w : World} {A : Around} {E : Value → Shared → Prop} {R : Result → Shared → Prop} {s : Shared} {K : Frag} {mg : Str → Option Value} {C fI : Addr}
theorem sup_made (T : Txt prog K mg C fI) {v : Value} (X : K.In s.heap) (hlim : s.heap.NoLimit) (hg : s.heap.Ns mainGlobals mg) (hbl : ∃ mb, s.heap.Ns builtinsNs mb ∧ ∀ x : Str, x ≠ "__name__" → mb x = bootBuiltins x) (hroom : A.depth + 1 < recursionLimit)
    (hq : ∀ h' tk e d, OwnMade s.heap h' e C d v → R (.ok (.ret (.ref e))) { s with heap := h', toks := tk }) :
    codeAny (model prog w) A (.call (.ref C) ⟨[v], []⟩) R s := by
  obtain ⟨nm, q, N, bs, bm, sn, sub, ab, col, dd, k0, k1, k2, k3, k5, hC, hbm⟩ := T.cls
  obtain ⟨hp, g, dr, tk, os⟩ := s
  have k : ∀ b o, hp.get? b = some o → ((hp.push (kdv_tup [v])).push (excO C hp.objs.size)).get? b = some o := fun b o e => Heap.get?_push_of_some _ (Heap.get?_push_of_some _ e)
  have hget : ((hp.push (kdv_tup [v])).push (excO C hp.objs.size)).get? (hp.objs.size + 1) = some (excO C hp.objs.size) := by heap_get
  have hnx : K.lookup (hp.objs.size + 1) = none := by
    cases e : K.lookup (hp.objs.size + 1) with
    | none => rfl
    | some o =>
      have z : hp.get? (hp.objs.size + 1) = some o := X _ _ e
      exact absurd (Nat.lt_of_succ_lt (Heap.lt_size z)) (Nat.lt_irrefl _)
  obtain ⟨mb, hb1, hb2⟩ := hbl
  refine call_own F.excBase_ValueError (fun X => refsVE_contains X bm hbm) (X _ _ hC) (looks_findIn X T.iC) (fun self => bind_fn X self T.tC) (one_size v) ?_
  refine sup_init (s := ⟨(hp.push (kdv_tup [v])).push (excO C hp.objs.size), g, dr, tk, os⟩) T (X.keeps k) (hlim.keeps k) (hg.keeps k) ⟨mb, hb1.keeps k, hb2⟩ hget hnx ?_ fun h' tk' dx t1 ⟨k', hx, dn, dne, hns⟩ => ?_
  · show A.depth + 1 < recursionLimit
    exact hroom
  · have old : ∀ b o, hp.get? b = some o → h'.get? b = some o := fun b o e => k' b o (Nat.ne_of_lt (Nat.lt_succ_of_lt (Heap.lt_size e))) (k b o e)
    have z : hp.objs.size + 1 + 1 ≤ dx := by
      first
        | (simpa only [Heap.size_push] using dn)
        | exact dn
        | (have q := dn; rw [Heap.size_push, Heap.size_push] at q; exact q)
    exact ⟨rfl, hq h' tk' (hp.objs.size + 1) dx ⟨old, Nat.le_succ _, ⟨_, _, hx, rfl, rfl, rfl, rfl⟩, Nat.le_trans (Nat.le_trans (Nat.le_succ _) (Nat.le_succ _)) z, dne, hns⟩⟩
end
end SupX
end PySem
namespace L2
open PySem PySem.Spec PyProof.Rows
theorem relO_sup {v : V} {v' : Value} (r : RelV v v') (f : Str) : RelO (List.lookup f [(("place" : Str), v)]) (if f = "place" then some v' else none) := by
  by_cases hw : f = "place"
  · subst hw
    rw [if_pos rfl]
    have q : List.lookup ("place" : Str) [(("place" : Str), v)] = some v := by simp [List.lookup]
    rw [q]
    exact r
  · rw [if_neg hw]
    have qw : (f == ("place" : Str)) = false := by simpa using hw
    have q2 : List.lookup f [(("place" : Str), v)] = none := by simp [List.lookup, qw]
    rw [q2]
    trivial
section
variable {X : Cx} {C fI : Addr}
/-- the exception is made: C(e) -/
def tMkS (C : Addr) (ta : TA) : St → Hp → XK → Prop := fun σ H Q => ta σ H fun vs H1 => ∃ v, vs = [v] ∧ ∀ d, H1 d = none → Q (.ref C) (some d) (upd H1 d (.xd [(("place" : Str), v)]))
theorem pmk_sup {a : Expr} {ta : TA} {p pos : Pos} {k : Nat} (T : PySem.SupX.Txt X.prog X.K X.mg C fI) (hr : Room k X.A) (ha : PA X [a] ta) (hg : Gl X "Unmendable" := by rfl)
    (he : starEach (a :: []) X.env = (false, eval a X.env) :: starEach [] X.env := by rfl) (hpl : (backTo pos (starEach [] X.env)).any (·.1) = false := by rfl) :
    PMk X (.Call (.Name "Unmendable" p) [a] [] pos) (tMkS C ta) := by
  intro pins s σ H Q I h
  refine wpAny_Call_Name_kw (ld_glob I hg T.gC ?_)
  refine PySem.W.callWith_K (h₀ := X.base) I.ok.mod.kin T.kC (thn (ha.run pos pins s σ H _ I h) fun us s1 hh => ?_) he hpl
  obtain ⟨vs, H1, I1, r1, v, ev, q1⟩ := hh
  subst ev
  refine ⟨I1.kIn, ?_⟩
  cases r1 with
  | cons rv rn =>
    rename_i v' us'
    cases rn
    show wpAny _ _ (call (.ref C) [v']) _ _ _
    have hlim := I1.nolimit
    have hmg := I1.mod.glob.keeps I1.bk
    obtain ⟨mb, hb1, hb2⟩ := I1.mod.blt
    have hb1 := hb1.keeps I1.bk
    obtain ⟨hp, g, dr, tk, os⟩ := s1
    refine wpAny_call (PySem.SupX.sup_made T I1.kIn hlim hmg ⟨mb, hb1, hb2⟩ (by have := hr.dp; omega) fun h' tk' e d M => ?_)
    show MkP X pins σ Q (.ref e) ⟨h', g, dr, tk', os⟩
    obtain ⟨oe, fv, hoe, hc, hd, hdat, h1⟩ := M.obj
    have hns := M.ns
    obtain ⟨G', g1, g2⟩ := restrict h' fun b => decide (b ≠ e)
    have gk : ∀ b, b ≠ e → G'.get? b = h'.get? b := fun b hb => g1 b (decide_eq_true hb)
    have ge : G'.get? e = none := g2 e (by simp)
    have old : ∀ b o, hp.get? b = some o → G'.get? b = some o := fun b o q => (gk b (Nat.ne_of_lt (Nat.lt_of_lt_of_le (Heap.lt_size q) M.new))).trans (M.keep b o q)
    have ob : ObjOk X.prog X.w (upd H1 d (.xd [(("place" : Str), v)])) G' d (.xd [(("place" : Str), v)]) :=
      ⟨_, hns.at (fun o q => (gk d M.dne).trans q), fun f => relO_sup rv f⟩
    have J : Inv X pins σ (upd H1 d (.xd [(("place" : Str), v)])) ⟨G', g, dr, tk', os⟩ := I1.laid (t' := tk') old M.dbig ob
    refine ⟨e, oe, fv, ⟨G', g, dr, tk', os⟩, _, .ref C, some d, rfl, J, fun b o q => ?_, ge, hoe, ⟨hc, hd⟩, hdat, h1, ?_, rfl, I1.bare, raises_own T.exC T.tyC, q1 d (I1.hok.fresh M.dbig)⟩
    · by_cases hb : b = e
      · have q' : G'.get? b = some o := q
        rw [hb, ge] at q'; cases q'
      · exact (gk b hb).symm.trans q
    · rw [upd_ne (Ne.symm M.dne)]
      exact I1.hok.fresh M.new
/-- raise C(e) -/
def tRaiseS (C : Addr) (W : WX) (ta : TA) : TS := fun _ σ H => tMkS C ta σ H fun cls d H' => W cls d σ H'
theorem ps_raiseS {a : Expr} {ta : TA} {W : WX} {p pos pos2 : Pos} {k : Nat} (hc : X.calm = true) (T : PySem.SupX.Txt X.prog X.K X.mg C fI) (hr : Room k X.A) (tk : Takes X W) (ha : PA X [a] ta) (hg : Gl X "Unmendable" := by rfl)
    (he : starEach (a :: []) X.env = (false, eval a X.env) :: starEach [] X.env := by rfl) (hpl : (backTo pos (starEach [] X.env)).any (·.1) = false := by rfl) :
    PS X (.Raise (some (.Call (.Name "Unmendable" p) [a] [] pos)) none pos2) (tRaiseS C W ta) := ps_raise hc tk (pmk_sup T hr ha hg he hpl)
end
end L2
theorem PySem.SupX.xfT {P : PySem.Program} {K : PySem.W.Frag} {mg : PySem.Str → Option PySem.Value} {C fI : PySem.Addr} (T : PySem.SupX.Txt P K mg C fI) : L2.XfC K C := ⟨T.ga, T.gg, T.exC, T.hdC⟩
namespace PL
open PySem PySem.Spec PyProof.Rows L2
/-- the class Unmendable, as the text tells it -/
structure Xt_Unmendable (P : Program) (K : PySem.W.Frag) (mg : Str → Option Value) : Prop where
  ex : ∃ C fI, ClsAt K "Unmendable" C ∧ PySem.SupX.Txt P K mg C fI
theorem rs_raise_Unmendable {X : Cx} {J : Jd} {N : Nd} {Γ : Ga} {a : Expr} {i : Int} {E : XK} {p pos pos2 : Pos} {k : Nat} (T : Xt_Unmendable X.prog X.K X.mg) (hc : X.calm = true) (hr : Room k X.A) (tk : Takes X fun cls d _ H => E cls d H) (ha : Go X Γ a (.int i)) (hM : J.M = []) (hW : Wish X.K J E "Unmendable" "place" (.int i)) (hg : Gl X "Unmendable" := by rfl)
    (he : starEach (a :: []) X.env = (false, eval a X.env) :: starEach [] X.env := by rfl) (hpl : (backTo pos (starEach [] X.env)).any (·.1) = false := by rfl) : RnS X J N Γ (.Raise (some (.Call (.Name "Unmendable" p) [a] [] pos)) none pos2) := by
  obtain ⟨C, fI, hC, T⟩ := T.ex
  refine .mk fun B0 σ B H Fs En j => toS (ps_raiseS hc T hr tk (pa_cons sE pa_nil he) hg he hpl) (ha σ B H Fs En _ fun v B2 H2 n r => ⟨v, rfl, fun d hd => ?_⟩)
  cases dp_int r
  refine hW C d _ hC (fun b o h => ?_) ?_ upd_same
  · have h2 := n.hh b o (j.h0 b o h (by rw [hM]; exact List.not_mem_nil))
    rw [upd_ne (ne_of_none h2 hd)]
    exact h2
  · cases q : J.H d with
    | none => rfl
    | some o => exact absurd hd fun z => j.h1 d (by rw [q]; exact fun z => nomatch z) (n.hh.none z)
end PL

set_option maxHeartbeats 2000000
namespace PL
open PySem PySem.Spec PyProof.Rows L2 PySem.Calls PySem.W
/-! ### len(set(xs)) of ints, all of them different -/
section
variable {X : Cx} {Γ : Ga} {a : Expr} {p p2 q pos : Pos}
def tLenSetW (K : PySem.W.Frag) (ta : TE) : TE := fun σ H Q => ta σ H fun x H1 => ∃ (l : Addr) (ns : List Int), x = V.ref l ∧ SqL K H1 l (ns.map V.int) ∧ ns.length < 4000 ∧ ns.Nodup ∧ Q (.int ns.length) H1
theorem pe_lenSetW {ta : TE} (hc : X.calm = true) (hg : Gl X "len") (hm : X.mg "len" = none) (hg2 : Gl X "set") (hm2 : X.mg "set" = none) (ha : PE X a ta)
    (na : starEach [a] X.env = (false, eval a X.env) :: starEach [] X.env := by rfl) : PE X (.Call (.Name "len" p) [.Call (.Name "set" p2) [a] [] q] [] pos) (tLenSetW X.K ta) := by
  refine ⟨fun pins s σ H Q I h => ?_⟩
  refine Call_ (ld_blt I hg hm PySem.boot_len ?_)
  refine PyProof.Rows.callWith_builtin1 (PyProof.Rows.args_cons ?_ rfl) rfl rfl
  refine Call_ (ld_blt I hg2 hm2 PyProof.Rows.boot_set ?_)
  refine PyProof.Rows.callWith_type1 (PyProof.Rows.args_cons (thn (ha.run pins s σ H _ I h) fun v s1 ⟨x, H1, I1, r1, q1⟩ => PyProof.Rows.args_nil ?_) na) na rfl
  obtain ⟨l, ns, rfl, hq, h1, hnd, q1⟩ := q1
  cases r1
  obtain ⟨its, r, pl, hz⟩ := I1.list hq
  have hl : its.toArray.size = ns.length := by rw [List.size_toArray, ← r.length, List.length_map]
  refine PySem.call_set_list (I1.ok.hd hc) pl.isList (ns := ns) (by simpa using r.ints) (by unfold scanBound; omega) fun h' tk hS hk => ?_
  rw [hl, firstMet_nodup ns hnd ns.length (Nat.le_refl _), List.take_length] at hS
  refine PyProof.Rows.args_nil ?_
  obtain ⟨o, es, ep, t, ho, hex, hd, _, _, _, hf, hn⟩ := hS
  have I2 : Inv X pins σ H1 { s1 with heap := h', toks := tk } := I1.kept fun b o e => hk b o (Heap.lt_size e) e
  refine PySem.call_len_set ho hex hd hf (by rw [hn] <;> omega) ⟨.int ns.length, H1, I2.tok _, ⟨_, by rw [hn]⟩, q1⟩
theorem go_lenSet {ns : List Int} (hc : X.calm = true) (ha : Go X Γ a (.list (ns.map .int))) (hm : X.mg "len" = none) (hm2 : X.mg "set" = none) (hl : ns.length < 4000) (hnd : ns.Nodup) (hg : Gl X "len" := by rfl) (hg2 : Gl X "set" := by rfl)
    (na : starEach [a] X.env = (false, eval a X.env) :: starEach [] X.env := by rfl) : Go X Γ (.Call (.Name "len" p) [.Call (.Name "set" p2) [a] [] q] [] pos) (.int ns.length) := .mk fun σ B H Fs E Q q0 =>
  toE (pe_lenSetW hc hg hm hg2 hm2 sE na) (ha σ B H Fs E _ fun v B1 H1 n1 r1 => by
    obtain ⟨p, us, rfl, h2, h3⟩ := dp_lst r1
    rw [dps_ints_inv h3] at h2
    exact ⟨p, ns, rfl, n1.bh.sl h2, hl, hnd, q0 _ B1 H1 n1 (Dp.int _)⟩)
/-! ### sorted(xs) of ints -/
theorem le_perm_eq : ∀ {l m : List Int}, l.Perm m → l.Pairwise (· ≤ ·) → m.Pairwise (· ≤ ·) → l = m
  | [], m, h, _, _ => (List.Perm.nil_eq h)
  | a :: l, [], h, _, _ => absurd h.length_eq (by simp)
  | a :: l, b :: m, h, h1, h2 => by
    have e : a = b := by
      have m1 : a ∈ b :: m := h.subset List.mem_cons_self
      have m2 : b ∈ a :: l := h.symm.subset List.mem_cons_self
      rcases List.mem_cons.mp m1 with e | m1
      · exact e
      · rcases List.mem_cons.mp m2 with e | m2
        · exact e.symm
        · have := (List.pairwise_cons.mp h1).1 _ m2
          have := (List.pairwise_cons.mp h2).1 _ m1
          omega
    subst e
    rw [le_perm_eq ((List.perm_cons a).mp h) (List.pairwise_cons.mp h1).2 (List.pairwise_cons.mp h2).2]
theorem goN_sortI {ns ns' : List Int} (ha : Go X Γ a (.list (ns.map .int))) (hm : X.mg "sorted" = none) (h1 : ns'.Perm ns) (h2 : ns'.Pairwise (· ≤ ·)) (hg : Gl X "sorted" := by rfl) (he : starEach [a] X.env = (false, eval a X.env) :: starEach [] X.env := by rfl) :
    GoN X Γ (.Call (.Name "sorted" p) [a] [] pos) (ns'.map .int) :=
  goN_callB cr_sortedI hg hm PyProof.Rows.boot_sorted (goA_cons ha goA_nil he) (fun vs B H hB r Q q => by
    obtain ⟨v, rfl, h⟩ := mn1 r
    obtain ⟨p, us, rfl, h3, h4⟩ := dp_lst h
    rw [dps_ints_inv h4] at h3
    refine ⟨p, ns, rfl, hB.sl h3, fun ms l e1 e2 hl => ?_⟩
    rw [le_perm_eq (e1.trans h1.symm) e2 h2]
    exact q l _ hl (dps_ints _)) (by decide) (by decide) he rfl
/-! ### xs.index(x) of data -/
theorem go_indexD {ds : List D} {d : D} {e : Expr} {ap : Pos} (hu : UOk X) (ho : Go X Γ a (.list ds)) (he : Go X Γ e d) (h1 : SeqAt.shaped (.list ds) = true) (h2 : SeqAt.shaped d = true) (h3 : (ds.findIdx fun z => PyData.eqv z d) < ds.length) (hbase : attributeBase a "index" X.env (eval a X.env) = eval a X.env := by rfl)
    (hfew : ((backTo pos (starEach [e] X.env)).all (fun x => !x.1) && (backToKw pos (keywordEach [] X.env)).all (fun x => x.1.isSome)
      && decide ([e].length + ([] : List Keyword).length + (if ([] : List Keyword).isEmpty then 0 else 1) < 30)) = true := by rfl)
    (hline : (ap.endLine == pos.line) = true := by rfl) (hs : starEach [e] X.env = (false, eval e X.env) :: starEach [] X.env := by rfl) (hplain : (backTo pos (starEach [] X.env)).any (·.1) = false := by rfl) :
    Go X Γ (.Call (.Attribute a "index" ap) [e] [] pos) (.int ((ds.findIdx fun z => PyData.eqv z d : Nat) : Int)) := .mk fun σ B H Fs E Q q => by
  refine toE (pe_bm PySem.F.plainAttrs_list PySem.F.slot_list_index PySem.F.type_list_index (mt_indexD hu.u65) sE (pa_cons sE pa_nil hs) hbase hfew hline hs hplain) (ho σ B H Fs E _ fun v B1 H1 n1 r1 => ?_)
  obtain ⟨l, vs, rfl, h4, h5⟩ := dp_lst r1
  refine ⟨.inl ⟨rfl, vs, n1.bh.sl h4⟩, he σ B1 H1 Fs (E.nw n1) _ fun w B2 H2 n2 r2 => ?_⟩
  have n := n1.trans n2
  exact ⟨l, w, d, ds, _, ds[ds.findIdx fun z => PyData.eqv z d], rfl, rfl, dpUp (n2.bb.trans n2.bh) r1, dpUp n2.bh r2, h1, h2, List.getElem?_eq_getElem h3, List.findIdx_getElem (w := h3), fun m z' hm hz => by
    have hml : m < ds.length := Nat.lt_trans hm h3
    have := List.not_of_lt_findIdx hm
    rw [List.getElem?_eq_getElem hml] at hz
    rw [← Option.some.inj hz]
    simpa using this, q _ B2 H2 n (Dp.int _)⟩
end
end PL

set_option maxHeartbeats 2000000
namespace PL
open PySem PySem.Spec PyProof.Rows L2 PySem.Calls PySem.W
/-! ### shapes -/
theorem Shp.str {x : Str} (n : Nat) (h : PyData.strOk x = true := by decide +kernel) : Shp n (.str x) := ⟨h, Nat.zero_le _⟩
theorem Shp.tints (ns : List Int) (n : Nat) : Shp (n + 1) (.tuple (ns.map .int)) := Shp.tup fun d hd => by
  obtain ⟨i, _, rfl⟩ := List.mem_map.mp hd
  exact Shp.int i n
theorem ShpA.nil {n : Nat} : ∀ d ∈ ([] : List D), Shp n d := fun d h => nomatch h
theorem ShpA.cons {n : Nat} {d : D} {ds : List D} (h : Shp n d) (t : ∀ x ∈ ds, Shp n x) : ∀ x ∈ d :: ds, Shp n x := fun x hx => by
  rcases List.mem_cons.mp hx with rfl | hx
  · exact h
  · exact t x hx
/-! ### sum and min of a tuple of ints; a tuple's slice -/
def rSumT (K : PySem.W.Frag) : List V → Hp → VK → Prop := fun vs H Q => ∃ (a : Addr) (ns : List Int), vs = [V.ref a] ∧ SqT K H a (ns.map V.int) ∧ Q (.int ns.sum) H
def rMinT (K : PySem.W.Frag) : List V → Hp → VK → Prop := fun vs H Q => ∃ (a : Addr) (n : Int) (ns : List Int), vs = [V.ref a] ∧ SqT K H a ((n :: ns).map V.int) ∧ Q (.int (ns.foldl min n)) H
section
variable {X : Cx} {Γ : Ga} {a : Expr} {p pos : Pos}
theorem cr_sumT (hc : X.calm = true) : CallR X (.builtin "sum") (rSumT X.K) := by
  intro pins s σ H vs us Q I r h
  obtain ⟨a, ns, rfl, hs, q⟩ := h
  obtain ⟨its, rv, ht, _⟩ := I.tuple hs
  rw [Vals.ref1 r]
  have hi := rv.ints
  obtain ⟨xs, e⟩ := hi.allInts.items
  have hn : numsOf (intItems xs).toList = ns := by rw [← e]; exact hi.numsOf
  rw [nums_intItems] at hn
  rw [e] at ht
  refine PySem.W.ktm_sumG (I.ok.hd hc) ht fun h' tk t' hk => ⟨.int _, H, I.kept hk, ?_, q⟩
  rw [preSum_eq, List.take_of_length_le (by simp), hn]
  exact ⟨_, rfl⟩
theorem ints_depth : ∀ ns : List Int, PyData.depthAll (ns.map PyData.int) ≤ 1
  | [] => by simp [PyData.depthAll]
  | n :: r => by
    have := ints_depth r
    simp only [List.map_cons, PyData.depthAll, PyData.depth]
    omega
theorem ints_alike (ns : List Int) : AlikeAll (ns.map PyData.int) := by
  refine ⟨fun x hx y hy => ?_, fun x hx => ?_⟩
  · obtain ⟨i, _, rfl⟩ := List.mem_map.mp hx
    obtain ⟨j, _, rfl⟩ := List.mem_map.mp hy
    rfl
  · obtain ⟨i, _, rfl⟩ := List.mem_map.mp hx
    exact fun h => nomatch h
theorem cr_minT (hu : UOk X) (hc : X.calm = true) : CallR X (.builtin "min") (rMinT X.K) := by
  intro pins s σ H vs us Q I r h
  obtain ⟨a, n, ns, rfl, hs, q⟩ := h
  obtain ⟨its, rv, ht, _⟩ := I.tuple hs
  rw [Vals.ref1 r]
  obtain ⟨as, hr⟩ := Dp.readsAll I _ _ its (dps_ints (n :: ns)) rv
  refine min_tuple_data (I.ok.hd hc) ht hr (ints_alike (n :: ns)) ?_ fun i v h' tk bs hv hR hk => ⟨.int _, H, I.kept hk, ?_, q⟩
  · have := ints_depth (n :: ns)
    have := hu.u65
    have h2 : PyData.depthAll (PyData.int n :: ns.map PyData.int) ≤ 1 := ints_depth (n :: ns)
    omega
  · rw [minD_ints] at hR
    cases hR
    exact ⟨_, rfl⟩
theorem go_sumT {ns : List Int} (hc : X.calm = true) (ha : Go X Γ a (.tuple (ns.map .int))) (hm : X.mg "sum" = none) (hg : Gl X "sum" := by rfl) (he : starEach [a] X.env = (false, eval a X.env) :: starEach [] X.env := by rfl) : Go X Γ (.Call (.Name "sum" p) [a] [] pos) (.int ns.sum) :=
  go_callB (cr_sumT hc) hg hm PyProof.Rows.boot_sum (goA_cons ha goA_nil he) (fun vs B H hB r Q q => by
    obtain ⟨v, rfl, h⟩ := mn1 r
    obtain ⟨p, us, rfl, h2, h3⟩ := dp_tup h
    rw [dps_ints_inv h3] at h2
    exact ⟨p, ns, rfl, hB.st h2, q _ B H (.same hB) (Dp.int _)⟩) (by decide) (by decide) he rfl
theorem go_minT {n : Int} {ns : List Int} (hu : UOk X) (hc : X.calm = true) (ha : Go X Γ a (.tuple ((n :: ns).map .int))) (hm : X.mg "min" = none) (hg : Gl X "min" := by rfl) (he : starEach [a] X.env = (false, eval a X.env) :: starEach [] X.env := by rfl) : Go X Γ (.Call (.Name "min" p) [a] [] pos) (.int (ns.foldl min n)) :=
  go_callB (cr_minT hu hc) hg hm PyProof.Rows.boot_min (goA_cons ha goA_nil he) (fun vs B H hB r Q q => by
    obtain ⟨v, rfl, h⟩ := mn1 r
    obtain ⟨p, us, rfl, h2, h3⟩ := dp_tup h
    rw [dps_ints_inv h3] at h2
    exact ⟨p, n, ns, rfl, hB.st h2, q _ B H (.same hB) (Dp.int _)⟩) (by decide) (by decide) he rfl
theorem slD_whole {ds : List D} {lo hi : Option Int} (hw : HT.sIx ds.length 0 lo = 0 ∧ HT.sIx ds.length ds.length hi = ds.length) : slD ds lo hi = ds := by
  unfold slD
  rw [hw.1, hw.2, List.drop_zero, Nat.sub_zero, List.take_length]
theorem go_slT {ds : List D} {lo hi : Option Expr} {x y : Option Int} {p2 : Pos} (ha : Go X Γ a (.tuple ds)) (hl : GoO X Γ lo x) (hh : GoO X Γ hi y) : Go X Γ (.Subscript a (.Slice lo hi none p2) pos) (.tuple (slD ds x y)) := .mk fun σ B H Fs E Q q =>
  toE (pe_slice sl_tupA sE sO sO) (ha σ B H Fs E _ fun v B1 H1 n1 r1 => goO_run hl (E.nw n1) fun B2 H2 n2 => goO_run hh ((E.nw n1).nw n2) fun B3 H3 n3 => by
    have r3 := dpUp (n2.bb.trans n3.bb) r1
    obtain ⟨p, vs, e1, e2, e3⟩ := dp_tup r3
    have n := (n1.trans n2).trans n3
    subst e1
    refine ⟨p, vs, rfl, n3.bh.st e2, fun hw => ?_, fun hw l hl => ?_⟩
    · rw [dps_len e3] at hw
      rw [slD_whole hw] at q
      exact q _ B3 H3 n r3
    · have m := Nw.new (o := .tup (cutV vs x y)) n.bh hl
      exact q _ _ _ (n.trans m) (Dp.tup (.of upd_same) (dpsUp m.bb (dps_cut e3 x y))))
end
end PL

set_option maxHeartbeats 2000000
namespace PL
open PySem PySem.Spec PyProof.Rows L2
/-! ### numbers by their places -/
theorem tb_add {x i : Nat} (h : x.testBit i = false) (j : Nat) : (2 ^ i + x).testBit j = (decide (i = j) || x.testBit j) := by
  have hp : 0 < 2 ^ i := Nat.two_pow_pos i
  have hb : x % 2 ^ (i + 1) < 2 ^ i := by
    have h1 : (x % 2 ^ (i + 1)).testBit i = false := by
      rw [Nat.testBit_mod_two_pow, h, Bool.and_false]
    have h2 : x % 2 ^ (i + 1) < 2 ^ (i + 1) := Nat.mod_lt _ (Nat.two_pow_pos _)
    by_cases h3 : x % 2 ^ (i + 1) < 2 ^ i
    · exact h3
    · have := Nat.testBit_of_two_pow_le_and_two_pow_add_one_gt (Nat.le_of_not_lt h3) h2
      rw [this] at h1
      cases h1
  have e : x = 2 ^ (i + 1) * (x / 2 ^ (i + 1)) + x % 2 ^ (i + 1) := (Nat.div_add_mod x _).symm
  generalize x / 2 ^ (i + 1) = a at e
  generalize x % 2 ^ (i + 1) = b at e hb
  have hb2 : 2 ^ i + b < 2 ^ (i + 1) := by
    rw [Nat.pow_succ]
    omega
  have hb3 : b < 2 ^ (i + 1) := by
    rw [Nat.pow_succ]
    omega
  rw [show 2 ^ i + x = 2 ^ (i + 1) * a + (2 ^ i + b) by omega, Nat.testBit_two_pow_mul_add a hb2 j, e, Nat.testBit_two_pow_mul_add a hb3 j]
  by_cases hj : j < i + 1
  · rw [if_pos hj, if_pos hj, show 2 ^ i + b = 2 ^ i * 1 + b by omega, Nat.testBit_two_pow_mul_add 1 hb j]
    by_cases hi : j < i
    · rw [if_pos hi, decide_eq_false (by omega : ¬ i = j), Bool.false_or]
    · have : i = j := by omega
      subst this
      rw [if_neg hi, Nat.sub_self, decide_eq_true rfl, Bool.true_or]
      rfl
  · rw [if_neg hj, if_neg hj, decide_eq_false (by omega : ¬ i = j), Bool.false_or]
/-- the number with 1 at the places ps -/
def ofP (ps : List Nat) : Nat := (ps.map fun p => 2 ^ p).sum
theorem tb_ofP : ∀ {ps : List Nat}, ps.Nodup → ∀ q, (ofP ps).testBit q = decide (q ∈ ps)
  | [], _, q => by
    rw [show ofP [] = 0 from rfl, Nat.zero_testBit]
    exact (decide_eq_false (by simp)).symm
  | p :: r, h, q => by
    have hn := List.nodup_cons.mp h
    have ih := tb_ofP hn.2
    have h0 : (ofP r).testBit p = false := by
      rw [ih]
      exact decide_eq_false hn.1
    rw [show ofP (p :: r) = 2 ^ p + ofP r from by unfold ofP; rw [List.map_cons, List.sum_cons], tb_add h0, ih]
    by_cases e : p = q
    · subst e
      simp
    · have : ¬ q = p := fun z => e z.symm
      simp [e, this]
theorem ofP_lt {ps : List Nat} {n : Nat} (h : ps.Nodup) (hl : ∀ p ∈ ps, p < n) : ofP ps < 2 ^ n := Nat.lt_pow_two_of_testBit _ fun i hi => by
  rw [tb_ofP h]
  exact decide_eq_false fun z => by
    have := hl i z
    omega
/-- the places of a number below 2 ^ n -/
def bitsOf (n N : Nat) : List Nat := (List.range n).filter fun p => N.testBit p
theorem bitsOf_nodup (n N : Nat) : (bitsOf n N).Nodup := List.nodup_range.filter _
theorem bitsOf_mem {n N p : Nat} : p ∈ bitsOf n N ↔ p < n ∧ N.testBit p = true := by
  unfold bitsOf
  rw [List.mem_filter, List.mem_range]
theorem ofP_bits {n N : Nat} (h : N < 2 ^ n) : ofP (bitsOf n N) = N := Nat.eq_of_testBit_eq fun i => by
  rw [tb_ofP (bitsOf_nodup n N)]
  by_cases hi : i < n
  · cases q : N.testBit i with
    | true => exact decide_eq_true (bitsOf_mem.mpr ⟨hi, q⟩)
    | false =>
      exact decide_eq_false (fun z => Bool.noConfusion (q.symm.trans (bitsOf_mem.mp z).2))
  · rw [Nat.testBit_lt_two_pow (Nat.lt_of_lt_of_le h (Nat.pow_le_pow_right (by decide) (Nat.le_of_not_lt hi)))]
    exact decide_eq_false fun z => hi (bitsOf_mem.mp z).1
theorem ofP_same {ps qs : List Nat} (h1 : ps.Nodup) (h2 : qs.Nodup) (h : ∀ p, p ∈ ps ↔ p ∈ qs) : ofP ps = ofP qs := Nat.eq_of_testBit_eq fun i => by
  rw [tb_ofP h1, tb_ofP h2]
  exact decide_eq_decide.mpr (h i)
theorem dig_tb (N p : Nat) : (((N : Int) / 2 ^ p % 2 : Int)) = if N.testBit p = true then 1 else 0 := by
  rw [Nat.testBit_eq_decide_div_mod_eq]
  have e : ((N : Int) / 2 ^ p % 2 : Int) = ((N / 2 ^ p % 2 : Nat) : Int) := by
    rw [Int.natCast_emod, Int.natCast_ediv, Int.natCast_pow]
    rfl
  rw [e]
  have : N / 2 ^ p % 2 < 2 := Nat.mod_lt _ (by decide)
  by_cases h : N / 2 ^ p % 2 = 1
  · rw [if_pos (decide_eq_true h), h]
    rfl
  · rw [if_neg (by simpa using h), show N / 2 ^ p % 2 = 0 by omega]
    rfl
theorem pow_cast (p : Nat) : ((2 : Int) ^ p) = ((2 ^ p : Nat) : Int) := by
  rw [Int.natCast_pow]
  rfl
/-- the sum of the steps of places -/
theorem sum_steps (ps : List Nat) : sumI (ps.map fun p => PyData.int ((2 : Int) ^ p)) = ((ofP ps : Nat) : Int) := by
  induction ps with
  | nil => rfl
  | cons p r ih =>
    show (2 : Int) ^ p + sumI (r.map fun p => PyData.int ((2 : Int) ^ p)) = _
    rw [ih, pow_cast, ← Int.natCast_add]
    unfold ofP
    rw [List.map_cons, List.sum_cons]
/-- a range of ints is one of nats -/
theorem rng0 (n : Nat) : rngI 0 (n : Int) = (List.range n).map fun i => ((i : Nat) : Int) := by
  unfold rngI
  rw [show ((n : Int) - 0).toNat = n by omega]
  exact List.map_congr_left fun i _ => Int.zero_add _
end PL

set_option maxHeartbeats 2000000
namespace PL
open PySem PySem.Spec PyProof.Rows L2
/-! ### rows, their digits, their spot -/
def dig (n : Nat) : List Nat := bitsOf 64 n
def xs : List Nat → Nat
  | [] => 0
  | p :: r => p ^^^ xs r
def spN (n : Nat) : Nat := xs (dig n)
theorem dig_nodup (n : Nat) : (dig n).Nodup := bitsOf_nodup 64 n
theorem dig_mem {n p : Nat} : p ∈ dig n ↔ p < 64 ∧ n.testBit p = true := bitsOf_mem
theorem dig_is {n m : Nat} (h : n < 2 ^ m) (hm : m ≤ 64) : bitsOf m n = dig n := by
  unfold dig bitsOf
  have e : List.range 64 = List.range m ++ (List.range (64 - m)).map (m + ·) := by
    rw [← List.range_add]
    congr 1
    omega
  rw [e, List.filter_append]
  have : ((List.range (64 - m)).map (m + ·)).filter (fun p => n.testBit p) = [] := by
    refine List.filter_eq_nil_iff.mpr fun p hp => ?_
    obtain ⟨i, _, rfl⟩ := List.mem_map.mp hp
    rw [Nat.testBit_lt_two_pow (Nat.lt_of_lt_of_le h (Nat.pow_le_pow_right (by decide) (Nat.le_add_right m i)))]
    exact Bool.false_ne_true
  rw [this, List.append_nil]
theorem ofP_dig {n : Nat} (h : n < 2 ^ 64) : ofP (dig n) = n := ofP_bits h
theorem xor_left (a b c : Nat) : a ^^^ (b ^^^ c) = b ^^^ (a ^^^ c) := by rw [← Nat.xor_assoc, Nat.xor_comm a b, Nat.xor_assoc]
theorem xs_perm {l m : List Nat} (h : l.Perm m) : xs l = xs m := by
  induction h with
  | nil => rfl
  | cons x _ ih => exact congrArg (x ^^^ ·) ih
  | swap x y l => exact xor_left y x (xs l)
  | trans _ _ h1 h2 => exact h1.trans h2
theorem xs_app (l m : List Nat) : xs (l ++ m) = xs l ^^^ xs m := by
  induction l with
  | nil => exact (Nat.zero_xor _).symm
  | cons p r ih => rw [List.cons_append, xs, xs, ih, Nat.xor_assoc]
theorem xs_lt {l : List Nat} {k : Nat} (h : ∀ p ∈ l, p < 2 ^ k) : xs l < 2 ^ k := by
  induction l with
  | nil => exact Nat.two_pow_pos k
  | cons p r ih => exact Nat.xor_lt_two_pow (h p List.mem_cons_self) (ih fun q hq => h q (List.mem_cons_of_mem _ hq))
theorem dig_ofP {l : List Nat} (nd : l.Nodup) (h : ∀ p ∈ l, p < 64) : (dig (ofP l)).Perm l :=
  (List.perm_ext_iff_of_nodup (dig_nodup _) nd).mpr fun p => by
    rw [dig_mem, tb_ofP nd]
    simp only [decide_eq_true_eq]
    exact ⟨fun z => z.2, fun z => ⟨h p z, z⟩⟩
theorem sp_ofP {l : List Nat} (nd : l.Nodup) (h : ∀ p ∈ l, p < 64) : spN (ofP l) = xs l := xs_perm (dig_ofP nd h)
theorem len_ofP {l : List Nat} (nd : l.Nodup) (h : ∀ p ∈ l, p < 64) : (dig (ofP l)).length = l.length := (dig_ofP nd h).length_eq
theorem tb_flip (n p i : Nat) : (n ^^^ 2 ^ p).testBit i = (n.testBit i != decide (p = i)) := by rw [Nat.testBit_xor, Nat.testBit_two_pow]
theorem dig_flip_in {n p : Nat} (hp : p < 64) (h : n.testBit p = true) : (dig n).Perm (p :: dig (n ^^^ 2 ^ p)) := by
  refine (List.perm_ext_iff_of_nodup (dig_nodup _) (List.nodup_cons.mpr ⟨fun z => ?_, dig_nodup _⟩)).mpr fun i => ?_
  · have := (dig_mem.mp z).2
    rw [tb_flip, h] at this
    simp at this
  · rw [List.mem_cons, dig_mem, dig_mem, tb_flip]
    by_cases e : p = i
    · subst e
      simp [h, hp]
    · simp [e, Ne.symm e]
theorem xor_twice (n m : Nat) : (n ^^^ m) ^^^ m = n := by rw [Nat.xor_assoc, Nat.xor_self, Nat.xor_zero]
theorem dig_flip_out {n p : Nat} (hp : p < 64) (h : n.testBit p = false) : (dig (n ^^^ 2 ^ p)).Perm (p :: dig n) := by
  have := dig_flip_in (n := n ^^^ 2 ^ p) hp (by rw [tb_flip, h]; simp)
  rwa [xor_twice] at this
theorem sp_flip {n p : Nat} (hp : p < 64) : spN (n ^^^ 2 ^ p) = spN n ^^^ p := by
  cases h : n.testBit p with
  | true =>
    have := xs_perm (dig_flip_in hp h)
    show xs _ = xs _ ^^^ p
    rw [this, xs, Nat.xor_comm p, xor_twice]
  | false =>
    have := xs_perm (dig_flip_out hp h)
    show xs _ = xs _ ^^^ p
    rw [this, xs, Nat.xor_comm p]
theorem par_flip {n p : Nat} (hp : p < 64) : (dig (n ^^^ 2 ^ p)).length % 2 = ((dig n).length + 1) % 2 := by
  cases h : n.testBit p with
  | true =>
    have := (dig_flip_in hp h).length_eq
    rw [List.length_cons] at this
    omega
  | false =>
    have := (dig_flip_out hp h).length_eq
    rw [List.length_cons] at this
    omega
theorem ofP_cons {p : Nat} {l : List Nat} (nd : (p :: l).Nodup) : ofP (p :: l) = ofP l ^^^ 2 ^ p := Nat.eq_of_testBit_eq fun i => by
  have hp := (List.nodup_cons.mp nd).1
  rw [tb_flip, tb_ofP nd, tb_ofP (List.nodup_cons.mp nd).2]
  by_cases e : p = i
  · subst e
    simp [hp]
  · simp [e, Ne.symm e]
theorem sp_xorP {l : List Nat} (nd : l.Nodup) (h : ∀ p ∈ l, p < 64) (n : Nat) : spN (n ^^^ ofP l) = spN n ^^^ xs l ∧ (dig (n ^^^ ofP l)).length % 2 = ((dig n).length + l.length) % 2 := by
  induction l with
  | nil =>
    have e : ofP [] = 0 := rfl
    rw [e, Nat.xor_zero]
    exact ⟨(Nat.xor_zero _).symm, rfl⟩
  | cons p r ih =>
    obtain ⟨i1, i2⟩ := ih (List.nodup_cons.mp nd).2 fun q hq => h q (List.mem_cons_of_mem _ hq)
    have hp := h p List.mem_cons_self
    rw [ofP_cons nd, ← Nat.xor_assoc, sp_flip hp, i1, par_flip hp]
    refine ⟨?_, ?_⟩
    · rw [xs, Nat.xor_assoc, Nat.xor_comm p]
    · rw [List.length_cons]
      omega
theorem sp_xor {n m : Nat} (h : m < 2 ^ 64) : spN (n ^^^ m) = spN n ^^^ spN m ∧ (dig (n ^^^ m)).length % 2 = ((dig n).length + (dig m).length) % 2 := by
  have := sp_xorP (dig_nodup m) (fun p hp => (dig_mem.mp hp).1) n
  rwa [ofP_dig h] at this
/-! ### words -/
def tO (b : Nat) : Nat := if b ≤ 4 then 2 else if b ≤ 11 then 3 else if b ≤ 26 then 4 else 5
def pls (b : Nat) : Nat := b + tO b + 2
def pws (t : Nat) : List Nat := (List.range (t + 1)).map fun k => 2 ^ k
def chks (b : Nat) : List Nat := 0 :: pws (tO b)
def dat (b : Nat) : List Nat := (List.range (pls b)).filter fun p => !(chks b).contains p
def dat_ (b k : Nat) : Nat := (dat b).getD k 0
theorem tO_le (b : Nat) : tO b ≤ 5 := by
  unfold tO
  split
  · decide
  · split
    · decide
    · split <;> decide
theorem dat_len {b : Nat} (h : 4 ≤ b ∧ b ≤ 32) : (dat b).length = b ∧ pls b ≤ 2 ^ (tO b + 1) ∧ pls b ≤ 39 := (by decide : ∀ b : Fin 33, 4 ≤ b.1 → (dat b.1).length = b.1 ∧ pls b.1 ≤ 2 ^ (tO b.1 + 1) ∧ pls b.1 ≤ 39) ⟨b, by omega⟩ h.1
theorem dat_nodup (b : Nat) : (dat b).Nodup := List.nodup_range.filter _
theorem dat_mem {b p : Nat} : p ∈ dat b ↔ p < pls b ∧ p ∉ chks b := by
  unfold dat
  rw [List.mem_filter, List.mem_range]
  simp
theorem dat_at {b k : Nat} (h : 4 ≤ b ∧ b ≤ 32) (hk : k < b) : (dat b)[k]? = some (dat_ b k) ∧ dat_ b k ∈ dat b := by
  have hl : k < (dat b).length := by rw [(dat_len h).1]; exact hk
  unfold dat_
  rw [List.getD_eq_getElem?_getD, List.getElem?_eq_getElem hl]
  exact ⟨rfl, List.getElem_mem hl⟩
theorem dat_inj {b k j : Nat} (h : 4 ≤ b ∧ b ≤ 32) (hk : k < b) (hj : j < b) (e : dat_ b k = dat_ b j) : k = j := by
  have h1 := (dat_at h hk).1
  have h2 := (dat_at h hj).1
  rw [e, ← h2] at h1
  exact (List.getElem?_inj (by rw [(dat_len h).1]; exact hk) (dat_nodup b)).mp h1
/-- the checks that bring a spot to nothing -/
def cks (t s : Nat) : List Nat := ((List.range (t + 1)).filter fun k => s.testBit k).map fun k => 2 ^ k
theorem cks_all : ∀ t : Fin 6, ∀ s : Fin 64, s.1 < 2 ^ (t.1 + 1) → xs (cks t.1 s.1) = s.1 := by decide +kernel
theorem xs_cks {t s : Nat} (ht : t ≤ 5) (h : s < 2 ^ (t + 1)) : xs (cks t s) = s :=
  cks_all ⟨t, by omega⟩ ⟨s, Nat.lt_of_lt_of_le h (Nat.pow_le_pow_right (by decide) (show t + 1 ≤ 6 by omega))⟩ h
theorem cks_mem {t s p : Nat} : p ∈ cks t s ↔ ∃ k, k ≤ t ∧ s.testBit k = true ∧ p = 2 ^ k := by
  unfold cks
  rw [List.mem_map]
  constructor
  · rintro ⟨k, hk, rfl⟩
    obtain ⟨h1, h2⟩ := List.mem_filter.mp hk
    exact ⟨k, by have := List.mem_range.mp h1; omega, h2, rfl⟩
  · rintro ⟨k, h1, h2, rfl⟩
    exact ⟨k, List.mem_filter.mpr ⟨List.mem_range.mpr (by omega), h2⟩, rfl⟩
theorem cks_nodup (t s : Nat) : (cks t s).Nodup := by
  unfold cks
  exact List.pairwise_map.mpr (List.Pairwise.imp (fun ne e => ne ((Nat.pow_right_inj (by decide)).mp e)) (List.nodup_range.filter _))
theorem cks_chk {b s p : Nat} (h : p ∈ cks (tO b) s) : p ∈ chks b ∧ p ≠ 0 ∧ p < 64 := by
  obtain ⟨k, h1, _, rfl⟩ := cks_mem.mp h
  have := tO_le b
  refine ⟨List.mem_cons_of_mem _ (List.mem_map.mpr ⟨k, List.mem_range.mpr (by omega), rfl⟩), Nat.pos_iff_ne_zero.mp (Nat.two_pow_pos k), ?_⟩
  exact Nat.lt_of_lt_of_le (Nat.pow_lt_pow_right (by decide) (show k < 6 by omega)) (by decide)
def on1 (b v : Nat) : List Nat := (dig v).map (dat_ b)
def s1 (b v : Nat) : Nat := spN (ofP (on1 b v))
def on2 (b v : Nat) : List Nat := on1 b v ++ cks (tO b) (s1 b v)
def on3 (b v : Nat) : List Nat := on2 b v ++ (if (on2 b v).length % 2 = 1 then [0] else [])
def codeN (b v : Nat) : Nat := ofP (on3 b v)
section
variable {b v : Nat} (h : 4 ≤ b ∧ b ≤ 32) (hv : v < 2 ^ b)
include h hv
theorem dig_below {k : Nat} (hk : k ∈ dig v) : k < b := by
  rw [← dig_is hv (by omega)] at hk
  exact (bitsOf_mem.mp hk).1
theorem on1_mem {p : Nat} (hp : p ∈ on1 b v) : p ∈ dat b := by
  obtain ⟨k, hk, rfl⟩ := List.mem_map.mp hp
  exact (dat_at h (dig_below h hv hk)).2
theorem on1_nodup : (on1 b v).Nodup :=
  List.pairwise_map.mpr (List.Pairwise.imp_of_mem (fun hx hy ne e => ne (dat_inj h (dig_below h hv hx) (dig_below h hv hy) e)) (dig_nodup v))
theorem on1_lt {p : Nat} (hp : p ∈ on1 b v) : p < 64 := by
  have := (dat_mem.mp (on1_mem h hv hp)).1
  have := (dat_len h).2.2
  omega
theorem s1_is : s1 b v = xs (on1 b v) := sp_ofP (on1_nodup h hv) fun p hp => on1_lt h hv hp
theorem s1_lt : s1 b v < 2 ^ (tO b + 1) := by
  rw [s1_is h hv]
  refine xs_lt fun p hp => ?_
  have := (dat_mem.mp (on1_mem h hv hp)).1
  have := (dat_len h).2.1
  omega
theorem on2_nodup : (on2 b v).Nodup := List.nodup_append.mpr ⟨on1_nodup h hv, cks_nodup _ _, fun p hp q hq e => (dat_mem.mp (on1_mem h hv hp)).2 (e ▸ (cks_chk hq).1)⟩
theorem on2_mem {p : Nat} (hp : p ∈ on2 b v) : p < 64 ∧ p ≠ 0 := by
  rcases List.mem_append.mp hp with z | z
  · exact ⟨on1_lt h hv z, fun e => (dat_mem.mp (on1_mem h hv z)).2 (e ▸ List.mem_cons_self)⟩
  · exact ⟨(cks_chk z).2.2, (cks_chk z).2.1⟩
theorem on3_nodup : (on3 b v).Nodup := by
  refine List.nodup_append.mpr ⟨on2_nodup h hv, ?_, fun p hp q hq e => ?_⟩
  · split <;> simp
  · split at hq
    · rw [List.mem_singleton.mp hq] at e
      exact (on2_mem h hv hp).2 e
    · cases hq
theorem on3_lt {p : Nat} (hp : p ∈ on3 b v) : p < pls b := by
  rcases List.mem_append.mp hp with z | z
  · rcases List.mem_append.mp z with z | z
    · exact (dat_mem.mp (on1_mem h hv z)).1
    · obtain ⟨k, h1, _, rfl⟩ := cks_mem.mp z
      exact (by decide : ∀ b : Fin 33, 4 ≤ b.1 → ∀ k : Fin 6, k.1 ≤ tO b.1 → 2 ^ k.1 < pls b.1) ⟨b, by omega⟩ h.1 ⟨k, by have := tO_le b; omega⟩ h1
  · split at z
    · rw [List.mem_singleton.mp z]
      unfold pls
      omega
    · cases z
theorem on3_64 {p : Nat} (hp : p ∈ on3 b v) : p < 64 := by
  have := on3_lt h hv hp
  have := (dat_len h).2.2
  omega
theorem code_lt : codeN b v < 2 ^ pls b := ofP_lt (on3_nodup h hv) fun p hp => on3_lt h hv hp
theorem code_sp : spN (codeN b v) = 0 := by
  unfold codeN
  rw [sp_ofP (on3_nodup h hv) fun p hp => on3_64 h hv hp]
  unfold on3 on2
  rw [xs_app, xs_app, ← s1_is h hv, xs_cks (tO_le b) (s1_lt h hv), Nat.xor_self, Nat.zero_xor]
  split <;> rfl
theorem code_par : (dig (codeN b v)).length % 2 = 0 := by
  unfold codeN
  rw [len_ofP (on3_nodup h hv) fun p hp => on3_64 h hv hp]
  unfold on3
  rw [List.length_append]
  split
  · show ((on2 b v).length + 1) % 2 = 0
    omega
  · show ((on2 b v).length + 0) % 2 = 0
    omega
theorem code_tb {j : Nat} (hj : j < b) : (codeN b v).testBit (dat_ b j) = v.testBit j := by
  unfold codeN
  rw [tb_ofP (on3_nodup h hv)]
  have hd := (dat_at h hj).2
  have e : dat_ b j ∈ on3 b v ↔ v.testBit j = true := by
    constructor
    · intro z
      rcases List.mem_append.mp z with z | z
      · rcases List.mem_append.mp z with z | z
        · obtain ⟨k, hk, e⟩ := List.mem_map.mp z
          have := dat_inj h (dig_below h hv hk) hj e
          subst this
          exact (dig_mem.mp hk).2
        · exact absurd (cks_chk z).1 (dat_mem.mp hd).2
      · split at z
        · rw [List.mem_singleton.mp z] at hd
          exact absurd List.mem_cons_self (dat_mem.mp hd).2
        · cases z
    · intro z
      exact List.mem_append_left _ (List.mem_append_left _ (List.mem_map.mpr ⟨j, dig_mem.mpr ⟨by omega, z⟩, rfl⟩))
  cases q : v.testBit j with
  | true => exact decide_eq_true (e.mpr q)
  | false => exact decide_eq_false fun z => by rw [e.mp z] at q; cases q
end
/-- the value within a row -/
def valN (b row : Nat) : Nat := ofP ((List.range b).filter fun j => row.testBit (dat_ b j))
theorem val_lt (b row : Nat) : valN b row < 2 ^ b := ofP_lt (List.nodup_range.filter _) fun p hp => List.mem_range.mp (List.mem_filter.mp hp).1
theorem val_tb {b row j : Nat} (hj : j < b) : (valN b row).testBit j = row.testBit (dat_ b j) := by
  unfold valN
  rw [tb_ofP (List.nodup_range.filter _)]
  cases q : row.testBit (dat_ b j) with
  | true => exact decide_eq_true (List.mem_filter.mpr ⟨List.mem_range.mpr hj, q⟩)
  | false => exact decide_eq_false fun z => by have := (List.mem_filter.mp z).2; rw [q] at this; cases this
theorem val_code {b v : Nat} (h : 4 ≤ b ∧ b ≤ 32) (hv : v < 2 ^ b) : valN b (codeN b v) = v := by
  unfold valN
  have : (List.range b).filter (fun j => (codeN b v).testBit (dat_ b j)) = bitsOf b v := List.filter_congr fun j hj => code_tb h hv (List.mem_range.mp hj)
  rw [this, ofP_bits hv]
/-- a row whose digits are all checks, whose spot is none and whose digits are even in number -/
theorem zero_of {b d : Nat} (h : 4 ≤ b ∧ b ≤ 32) (hl : d < 2 ^ pls b) (hd : ∀ j, j < b → d.testBit (dat_ b j) = false) (hs : spN d = 0) (hp : (dig d).length % 2 = 0) : d = 0 := by
  have ht := tO_le b
  have h64 : pls b ≤ 64 := by
    have := (dat_len h).2.2
    omega
  have all_chk : ∀ p ∈ dig d, p ∈ chks b := fun p hp => by
    by_cases q : p ∈ chks b
    · exact q
    · have hlt : p < pls b := by
        rw [← dig_is hl h64] at hp
        exact (bitsOf_mem.mp hp).1
      have hm : p ∈ dat b := dat_mem.mpr ⟨hlt, q⟩
      obtain ⟨k, hk, e⟩ := List.getElem_of_mem hm
      have hkb : k < b := by rw [(dat_len h).1] at hk; exact hk
      have e2 : dat_ b k = p := by
        have := (dat_at h hkb).1
        rw [List.getElem?_eq_getElem hk, e] at this
        exact (Option.some.inj this).symm
      have h1 := hd k hkb
      rw [e2, (dig_mem.mp hp).2] at h1
      cases h1
  let ks := (List.range (tO b + 1)).filter fun k => d.testBit (2 ^ k)
  have ks_nd : ks.Nodup := List.nodup_range.filter _
  have ks_lt : ∀ k ∈ ks, k < tO b + 1 := fun k hk => List.mem_range.mp (List.mem_filter.mp hk).1
  have hcks : cks (tO b) (ofP ks) = ks.map fun k => 2 ^ k := by
    unfold cks
    congr 1
    refine List.filter_congr fun k hk => ?_
    rw [tb_ofP ks_nd]
    cases q : d.testBit (2 ^ k) with
    | true => exact decide_eq_true (List.mem_filter.mpr ⟨hk, q⟩)
    | false => exact decide_eq_false fun z => by have := (List.mem_filter.mp z).2; rw [q] at this; cases this
  have perm : (dig d).Perm ((if d.testBit 0 = true then [0] else []) ++ cks (tO b) (ofP ks)) := by
    refine (List.perm_ext_iff_of_nodup (dig_nodup d) (List.nodup_append.mpr ⟨by split <;> simp, cks_nodup _ _, fun p hp q hq e => ?_⟩)).mpr fun p => ?_
    · split at hp
      · rw [List.mem_singleton.mp hp] at e
        exact (cks_chk hq).2.1 e.symm
      · cases hp
    · rw [List.mem_append, hcks, List.mem_map]
      constructor
      · intro hp
        rcases List.mem_cons.mp (all_chk p hp) with e | e
        · left
          rw [if_pos (e ▸ (dig_mem.mp hp).2), e]
          exact List.mem_singleton.mpr rfl
        · right
          obtain ⟨k, hk, rfl⟩ := List.mem_map.mp e
          exact ⟨k, List.mem_filter.mpr ⟨hk, (dig_mem.mp hp).2⟩, rfl⟩
      · rintro (z | ⟨k, hk, rfl⟩)
        · split at z
          · rename_i q
            rw [List.mem_singleton.mp z]
            exact dig_mem.mpr ⟨by decide, q⟩
          · cases z
        · have hk2 := ks_lt k hk
          exact dig_mem.mpr ⟨Nat.lt_of_lt_of_le (Nat.pow_lt_pow_right (by decide) (show k < 6 by omega)) (by decide), (List.mem_filter.mp hk).2⟩
  have x0 : xs (dig d) = ofP ks := by
    rw [xs_perm perm, xs_app, xs_cks ht (ofP_lt ks_nd ks_lt)]
    split
    · show (0 ^^^ 0) ^^^ _ = _
      rw [Nat.xor_self, Nat.zero_xor]
    · exact Nat.zero_xor _
  have k0 : ofP ks = 0 := x0.symm.trans hs
  have c0 : cks (tO b) (ofP ks) = [] := by
    rw [k0]
    unfold cks
    rw [List.filter_eq_nil_iff.mpr fun k _ => by rw [Nat.zero_testBit]; exact Bool.false_ne_true]
    rfl
  have hlen := perm.length_eq
  rw [c0, List.append_nil] at hlen
  have nil : dig d = [] := by
    by_cases q : d.testBit 0 = true
    · rw [if_pos q] at hlen
      rw [hlen] at hp
      cases hp
    · rw [if_neg q] at hlen
      exact List.eq_nil_of_length_eq_zero hlen
  have := ofP_dig (n := d) (Nat.lt_of_lt_of_le hl (Nat.pow_le_pow_right (by decide) h64))
  rw [nil] at this
  exact this.symm
theorem is_code {b row : Nat} (h : 4 ≤ b ∧ b ≤ 32) (hl : row < 2 ^ pls b) (hs : spN row = 0) (hp : (dig row).length % 2 = 0) : row = codeN b (valN b row) := by
  have hv := val_lt b row
  have hc := code_lt h hv
  have h64 : codeN b (valN b row) < 2 ^ 64 := Nat.lt_of_lt_of_le hc (Nat.pow_le_pow_right (by decide) (by have := (dat_len h).2.2; omega))
  have x := sp_xor (n := row) h64
  have e : row ^^^ codeN b (valN b row) = 0 := by
    refine zero_of h (Nat.xor_lt_two_pow hl hc) (fun j hj => ?_) ?_ ?_
    · rw [Nat.testBit_xor, code_tb h hv hj, val_tb hj, Bool.xor_self]
    · rw [x.1, hs, code_sp h hv]
      rfl
    · rw [x.2, Nat.add_mod, hp, code_par h hv]
  have := xor_twice row (codeN b (valN b row))
  rw [e, Nat.zero_xor] at this
  exact this.symm
end PL

set_option maxHeartbeats 2000000
namespace PL
open PySem PySem.Spec PyProof.Rows L2
/-! ### natural numbers as data -/
abbrev nz (l : List Nat) : List Int := l.map fun p => ((p : Nat) : Int)
abbrev nats (l : List Nat) : D := .list ((nz l).map .int)
abbrev nat (n : Nat) : D := .int ((n : Nat) : Int)
theorem bXor_n (a b : Nat) : Builtin.bitXor (a : Int) (b : Int) = ((a ^^^ b : Nat) : Int) := Bits.bitXor_pp (Int.natCast_nonneg _) (Int.natCast_nonneg _)
theorem bOr_n (a b : Nat) : Builtin.bitOr (a : Int) (b : Int) = ((a ||| b : Nat) : Int) := bitOr_nn (Int.natCast_nonneg _) (Int.natCast_nonneg _)
theorem bAnd_n (a b : Nat) : Builtin.bitAnd (a : Int) (b : Int) = ((a &&& b : Nat) : Int) := bitAnd_pp (Int.natCast_nonneg _) (Int.natCast_nonneg _)
theorem shr_n (a p : Nat) : (a : Int) / 2 ^ p = ((a / 2 ^ p : Nat) : Int) := by
  rw [pow_cast]
  rfl
theorem bit1_n (a p : Nat) : Builtin.bitAnd ((a : Int) / 2 ^ p) 1 = if a.testBit p = true then 1 else 0 := by
  rw [shr_n]
  have : ((1 : Int)) = ((1 : Nat) : Int) := rfl
  rw [this, bAnd_n, Nat.and_one_is_mod]
  have h := dig_tb a p
  rw [shr_n] at h
  exact h
theorem bit1_d (a p : Nat) : decide (Builtin.bitAnd ((a : Int) / 2 ^ p) 1 = 1) = a.testBit p := by
  rw [bit1_n]
  cases a.testBit p <;> rfl
theorem bits_lt (n : Nat) : n < 2 ^ Builtin.Int.intBits (n : Int) := by
  unfold Builtin.Int.intBits
  by_cases h : n = 0
  · subst h
    decide
  · have : ((n : Int) == 0) = false := by simpa using h
    rw [this]
    show n < 2 ^ (n.log2 + 1)
    exact Nat.lt_log2_self
theorem bits_le {n m : Nat} (h : n < 2 ^ m) : Builtin.Int.intBits (n : Int) ≤ m := by
  unfold Builtin.Int.intBits
  by_cases h0 : n = 0
  · subst h0
    exact Nat.zero_le m
  · have : ((n : Int) == 0) = false := by simpa using h0
    rw [this]
    show n.log2 + 1 ≤ m
    exact (Nat.log2_lt h0).mpr h
theorem digs_is {n : Nat} (h : n < 2 ^ 64) : ((rngI 0 (Builtin.Int.intBits (n : Int) : Nat)).filter fun x => decide (Builtin.bitAnd ((n : Int) / 2 ^ x.toNat) 1 = 1)) = nz (dig n) := by
  rw [rng0, List.filter_map]
  have : List.filter ((fun x : Int => decide (Builtin.bitAnd ((n : Int) / 2 ^ x.toNat) 1 = 1)) ∘ fun i : Nat => (i : Int)) (List.range (Builtin.Int.intBits (n : Int))) = bitsOf (Builtin.Int.intBits (n : Int)) n :=
    List.filter_congr fun p _ => bit1_d n p
  rw [this, dig_is (bits_lt n) (bits_le h)]
theorem nz_mem {l : List Nat} {z : Int} : z ∈ nz l ↔ ∃ p ∈ l, z = ((p : Nat) : Int) := by
  rw [List.mem_map]
  exact ⟨fun ⟨p, h, e⟩ => ⟨p, h, e.symm⟩, fun ⟨p, h, e⟩ => ⟨p, h, e.symm⟩⟩
theorem nz_has (l : List Nat) (p : Nat) : (nz l).contains (p : Int) = l.contains p := by
  induction l with
  | nil => rfl
  | cons q r ih =>
    have e : nz (q :: r) = ((q : Nat) : Int) :: nz r := rfl
    rw [e, List.contains_cons, List.contains_cons, ih]
    congr 1
    by_cases h : p = q
    · subst h
      rw [beq_self_eq_true, beq_self_eq_true]
    · have : ¬ ((p : Int) = (q : Int)) := fun z => h (Int.ofNat.inj z)
      rw [beq_eq_false_iff_ne.mpr h, beq_eq_false_iff_ne.mpr this]
theorem nz_at {l : List Nat} {k : Nat} {d : D} (h : ((nz l).map PyData.int)[k]? = some d) : ∃ p, l[k]? = some p ∧ d = nat p := by
  rw [List.getElem?_map, List.getElem?_map] at h
  cases q : l[k]? with
  | none => rw [q] at h; cases h
  | some p => rw [q] at h; exact ⟨p, rfl, (Option.some.inj h).symm⟩
theorem nz_len (l : List Nat) : ((nz l).map PyData.int).length = l.length := by rw [List.length_map, List.length_map]
theorem dig_len (n : Nat) : (dig n).length ≤ 64 := by
  have := List.length_filter_le (fun p => n.testBit p) (List.range 64)
  rw [List.length_range] at this
  exact this
theorem sp_lt (n : Nat) : spN n < 64 := xs_lt (k := 6) fun p hp => (dig_mem.mp hp).1
/-- the state of a row as it is told -/
def stD (b row : Nat) : D := if (dig row).length % 2 = 1 then (if spN row < pls b then .tuple [.str "one", nat (spN row)] else .tuple [.str "more", .none])
  else (if spN row = 0 then .tuple [.str "clean", .none] else .tuple [.str "more", .none])
def Bt4 (b : Nat) : Prop := 4 ≤ b ∧ b ≤ 32
end PL

set_option maxHeartbeats 2000000
namespace PL
open PySem PySem.Spec PyProof.Rows L2
theorem goi_is {X : Cx} {Γ : Ga} {tg it : Expr} {ds ds' : List D} (h : GoI X Γ tg it ds) (e : ds = ds') : GoI X Γ tg it ds' := e ▸ h
theorem dats_is (b : Nat) : ((rngI 0 ((pls b : Nat) : Int)).filter fun x => !hasD ((nz (chks b)).map .int) (.int x)) = nz (dat b) := by
  rw [rng0, List.filter_map]
  refine congrArg (List.map _) (List.filter_congr fun p _ => ?_)
  show (!hasD ((nz (chks b)).map .int) (.int ((p : Nat) : Int))) = _
  rw [hasD_ints, nz_has]
theorem enum_at {l : List Nat} {k : Nat} {d : D} (h : (enumD ((nz l).map .int))[k]? = some d) : ∃ p, l[k]? = some p ∧ d = .tuple [nat k, nat p] := by
  unfold enumD at h
  rw [List.getElem?_map, List.getElem?_zipIdx] at h
  cases q : ((nz l).map PyData.int)[k]? with
  | none => rw [q] at h; cases h
  | some p =>
    rw [q] at h
    obtain ⟨p, hp, rfl⟩ := nz_at q
    refine ⟨p, hp, ?_⟩
    have := (Option.some.inj h).symm
    rw [this]
    show PyData.tuple [.int ((0 + k : Nat) : Int), _] = _
    rw [Nat.zero_add]
theorem enum_len (l : List D) : (enumD l).length = l.length := by
  unfold enumD
  rw [List.length_map, List.length_zipIdx]
theorem enum_dat {b : Nat} (h : 4 ≤ b ∧ b ≤ 32) : enumD ((nz (dat b)).map .int) = (List.range b).map fun k => .tuple [nat k, nat (dat_ b k)] := by
  refine List.ext_getElem? fun k => ?_
  by_cases hk : k < b
  · have hl : k < (enumD ((nz (dat b)).map .int)).length := by rw [enum_len, nz_len, (dat_len h).1]; exact hk
    obtain ⟨p, hp, e⟩ := enum_at (List.getElem?_eq_getElem hl)
    rw [List.getElem?_eq_getElem hl, e, List.getElem?_map, List.getElem?_range hk]
    rw [(dat_at h hk).1] at hp
    rw [← Option.some.inj hp]
    rfl
  · rw [List.getElem?_eq_none (by rw [enum_len, nz_len, (dat_len h).1]; omega), List.getElem?_eq_none (by rw [List.length_map, List.length_range]; omega)]
theorem ofP_push {l : List Nat} {p : Nat} (nd : (l ++ [p]).Nodup) : ofP l ||| 2 ^ p = ofP (l ++ [p]) := Nat.eq_of_testBit_eq fun i => by
  rw [Nat.testBit_or, Nat.testBit_two_pow, tb_ofP nd, tb_ofP (List.nodup_append.mp nd).1]
  by_cases e : p = i
  · subst e
    simp
  · simp [e, Ne.symm e]
/-- the part of the ones that the first k digits bring -/
def onK (b v k : Nat) : List Nat := ((List.range k).filter fun j => v.testBit j).map (dat_ b)
theorem onK_end {b v : Nat} (h : 4 ≤ b ∧ b ≤ 32) (hv : v < 2 ^ b) : onK b v b = on1 b v := by
  unfold onK on1
  rw [← dig_is hv (by omega)]
  rfl
theorem onK_step {b v k : Nat} (h : 4 ≤ b ∧ b ≤ 32) (hk : k < b) : Builtin.bitOr ((ofP (onK b v k) : Nat) : Int) (Builtin.bitAnd ((v : Int) / 2 ^ k) 1 * 2 ^ dat_ b k) = ((ofP (onK b v (k + 1)) : Nat) : Int) := by
  rw [bit1_n]
  have e : onK b v (k + 1) = onK b v k ++ (if v.testBit k = true then [dat_ b k] else []) := by
    unfold onK
    rw [List.range_succ, List.filter_append, List.map_append]
    congr 1
    by_cases q : v.testBit k = true
    · rw [if_pos q, List.filter_cons_of_pos q]
      rfl
    · rw [if_neg q, List.filter_cons_of_neg q]
      rfl
  rw [e]
  by_cases q : v.testBit k = true
  · rw [if_pos q, if_pos q, Int.one_mul, pow_cast, bOr_n, ofP_push]
    have : onK b v k ++ [dat_ b k] = ((List.range (k + 1)).filter fun j => decide (j = k) || v.testBit j).map (dat_ b) := by
      rw [List.range_succ, List.filter_append, List.map_append, List.filter_cons_of_pos (by simp)]
      congr 1
      unfold onK
      refine congrArg _ (List.filter_congr fun j hj => ?_)
      have := List.mem_range.mp hj
      rw [decide_eq_false (by omega)]
      rfl
    rw [this]
    refine List.pairwise_map.mpr (List.Pairwise.imp_of_mem (fun hx hy ne e => ne ?_) (List.nodup_range.filter _))
    have h1 := List.mem_range.mp (List.mem_filter.mp hx).1
    have h2 := List.mem_range.mp (List.mem_filter.mp hy).1
    exact dat_inj h (by omega) (by omega) e
  · rw [if_neg q, if_neg q, Int.zero_mul, List.append_nil]
    have : (0 : Int) = ((0 : Nat) : Int) := rfl
    rw [this, bOr_n, Nat.or_zero]
theorem pow2pow (p : Nat) : (1 * (2 : Int) ^ (1 * (2 : Int) ^ p).toNat) = ((2 ^ (2 ^ p) : Nat) : Int) := by
  rw [Int.one_mul, Int.one_mul, pow_cast p, Int.toNat_natCast, pow_cast]
theorem cks_is {b v : Nat} (h : 4 ≤ b ∧ b ≤ 32) (hv : v < 2 ^ b) : cks (tO b) (s1 b v) = (dig (s1 b v)).map fun k => 2 ^ k := by
  have := tO_le b
  rw [← dig_is (s1_lt h hv) (by omega)]
  rfl
theorem s1_dig {b v p : Nat} (h : 4 ≤ b ∧ b ≤ 32) (hv : v < 2 ^ b) (hp : p ∈ dig (s1 b v)) : p < 6 := by
  have := tO_le b
  rw [← dig_is (s1_lt h hv) (by omega)] at hp
  have := (bitsOf_mem.mp hp).1
  omega
theorem cks_step {b v k p : Nat} (h : 4 ≤ b ∧ b ≤ 32) (hv : v < 2 ^ b) (hp : (dig (s1 b v))[k]? = some p) :
    Builtin.bitOr ((ofP (on1 b v ++ ((dig (s1 b v)).take k).map fun k => 2 ^ k) : Nat) : Int) (1 * (2 : Int) ^ (1 * (2 : Int) ^ p).toNat) = ((ofP (on1 b v ++ ((dig (s1 b v)).take (k + 1)).map fun k => 2 ^ k) : Nat) : Int) := by
  rw [pow2pow, bOr_n, take_push hp, List.map_append, ← List.append_assoc]
  refine congrArg _ (ofP_push ?_)
  have nd := on2_nodup h hv
  unfold on2 at nd
  rw [cks_is h hv] at nd
  refine nd.sublist ?_
  have : on1 b v ++ (((dig (s1 b v)).take k).map fun k => 2 ^ k) ++ [2 ^ p] = on1 b v ++ ((dig (s1 b v)).take (k + 1)).map fun k => 2 ^ k := by
    rw [take_push hp, List.map_append, ← List.append_assoc]
    rfl
  rw [this]
  exact (List.append_sublist_append_left _).mpr ((List.take_sublist _ _).map _)
theorem code_last {b v : Nat} (h : 4 ≤ b ∧ b ≤ 32) (hv : v < 2 ^ b) : Builtin.bitOr ((ofP (on2 b v) : Nat) : Int) (((dig (ofP (on2 b v))).length : Nat) % 2 : Int) = ((codeN b v : Nat) : Int) := by
  rw [len_ofP (on2_nodup h hv) fun p hp => (on2_mem h hv hp).1]
  have nd := on3_nodup h hv
  unfold codeN
  unfold on3 at nd ⊢
  by_cases q : (on2 b v).length % 2 = 1
  · rw [if_pos q] at nd ⊢
    have : (((on2 b v).length : Nat) % 2 : Int) = ((2 ^ 0 : Nat) : Int) := by omega
    rw [this, bOr_n, ofP_push nd]
  · rw [if_neg q, List.append_nil]
    have : (((on2 b v).length : Nat) % 2 : Int) = ((0 : Nat) : Int) := by omega
    rw [this, bOr_n, Nat.or_zero]
theorem on2_64 {b v : Nat} (h : 4 ≤ b ∧ b ≤ 32) (hv : v < 2 ^ b) : ofP (on2 b v) < 2 ^ 64 := ofP_lt (on2_nodup h hv) fun p hp => (on2_mem h hv hp).1
theorem on1_64 {b v : Nat} (h : 4 ≤ b ∧ b ≤ 32) (hv : v < 2 ^ b) : ofP (on1 b v) < 2 ^ 64 := ofP_lt (on1_nodup h hv) fun p hp => on1_lt h hv hp
theorem sum_bits {f : Nat → Int} {q : Nat → Bool} (l : List Nat) (h : ∀ k ∈ l, f k = (if q k = true then 1 else 0) * 2 ^ k) : sumI (l.map fun k => PyData.int (f k)) = ((ofP (l.filter q) : Nat) : Int) := by
  induction l with
  | nil => rfl
  | cons k r ih =>
    rw [List.map_cons]
    show f k + sumI _ = _
    rw [ih fun j hj => h j (List.mem_cons_of_mem _ hj), h k List.mem_cons_self]
    by_cases z : q k = true
    · rw [if_pos z, List.filter_cons_of_pos z, Int.one_mul, pow_cast]
      rfl
    · rw [if_neg z, List.filter_cons_of_neg z, Int.zero_mul, Int.zero_add]
theorem val_sum (b row : Nat) : sumI ((List.range b).map fun k => PyData.int (Builtin.bitAnd ((row : Int) / 2 ^ dat_ b k) 1 * 2 ^ k)) = ((valN b row : Nat) : Int) :=
  sum_bits (q := fun j => row.testBit (dat_ b j)) _ fun k _ => by rw [bit1_n]
theorem bit1_small (row p : Nat) : (Builtin.bitAnd ((row : Int) / 2 ^ p) 1).natAbs < 2 ^ 64 := by
  rw [bit1_n]
  split <;> decide
end PL

set_option maxHeartbeats 2000000
namespace PL
open PySem PySem.Spec PyProof.Rows L2
theorem xs_tb (l : List Nat) (k : Nat) : (xs l).testBit k = decide ((l.filter fun p => p.testBit k).length % 2 = 1) := by
  induction l with
  | nil =>
    show (0 : Nat).testBit k = _
    rw [Nat.zero_testBit]
    rfl
  | cons p r ih =>
    rw [xs, Nat.testBit_xor, ih]
    cases q : p.testBit k with
    | true =>
      rw [List.filter_cons_of_pos (p := fun p => Nat.testBit p k) q, List.length_cons, Bool.true_xor]
      by_cases z : (r.filter fun p => p.testBit k).length % 2 = 1
      · rw [decide_eq_true z, decide_eq_false (by omega)]
        rfl
      · rw [decide_eq_false z, decide_eq_true (by omega)]
        rfl
    | false =>
      rw [List.filter_cons_of_neg (p := fun p => Nat.testBit p k) (by rw [q]; exact Bool.false_ne_true), Bool.false_xor]
theorem spot_tb (n k : Nat) : decide (((((nz (dig n)).filter fun x => decide (x / 2 ^ k % 2 = 1)).map PyData.int).length : Nat) % 2 = (1 : Int)) = (spN n).testBit k := by
  rw [List.length_map, List.filter_map, List.length_map]
  have e : (dig n).filter ((fun x : Int => decide (x / 2 ^ k % 2 = 1)) ∘ fun p : Nat => (p : Int)) = (dig n).filter fun p => p.testBit k := List.filter_congr fun p _ => by
    show decide ((p : Int) / 2 ^ k % 2 = 1) = _
    rw [dig_tb]
    cases p.testBit k <;> rfl
  rw [e]
  show _ = (xs (dig n)).testBit k
  rw [xs_tb]
  by_cases z : ((dig n).filter fun p => p.testBit k).length % 2 = 1
  · rw [decide_eq_true z, decide_eq_true (by omega)]
  · rw [decide_eq_false z, decide_eq_false (by omega)]
theorem spot_sum (n : Nat) : sumI (((List.range 6).filter fun k => (spN n).testBit k).map fun i => PyData.int ((2 : Int) ^ i)) = ((spN n : Nat) : Int) := by
  rw [sum_steps]
  show ((ofP (bitsOf 6 (spN n)) : Nat) : Int) = _
  rw [ofP_bits (n := 6) (sp_lt n)]
theorem filt_step {k : Nat} {q : Nat → Bool} : (List.range (k + 1)).filter q = (List.range k).filter q ++ if q k = true then [k] else [] := by
  rw [List.range_succ, List.filter_append]
  congr 1
  by_cases z : q k = true
  · rw [if_pos z, List.filter_cons_of_pos z]
    rfl
  · rw [if_neg z, List.filter_cons_of_neg z]
    rfl
theorem on1_len {b v : Nat} (h : 4 ≤ b ∧ b ≤ 32) (hv : v < 2 ^ b) : (on1 b v).length ≤ 64 := by
  unfold on1
  rw [List.length_map]
  exact dig_len v
theorem cks_len (t s : Nat) : (cks t s).length ≤ t + 1 := by
  unfold cks
  rw [List.length_map]
  have := List.length_filter_le (fun k => s.testBit k) (List.range (t + 1))
  rwa [List.length_range] at this
theorem nz_app (l m : List Nat) : nz (l ++ m) = nz l ++ nz m := List.map_append
theorem chk_filter (b s : Nat) : ((nz (chks b)).filter fun x => decide (0 < x) && decide (((s : Nat) : Int) / x % 2 = 1)) = nz (cks (tO b) s) := by
  unfold chks nz
  rw [List.map_cons, List.filter_cons_of_neg (by simp)]
  unfold pws cks
  rw [List.filter_map, List.filter_map]
  refine congrArg _ (congrArg _ (List.filter_congr fun k _ => ?_))
  show (decide ((0 : Int) < ((2 ^ k : Nat) : Int)) && decide (((s : Nat) : Int) / ((2 ^ k : Nat) : Int) % 2 = 1)) = _
  rw [← pow_cast, dig_tb]
  have : (0 : Int) < 2 ^ k := Int.pow_pos (by decide)
  rw [decide_eq_true this]
  cases s.testBit k <;> rfl
end PL

set_option maxHeartbeats 2000000
namespace PL
open PySem PySem.Spec PyProof.Rows L2
/-! ### all words; rows with flipped places -/
def wds (b : Nat) : List Nat := (List.range (2 ^ b)).map (codeN b)
theorem wds_len (b : Nat) : (wds b).length = 2 ^ b := by
  unfold wds
  rw [List.length_map, List.length_range]
theorem wds_nodup {b : Nat} (h : 4 ≤ b ∧ b ≤ 32) : (wds b).Nodup := by
  unfold wds
  refine List.pairwise_map.mpr (List.Pairwise.imp_of_mem (fun hx hy ne e => ne ?_) List.nodup_range)
  have h1 := val_code h (List.mem_range.mp hx)
  have h2 := val_code h (List.mem_range.mp hy)
  rw [← h1, ← h2, e]
theorem wds_mem {b n : Nat} (h : 4 ≤ b ∧ b ≤ 32) (hn : n < 2 ^ pls b) : n ∈ wds b ↔ spN n = 0 ∧ (dig n).length % 2 = 0 := by
  unfold wds
  rw [List.mem_map]
  constructor
  · rintro ⟨v, hv, rfl⟩
    exact ⟨code_sp h (List.mem_range.mp hv), code_par h (List.mem_range.mp hv)⟩
  · rintro ⟨h1, h2⟩
    exact ⟨valN b n, List.mem_range.mpr (val_lt b n), (is_code h hn h1 h2).symm⟩
/-- the word that is told as mended -/
def mendD (b row : Nat) : D := if (dig row).length % 2 = 1 then (if spN row < pls b then nat (row ^^^ 2 ^ spN row) else .none)
  else (if spN row = 0 then nat row else .none)
theorem flip_lt {n p m : Nat} (h : n < 2 ^ m) (hp : p < m) : n ^^^ 2 ^ p < 2 ^ m := Nat.xor_lt_two_pow h (Nat.pow_lt_pow_right (by decide) hp)
def flips (n : Nat) (ps : List Nat) : Nat := ps.foldl (fun r p => r ^^^ 2 ^ p) n
theorem flips_lt {m : Nat} : ∀ {ps : List Nat} {n : Nat}, n < 2 ^ m → (∀ p ∈ ps, p < m) → flips n ps < 2 ^ m
  | [], _, h, _ => h
  | p :: ps, n, h, hp => flips_lt (ps := ps) (flip_lt h (hp p List.mem_cons_self)) fun q hq => hp q (List.mem_cons_of_mem _ hq)
theorem flips_push {ps : List Nat} {n p k : Nat} (h : ps[k]? = some p) : flips n (ps.take (k + 1)) = flips n (ps.take k) ^^^ 2 ^ p := by
  rw [take_push h]
  unfold flips
  rw [List.foldl_append]
  rfl
/-- a list of places with one turned -/
def tog (l : List Nat) (p : Nat) : List Nat := (l.filter fun q => !decide (q = p)) ++ if l.contains p = true then [] else [p]
theorem tog_mem {l : List Nat} {p q : Nat} : q ∈ tog l p ↔ (q ∈ l ∧ q ≠ p) ∨ (q = p ∧ p ∉ l) := by
  unfold tog
  rw [List.mem_append, List.mem_filter]
  by_cases h : p ∈ l
  · rw [if_pos (by simpa using h)]
    simp [h]
  · rw [if_neg (by simpa using h)]
    simp [h]
theorem tog_nodup {l : List Nat} {p : Nat} (h : l.Nodup) : (tog l p).Nodup := by
  unfold tog
  refine List.nodup_append.mpr ⟨h.filter _, ?_, ?_⟩
  · split
    · exact List.nodup_nil
    · exact List.nodup_cons.mpr ⟨List.not_mem_nil, List.nodup_nil⟩
  · intro a ha b hb e
    subst e
    have h1 := (List.mem_filter.mp ha).2
    split at hb
    · cases hb
    · rw [List.mem_singleton.mp hb] at h1
      simp at h1
theorem tog_lt {l : List Nat} {p m : Nat} (h : ∀ q ∈ l, q < m) (hp : p < m) : ∀ q ∈ tog l p, q < m := fun q hq => by
  rcases tog_mem.mp hq with ⟨h1, _⟩ | ⟨rfl, _⟩
  · exact h q h1
  · exact hp
theorem tog_ofP {l : List Nat} {p : Nat} (h : l.Nodup) : ofP (tog l p) = ofP l ^^^ 2 ^ p := Nat.eq_of_testBit_eq fun i => by
  rw [tb_ofP (tog_nodup h), tb_flip, tb_ofP h]
  by_cases e : p = i
  · subst e
    by_cases hm : p ∈ l
    · rw [decide_eq_true hm, decide_eq_false (by rw [tog_mem]; simp [hm]), decide_eq_true (rfl : p = p)]
      rfl
    · rw [decide_eq_false hm, decide_eq_true (by rw [tog_mem]; exact .inr ⟨rfl, hm⟩), decide_eq_true (rfl : p = p)]
      rfl
  · rw [decide_eq_false e]
    have : (i ∈ tog l p) ↔ i ∈ l := by
      rw [tog_mem]
      constructor
      · rintro (⟨h1, _⟩ | ⟨h1, _⟩)
        · exact h1
        · exact absurd h1.symm e
      · exact fun h1 => .inl ⟨h1, fun z => e z.symm⟩
    rw [show decide (i ∈ tog l p) = decide (i ∈ l) from decide_eq_decide.mpr this]
    cases decide (i ∈ l) <;> rfl
theorem tog_len {l : List Nat} {p : Nat} : (tog l p).length ≤ l.length + 1 := by
  unfold tog
  rw [List.length_append]
  have := List.length_filter_le (fun q => !decide (q = p)) l
  split
  · show _ + 0 ≤ _
    omega
  · show _ + 1 ≤ _
    omega
theorem dig_lt {n m p : Nat} (h : n < 2 ^ m) (hm : m ≤ 64) (hp : p ∈ dig n) : p < m := by
  rw [← dig_is h hm] at hp
  exact (bitsOf_mem.mp hp).1
/-- which flips bring a word -/
theorem flip_word {b n p : Nat} (h : 4 ≤ b ∧ b ≤ 32) (hn : n < 2 ^ pls b) (hp : p < pls b) : (wds b).contains (n ^^^ 2 ^ p) = (decide ((dig n).length % 2 = 1) && decide (p = spN n)) := by
  have hpl := (dat_len h).2.2
  have e : n ^^^ 2 ^ p ∈ wds b ↔ (dig n).length % 2 = 1 ∧ p = spN n := by
    rw [wds_mem h (flip_lt hn hp), sp_flip (by omega), par_flip (by omega)]
    constructor
    · rintro ⟨h1, h2⟩
      refine ⟨by omega, ?_⟩
      have := congrArg (· ^^^ p) h1
      simp only [xor_twice, Nat.zero_xor] at this
      exact this.symm
    · rintro ⟨h1, rfl⟩
      exact ⟨Nat.xor_self _, by omega⟩
  rw [Bool.eq_iff_iff, List.contains_iff_mem, e]
  simp
def foundD (b n k : Nat) : List D := ((List.range k).filter fun p => (wds b).contains (n ^^^ 2 ^ p)).map fun p => .tuple [.tuple [.str "one", nat p], nat (n ^^^ 2 ^ p)]
theorem found_len (b n k : Nat) : (foundD b n k).length ≤ k := by
  unfold foundD
  rw [List.length_map]
  have := List.length_filter_le (fun p => (wds b).contains (n ^^^ 2 ^ p)) (List.range k)
  rwa [List.length_range] at this
theorem found_yes {b n k : Nat} (q : (wds b).contains (n ^^^ 2 ^ k) = true) : foundD b n (k + 1) = foundD b n k ++ [.tuple [.tuple [.str "one", nat k], nat (n ^^^ 2 ^ k)]] := by
  unfold foundD
  rw [List.range_succ, List.filter_append, List.map_append, List.filter_cons_of_pos (p := fun p => (wds b).contains (n ^^^ 2 ^ p)) q]
  rfl
theorem found_no {b n k : Nat} (q : (wds b).contains (n ^^^ 2 ^ k) = false) : foundD b n (k + 1) = foundD b n k := by
  unfold foundD
  rw [List.range_succ, List.filter_append, List.map_append, List.filter_cons_of_neg (p := fun p => (wds b).contains (n ^^^ 2 ^ p)) (by rw [q]; exact Bool.false_ne_true)]
  exact List.append_nil _
theorem range_one {k s : Nat} : (List.range k).filter (fun p => decide (p = s)) = if s < k then [s] else [] := by
  induction k with
  | zero => rfl
  | succ k ih =>
    rw [List.range_succ, List.filter_append, ih]
    by_cases e : k = s
    · subst e
      rw [if_neg (by omega), if_pos (by omega), List.filter_cons_of_pos (by simp)]
      rfl
    · rw [List.filter_cons_of_neg (by simpa using e)]
      by_cases q : s < k
      · rw [if_pos q, if_pos (by omega)]
        rfl
      · rw [if_neg q, if_neg (by omega)]
        rfl
theorem found_all {b n : Nat} (h : 4 ≤ b ∧ b ≤ 32) (hn : n < 2 ^ pls b) : foundD b n (pls b) = if (dig n).length % 2 = 1 ∧ spN n < pls b then [.tuple [.tuple [.str "one", nat (spN n)], nat (n ^^^ 2 ^ spN n)]] else [] := by
  unfold foundD
  have e : (List.range (pls b)).filter (fun p => (wds b).contains (n ^^^ 2 ^ p)) = if (dig n).length % 2 = 1 ∧ spN n < pls b then [spN n] else [] := by
    rw [List.filter_congr fun p hp => flip_word h hn (List.mem_range.mp hp)]
    by_cases q : (dig n).length % 2 = 1
    · rw [List.filter_congr (q := fun p => decide (p = spN n)) fun p _ => by rw [decide_eq_true q]; rfl, range_one]
      by_cases z : spN n < pls b
      · rw [if_pos z, if_pos ⟨q, z⟩]
      · rw [if_neg z, if_neg fun w => z w.2]
    · rw [List.filter_congr (q := fun _ => false) fun p _ => by rw [decide_eq_false q]; rfl, if_neg fun w => q w.1]
      exact List.filter_eq_nil_iff.mpr fun _ _ => Bool.false_ne_true
  rw [e]
  split <;> rfl
/-- what is due of a row -/
def dueD (b n : Nat) : D := .tuple [stD b n, mendD b n]
theorem due_clean {b n : Nat} (h : 4 ≤ b ∧ b ≤ 32) (hn : n < 2 ^ pls b) (q : n ∈ wds b) : dueD b n = .tuple [.tuple [.str "clean", .none], nat n] := by
  obtain ⟨h1, h2⟩ := (wds_mem h hn).mp q
  have o : ¬ (dig n).length % 2 = 1 := by omega
  unfold dueD stD mendD
  rw [if_neg o, if_neg o, if_pos h1, if_pos h1]
theorem due_one {b n : Nat} (q : (dig n).length % 2 = 1 ∧ spN n < pls b) : dueD b n = .tuple [.tuple [.str "one", nat (spN n)], nat (n ^^^ 2 ^ spN n)] := by
  unfold dueD stD mendD
  rw [if_pos q.1, if_pos q.1, if_pos q.2, if_pos q.2]
theorem due_more {b n : Nat} (h : 4 ≤ b ∧ b ≤ 32) (hn : n < 2 ^ pls b) (q : ¬ n ∈ wds b) (z : ¬ ((dig n).length % 2 = 1 ∧ spN n < pls b)) : dueD b n = .tuple [.tuple [.str "more", .none], .none] := by
  unfold dueD stD mendD
  by_cases o : (dig n).length % 2 = 1
  · rw [if_pos o, if_pos o, if_neg fun w => z ⟨o, w⟩, if_neg fun w => z ⟨o, w⟩]
  · have : ¬ spN n = 0 := fun w => q ((wds_mem h hn).mpr ⟨w, by omega⟩)
    rw [if_neg o, if_neg o, if_neg this, if_neg this]
end PL

set_option maxHeartbeats 2000000
namespace PL
open PySem PySem.Spec PyProof.Rows L2
/-! ### rows that are one, two, three flips from a word -/
theorem xor_back (n m : Nat) : n ^^^ (n ^^^ m) = m := by rw [← Nat.xor_assoc, Nat.xor_self, Nat.zero_xor]
theorem xor_back2 (n m : Nat) : (n ^^^ m) ^^^ n = m := by rw [Nat.xor_comm n m, xor_twice]
theorem dig_pow {p : Nat} (h : p < 64) : dig (2 ^ p) = [p] := by
  unfold dig bitsOf
  rw [List.filter_congr (q := fun i => decide (i = p)) fun i _ => by rw [Nat.testBit_two_pow]; exact decide_eq_decide.mpr eq_comm, range_one, if_pos h]
theorem flips_is {n : Nat} : ∀ {ps : List Nat}, ps.Nodup → flips n ps = n ^^^ ofP ps
  | [], _ => by show n = n ^^^ 0; rw [Nat.xor_zero]
  | p :: ps, h => by
    show flips (n ^^^ 2 ^ p) ps = _
    rw [flips_is (List.nodup_cons.mp h).2, ofP_cons h, Nat.xor_assoc, Nat.xor_comm (2 ^ p)]
theorem flips_dig {n m : Nat} (h : m < 2 ^ 64) : flips n (dig m) = n ^^^ m := by rw [flips_is (dig_nodup m), ofP_dig h]
structure IsWd (b w : Nat) : Prop where
  b4 : 4 ≤ b ∧ b ≤ 32
  lt : w < 2 ^ pls b
  sp : spN w = 0
  par : (dig w).length % 2 = 0
theorem IsWd.code {b v : Nat} (h : 4 ≤ b ∧ b ≤ 32) (hv : v < 2 ^ b) : IsWd b (codeN b v) := ⟨h, code_lt h hv, code_sp h hv, code_par h hv⟩
theorem IsWd.clean {b w : Nat} (h : IsWd b w) : stD b w = .tuple [.str "clean", .none] ∧ mendD b w = nat w := by
  have o : ¬ (dig w).length % 2 = 1 := by have := h.par; omega
  unfold stD mendD
  rw [if_neg o, if_neg o, if_pos h.sp, if_pos h.sp]
  exact ⟨rfl, rfl⟩
theorem odd_state {b n : Nat} (h1 : (dig n).length % 2 = 1) : (spN n < pls b ∧ stD b n = .tuple [.str "one", nat (spN n)] ∧ mendD b n = nat (n ^^^ 2 ^ spN n)) ∨ (stD b n = .tuple [.str "more", .none] ∧ mendD b n = .none) := by
  unfold stD mendD
  rw [if_pos h1, if_pos h1]
  by_cases q : spN n < pls b
  · rw [if_pos q, if_pos q]
    exact .inl ⟨q, rfl, rfl⟩
  · rw [if_neg q, if_neg q]
    exact .inr ⟨rfl, rfl⟩
theorem IsWd.one {b w p : Nat} (h : IsWd b w) (hp : p < pls b) : stD b (w ^^^ 2 ^ p) = .tuple [.str "one", nat p] ∧ mendD b (w ^^^ 2 ^ p) = nat w := by
  have hpl := (dat_len h.b4).2.2
  have h1 : (dig (w ^^^ 2 ^ p)).length % 2 = 1 := by
    rw [par_flip (by omega)]
    have := h.par
    omega
  have h2 : spN (w ^^^ 2 ^ p) = p := by rw [sp_flip (by omega), h.sp, Nat.zero_xor]
  unfold stD mendD
  rw [if_pos h1, if_pos h1, h2, if_pos hp, if_pos hp, xor_twice]
  exact ⟨rfl, rfl⟩
theorem IsWd.two {b w f s : Nat} (h : IsWd b w) (hf : f < pls b) (hs : s < pls b) (ne : f ≠ s) : stD b (flips w [f, s]) = .tuple [.str "more", .none] ∧ mendD b (flips w [f, s]) = .none := by
  have hpl := (dat_len h.b4).2.2
  have h1 : ¬ (dig (flips w [f, s])).length % 2 = 1 := by
    show ¬ (dig ((w ^^^ 2 ^ f) ^^^ 2 ^ s)).length % 2 = 1
    rw [par_flip (by omega)]
    have := par_flip (n := w) (p := f) (by omega)
    have := h.par
    omega
  have h2 : ¬ spN (flips w [f, s]) = 0 := by
    show ¬ spN ((w ^^^ 2 ^ f) ^^^ 2 ^ s) = 0
    rw [sp_flip (by omega), sp_flip (by omega), h.sp, Nat.zero_xor]
    intro e
    have := congrArg (· ^^^ s) e
    simp only [xor_twice, Nat.zero_xor] at this
    exact ne this
  unfold stD mendD
  rw [if_neg h1, if_neg h1, if_neg h2, if_neg h2]
  exact ⟨rfl, rfl⟩
theorem IsWd.three {b w f s t : Nat} (h : IsWd b w) (hf : f < pls b) (hs : s < pls b) (ht : t < pls b) : (dig (flips w [f, s, t])).length % 2 = 1 := by
  have hpl := (dat_len h.b4).2.2
  show (dig (((w ^^^ 2 ^ f) ^^^ 2 ^ s) ^^^ 2 ^ t)).length % 2 = 1
  rw [par_flip (by omega)]
  have := par_flip (n := w ^^^ 2 ^ f) (p := s) (by omega)
  have := par_flip (n := w) (p := f) (by omega)
  have := h.par
  omega
/-- what a row is mended to is a word -/
theorem mended_word {b n : Nat} (h4 : 4 ≤ b ∧ b ≤ 32) (hn : n < 2 ^ pls b) (h1 : (dig n).length % 2 = 1) (h2 : spN n < pls b) : IsWd b (n ^^^ 2 ^ spN n) := by
  have hpl := (dat_len h4).2.2
  refine ⟨h4, flip_lt hn h2, ?_, ?_⟩
  · rw [sp_flip (by omega), Nat.xor_self]
  · rw [par_flip (by omega)]
    omega
theorem three_other {w f s t p : Nat} (h1 : f ≠ s) (h2 : t ≠ f) (h3 : t ≠ s) : flips w [f, s, t] ^^^ 2 ^ p ≠ w := by
  intro e
  have nd : [f, s, t].Nodup := by
    refine List.nodup_cons.mpr ⟨?_, List.nodup_cons.mpr ⟨?_, List.nodup_cons.mpr ⟨List.not_mem_nil, List.nodup_nil⟩⟩⟩
    · simp only [List.mem_cons, List.not_mem_nil, or_false, not_or]
      exact ⟨h1, fun z => h2 z.symm⟩
    · simp only [List.mem_cons, List.not_mem_nil, or_false]
      exact fun z => h3 z.symm
  rw [flips_is nd, Nat.xor_assoc] at e
  have e2 := congrArg (w ^^^ ·) e
  simp only [xor_back, Nat.xor_self] at e2
  have hb : ∀ i ∈ [f, s, t], p = i := fun i hi => by
    have := congrArg (fun z => z.testBit i) e2
    simp only [Nat.testBit_xor, Nat.zero_testBit, Nat.testBit_two_pow, tb_ofP nd, decide_eq_true hi] at this
    by_cases z : p = i
    · exact z
    · rw [decide_eq_false z] at this
      cases this
  have e3 := hb f (by simp)
  have e4 := hb s (by simp)
  omega
theorem six_two {w f s t : Nat} : flips w [f, s, f, t, t, t] = flips w [s, t] := by
  show (((((w ^^^ 2 ^ f) ^^^ 2 ^ s) ^^^ 2 ^ f) ^^^ 2 ^ t) ^^^ 2 ^ t) ^^^ 2 ^ t = (w ^^^ 2 ^ s) ^^^ 2 ^ t
  rw [xor_twice, Nat.xor_assoc w, Nat.xor_comm (2 ^ f), ← Nat.xor_assoc w, xor_twice]
theorem dig_two {w f s : Nat} (hf : f < 64) (hs : s < 64) (ne : f ≠ s) : (dig (flips w [f, s] ^^^ w)).Perm [f, s] ∧ (dig (flips w [f, s] ^^^ w)).Pairwise (· < ·) := by
  have nd : [f, s].Nodup := List.nodup_cons.mpr ⟨by simpa using ne, List.nodup_cons.mpr ⟨List.not_mem_nil, List.nodup_nil⟩⟩
  rw [flips_is nd, xor_back2]
  refine ⟨dig_ofP nd fun p hp => ?_, List.Pairwise.filter _ List.pairwise_lt_range⟩
  rcases List.mem_cons.mp hp with rfl | hp
  · exact hf
  · rw [List.mem_singleton.mp hp]
    exact hs
/-- the places but two -/
def but2 (m f s : Nat) : List Nat := (List.range m).filter fun p => !(decide (p = f) || decide (p = s))
theorem but2_len {m f s : Nat} (ne : f ≠ s) : (but2 m f s).length + (if f < m then 1 else 0) + (if s < m then 1 else 0) = m := by
  unfold but2
  induction m with
  | zero => rfl
  | succ m ih =>
    rw [List.range_succ, List.filter_append, List.length_append]
    by_cases e1 : m = f
    · subst e1
      rw [List.filter_cons_of_neg (by simp)]
      have : ¬ m < m := by omega
      rw [if_neg this] at ih
      rw [if_pos (by omega)]
      by_cases q : s < m
      · rw [if_pos q] at ih
        rw [if_pos (by omega)]
        show _ + 0 + _ + _ = _
        omega
      · rw [if_neg q] at ih
        rw [if_neg (by omega)]
        show _ + 0 + _ + _ = _
        omega
    · by_cases e2 : m = s
      · subst e2
        rw [List.filter_cons_of_neg (by simp)]
        have : ¬ m < m := by omega
        rw [if_neg this] at ih
        rw [if_pos (show m < m + 1 by omega)]
        by_cases q : f < m
        · rw [if_pos q] at ih
          rw [if_pos (by omega)]
          show _ + 0 + _ + _ = _
          omega
        · rw [if_neg q] at ih
          rw [if_neg (by omega)]
          show _ + 0 + _ + _ = _
          omega
      · rw [List.filter_cons_of_pos (by simp [e1, e2])]
        have a1 : (if f < m + 1 then 1 else 0) = if f < m then 1 else 0 := by
          by_cases q : f < m
          · rw [if_pos q, if_pos (by omega)]
          · rw [if_neg q, if_neg (by omega)]
        have a2 : (if s < m + 1 then 1 else 0) = if s < m then 1 else 0 := by
          by_cases q : s < m
          · rw [if_pos q, if_pos (by omega)]
          · rw [if_neg q, if_neg (by omega)]
        rw [a1, a2]
        show _ + 1 + _ + _ = _
        omega
theorem but2_get {m f s i : Nat} (ne : f ≠ s) (hf : f < m) (hs : s < m) (hi : i + 2 < m) : ∃ t, (but2 m f s)[i]? = some t ∧ t < m ∧ t ≠ f ∧ t ≠ s := by
  have hl := but2_len (m := m) ne
  rw [if_pos hf, if_pos hs] at hl
  have hi2 : i < (but2 m f s).length := by omega
  refine ⟨(but2 m f s)[i], List.getElem?_eq_getElem hi2, ?_⟩
  obtain ⟨h1, h2⟩ := List.mem_filter.mp (List.getElem_mem hi2)
  refine ⟨List.mem_range.mp h1, ?_, ?_⟩
  · intro e
    rw [e] at h2
    simp at h2
  · intro e
    rw [e] at h2
    simp at h2
theorem second_ne {f c m : Nat} (hf : f < m) (hc : c + 1 < m) : (f + 1 + c) % m ≠ f ∧ (f + 1 + c) % m < m := by
  have hm : 0 < m := by omega
  refine ⟨?_, Nat.mod_lt _ hm⟩
  by_cases q : f + 1 + c < m
  · rw [Nat.mod_eq_of_lt q]
    omega
  · rw [Nat.mod_eq_sub_mod (by omega), Nat.mod_eq_of_lt (by omega)]
    omega
theorem odd_is {w l m : Nat} (hw : w < 2 ^ m) (hl : l < 2 ^ m) (hm : m ≤ 64) : dig (w ^^^ l) = (List.range m).filter fun p => l.testBit p != w.testBit p := by
  rw [← dig_is (Nat.xor_lt_two_pow hw hl) hm]
  unfold bitsOf
  refine List.filter_congr fun p _ => ?_
  rw [Nat.testBit_xor]
  cases w.testBit p <;> cases l.testBit p <;> rfl
end PL

set_option maxHeartbeats 2000000
namespace K
open PySem PySem.Spec PyProof.Rows L2 PL
local macro_rules | `(tactic| walk_at "pside") => `(tactic| first | exact True.intro | assumption | omega | decide | (refine ⟨?_, ?_⟩ <;> walk_at "pside") | walk_at "pshp" | (simp only [List.length_map, List.length_cons, List.length_nil, List.length_append, List.length_range, rngI_len]; omega) | (refine leZ ?_; simp only [List.length_map, List.length_cons, List.length_nil, List.length_append, List.length_range, rngI_len]; omega))
local macro_rules | `(tactic| walk_at "pshp") => `(tactic| first | exact Shp.ok (by walk_at "psh") | exact Shp.ok (n := 9) (by walk_at "psh9"))
local macro_rules | `(tactic| walk_at "psh9") => `(tactic| first | exact Shp.int _ _ | exact Shp.bool _ _ | exact Shp.non _ | exact Shp.str _ | exact Shp.ints _ _ | exact Shp.tints _ _ | (refine Shp.tup ?_; walk_at "psha") | (refine Shp.list ?_; walk_at "psha") | exact Shp.up (by assumption) (by decide))
local macro_rules | `(tactic| walk_at "psha") => `(tactic| first | exact ShpA.nil | refine ShpA.cons (by walk_at "psh9") (by walk_at "psha"))
local macro_rules | `(tactic| walk_at "psh") => `(tactic| first | exact Shp.int _ 0 | exact Shp.bool _ 0 | exact Shp.non 0 | assumption | exact Shp.ints _ 0)
local macro_rules | `(tactic| walk_at "pix") => `(tactic| first | exact rfl | assumption | exact atI_nat (by assumption) | exact atI_get' (by assumption) (by omega) | exact IntsD.at (by assumption) (by omega) | exact IntsD.at (n := 3) ⟨[_, _, _], rfl, rfl, fun _ _ => True.intro⟩ (by omega) | exact IntsD.at (n := 2) ⟨[_, _], rfl, rfl, fun _ _ => True.intro⟩ (by omega) | exact IntsD.at (n := 4) ⟨[_, _, _, _], rfl, rfl, fun _ _ => True.intro⟩ (by omega) | exact IntsD.at (n := 5) ⟨[_, _, _, _, _], rfl, rfl, fun _ _ => True.intro⟩ (by omega))
local macro_rules | `(tactic| walk_at "ptru") => `(tactic| exact ⟨fun _ h => (nomatch h), fun _ h => (nomatch h)⟩)
local macro_rules | `(tactic| walk_at "pints") => `(tactic| first | assumption | exact ints_map | exact bools_map)
local macro_rules | `(tactic| walk_at "pS") => `(tactic| first | exact ⟨_, rfl, rfl, by walk_at "pside"⟩ | exact ⟨_, _, rfl, rfl, by walk_at "pside"⟩ | exact ⟨_, _, _, rfl, rfl, by walk_at "pside"⟩ | exact ⟨_, _, _, _, rfl, rfl, by walk_at "pside"⟩ | exact ⟨_, _, _, _, _, rfl, rfl, by walk_at "pside"⟩ | exact ⟨_, _, _, _, rfl, ⟨rfl, rfl, rfl⟩, by walk_at "pside"⟩ | exact ⟨_, _, _, _, rfl, rfl, rfl, rfl, by walk_at "pside"⟩ | exact ⟨_, _, _, _, _, rfl, rfl, rfl, rfl, by walk_at "pside"⟩ | exact ⟨_, _, rfl, rfl, rfl, rfl, by walk_at "pside"⟩)
def topS (i : Nat) : Stmt := PySem.Challenge.pw_farword_k16_scrubbed_cells.main.body.getD i (.Pass ⟨0, 0, 0, 0⟩)
/-! ### the law's own numbers -/
abbrev s__law_row : Stmt := topS 18
theorem sc__law_row : FnScope ["_law_cell", "_law_many", "_law_row_here", "_law_rest", "_law_state", "_law_k"] ["_law_cell", "_law_many"] (defScope s__law_row) := ⟨rfl, rfl, rfl, by decide +kernel, rfl, by decide +kernel, by decide +kernel⟩
abbrev s__law_numbers : Stmt := topS 19
theorem sc__law_numbers : FnScope ["_law_script", "_law_many", "_law_cells", "_law_each", "_law_numbers_here", "_law_cell", "_law_number"] ["_law_script", "_law_many"] (defScope s__law_numbers) := ⟨rfl, rfl, rfl, by decide +kernel, rfl, by decide +kernel, by decide +kernel⟩
def Small (x : Int) : Prop := 0 ≤ x ∧ x < 1009
/-- a list of n small numbers -/
def numP (n : Nat) : Mn := exP (IntsD Small n) fun ds => datP (.list ds)
def S__law_row : List Mn → Mn → Prop := fun Ps R => ∃ (c n : Int), Ps = [datP (.int c), datP (.int n)] ∧ R = numP n.toNat ∧ (0 ≤ n ∧ n ≤ 100000)
def S__law_numbers : List Mn → Mn → Prop := fun Ps R => ∃ (ns : List Int) (n : Int), Ps = [datP (.list (ns.map .int)), datP (.int n)] ∧ R = numP n.toNat ∧ (0 ≤ n ∧ n ≤ 10000)
theorem small_mod (z : Int) : Small (z % 1009) := ⟨Int.emod_nonneg _ (by decide), Int.emod_lt_of_pos _ (by decide)⟩
section
variable {P : Program} {w : World} {K : PySem.W.Frag} {mg : Str → Option Value} {base : Heap}
theorem ok__law_row (df : Dfn K mg "_law_row" s__law_row ["_law_cell", "_law_many"])    (bt : Bt mg) : Cal P w K mg base "_law_row" ["_law_cell", "_law_many"] 1 S__law_row := by
  refine cal_ok df sc__law_row ?_ ?_
  · rintro _ _ ⟨c, n, rfl, rfl, _⟩
    rfl
  rintro _ _ ⟨c, n, rfl, rfl, hn⟩ f cdv A outer s H E hr J hJ
  have sb : ∀ z : Int, 0 ≤ z % 2147483647 ∧ z % 2147483647 < 2147483647 := fun z => ⟨Int.emod_nonneg _ (by decide), Int.emod_lt_of_pos _ (by decide)⟩
  refine rn_cons (rs_own 2 (goN_lst god_nil) ?_ sc__law_row.nd)
  refine rn_cons (rs_set 3 go_int ?_ sc__law_row.nd)
  refine rn_cons (rs_cut (fun Γ' => ∃ r : Int, Γ' = [.dat (.int c), .dat (.int n), .own [], .dat (.int r), .any, .any] ∧ 0 ≤ r) (rs_if (gocT (gx_c (.of hr) (go_abs (go_var 0) bt.abs) (gx_bin go_int go_int))) (fun hk => ?_) fun hk => ?_) ?_)
  · skip
    refine rn_cons (rs_set 3 (go_abs (go_var 0) bt.abs) ?_ sc__law_row.nd)
    refine rn_nil ⟨_, rfl, ?_⟩
    split <;> omega
  · skip
    exact rn_nil ⟨0, rfl, by omega⟩
  rintro _ ⟨r, rfl, hr0⟩
  refine rn_cons (rs_set 4 (gx_bin (gx_int bt.int (go_abs (go_var 0) bt.abs)) go_int) ?_ sc__law_row.nd)
  refine rn_cons (rs_for (fun k Γ' => ∃ (ds : List D) (r st : Int) (s5 : Sl), Γ' = [.dat (.int c), .dat (.int n), .own ds, .dat (.int r), .dat (.int st), s5] ∧ IntsD Small k ds ∧ 0 ≤ r ∧ (0 ≤ st ∧ st < 2147483647)) (gx_rng1 bt.range (go_var 1)) ?_ ?_ ?_ rfl)
  · exact ⟨_, _, _, _, rfl, .nil, hr0, sb _⟩
  · rintro k d _ hd ⟨ds, r, st, s5, rfl, h1, h3, h4⟩
    obtain ⟨hk, rfl⟩ := rng_get hd
    have hl : ds.length < 1000000 := by
      rw [h1.len]
      omega
    refine ⟨_, _, (gog_name 5 sc__law_row.nd), ?_⟩
    refine rn_cons (rs_set 4 (gx_bin (gx_int bt.int (gx_bin (gx_bin (gx_bin (go_var 4) go_int) go_int) (gx_bin go_int (go_var 5)))) go_int) ?_ sc__law_row.nd)
    refine rn_cons (rs_if (gocT (gx_c (.of hr) (go_var 3) go_int)) (fun hk => ?_) fun hk => ?_)
    · skip
      refine rn_cons (rs_app 2 rfl (gx_bin (gx_int bt.int (go_var 3)) go_int) (ltZ (by walk_at "pside")) ?_)
      refine rn_cons (rs_set 3 (gx_bin (go_var 3) go_int) ?_ sc__law_row.nd)
      exact rn_nil (rn_nil ⟨_, _, _, _, rfl, h1.push (small_mod _), Int.ediv_nonneg h3 (by decide), sb _⟩)
    · skip
      refine rn_cons (rs_app 2 rfl (gx_bin (gx_int bt.int (gx_bin (go_var 4) go_int)) go_int) (ltZ (by walk_at "pside")) ?_)
      exact rn_nil (rn_nil ⟨_, _, _, _, rfl, h1.push (small_mod _), h3, sb _⟩)
  · rintro _ ⟨ds, r, st, s5, rfl, h1, h3, h4⟩
    rw [rng_len, show n - 0 = n by omega] at h1
    refine rn_ice 2 rfl (by rw [hJ]; exact List.not_mem_nil) (rn_cons (rs_ret (go_ex ds h1 (go_var 2))))
theorem ok__law_numbers (df : Dfn K mg "_law_numbers" s__law_numbers ["_law_script", "_law_many"]) (c__law_row : Cal P w K mg base "_law_row" ["_law_cell", "_law_many"] 1 S__law_row)   (bt : Bt mg) : Cal P w K mg base "_law_numbers" ["_law_script", "_law_many"] 2 S__law_numbers := by
  refine cal_ok df sc__law_numbers ?_ ?_
  · rintro _ _ ⟨c, n, rfl, rfl, _⟩
    rfl
  rintro _ _ ⟨ms, n, rfl, rfl, hn⟩ f cdv A outer s H E hr J hJ
  have hcut := cut63 ms
  have hlen : (ms.take 63).length ≤ 63 := by
    rw [List.length_take]
    omega
  revert hcut hlen
  generalize ms.take 63 = cs
  intro hcut hlen
  refine rn_cons (rs_set 2 (go_is (go_of_new (goN_sl (go_var 0) goO_none (goO_some go_int))) (congrArg PyData.list hcut)) ?_ sc__law_numbers.nd)
  obtain ⟨m, em, hm⟩ : ∃ m : Int, (1 + n / (if ((cs.map PyData.int).length : Int) > 1 then ((cs.map PyData.int).length : Int) else 1)) = m ∧ (0 ≤ m ∧ m ≤ 10001) := by
    have h1 : (1 : Int) ≤ (if ((cs.map PyData.int).length : Int) > 1 then ((cs.map PyData.int).length : Int) else 1) := by split <;> omega
    generalize (if ((cs.map PyData.int).length : Int) > 1 then ((cs.map PyData.int).length : Int) else 1) = q at h1 ⊢
    have h2 : 0 ≤ n / q := Int.ediv_nonneg (by omega) (by omega)
    have h3 : n / q ≤ n := Int.ediv_le_self _ (by omega)
    exact ⟨_, rfl, by omega⟩
  have hq : (0 : Int) < (if ((cs.map PyData.int).length : Int) > 1 then ((cs.map PyData.int).length : Int) else 1) ∧ (if ((cs.map PyData.int).length : Int) > 1 then ((cs.map PyData.int).length : Int) else 1) < 1073741824 := by
    rw [List.length_map]
    split <;> omega
  refine rn_cons (rs_set 3 (go_is (gx_bin go_int (gx_bin (go_var 1) (go_max2 rfl go_int (gx_len bt.len (go_var 2)) bt.max))) (congrArg PyData.int em)) ?_ sc__law_numbers.nd)
  refine rn_cons (rs_own 4 (goN_lst god_nil) ?_ sc__law_numbers.nd)
  have h1009 : Small 0 := ⟨by omega, by omega⟩
  refine rn_cons (rs_for (fun k Γ' => ∃ (ds : List D) (s5 s6 : Sl), Γ' = [.dat (.list (ms.map .int)), .dat (.int n), .dat (.list (cs.map .int)), .dat (.int m), .own ds, s5, s6] ∧ IntsD Small (k * m.toNat) ds) (gx_it (go_var 2)) ?_ ?_ ?_ rfl)
  · exact ⟨_, _, _, rfl, by rw [Nat.zero_mul]; exact .nil⟩
  · rintro k d _ hd ⟨ds, s5, s6, rfl, h1⟩
    obtain ⟨c, hk, rfl⟩ : ∃ c, k < cs.length ∧ d = .int c := by
      rw [List.getElem?_map] at hd
      cases q : cs[k]? with
      | none =>
        rw [q] at hd
        cases hd
      | some z =>
        rw [q] at hd
        cases hd
        exact ⟨z, (List.getElem?_eq_some_iff.mp q).1, rfl⟩
    have hkm : k * m.toNat + m.toNat ≤ 63 * 10001 := by
      have : (k + 1) * m.toNat ≤ 63 * 10001 := Nat.mul_le_mul (by omega) (by omega)
      rwa [Nat.succ_mul] at this
    refine ⟨_, _, (gog_name 5 sc__law_numbers.nd), ?_⟩
    refine rn_cons (rs_forX (p := IntsD Small m.toNat) (fun es t Γ' => ∃ (ds : List D) (s6 : Sl), Γ' = [.dat (.list (ms.map .int)), .dat (.int n), .dat (.list (cs.map .int)), .dat (.int m), .own ds, .dat (.int c), s6] ∧ IntsD Small (k * m.toNat + t) ds)
      (goix_list' (gx_call c__law_row hr (by decide) (goA_cons (go_var 5) (goA_cons (go_var 3) goA_nil)))) (fun es _ => ⟨_, _, rfl, h1⟩) ?_ ?_ rfl)
    · rintro es he t d _ hd ⟨ds, s6, rfl, h2⟩
      obtain ⟨z, rfl, hz, ht⟩ := he.get hd
      have hl : ds.length < 1000000 := by
        rw [h2.len]
        omega
      refine ⟨_, _, (gog_name 6 sc__law_numbers.nd), ?_⟩
      refine rn_cons (rs_app 4 rfl (go_var 6) (ltZ (by walk_at "pside")) ?_)
      exact rn_nil ⟨_, _, rfl, h2.push hz⟩
    · rintro es he _ ⟨ds, s6, rfl, h2⟩
      rw [he.len] at h2
      exact rn_nil ⟨_, _, _, rfl, by rw [Nat.succ_mul]; exact h2⟩
  · rintro _ ⟨ds, s5, s6, rfl, h1⟩
    rw [List.length_map] at h1
    have hkm : cs.length * m.toNat ≤ 63 * 10001 := Nat.mul_le_mul hlen (by omega)
    refine rn_cons (rs_while (fun q Γ' => ∃ (ds : List D), Γ' = [.dat (.list (ms.map .int)), .dat (.int n), .dat (.list (cs.map .int)), .dat (.int m), .own ds, s5, s6] ∧ ∃ l, IntsD Small l ds ∧ l ≤ 700000 ∧ q = n.toNat - l) _ (⟨_, rfl, _, h1, by omega, rfl⟩) ?_)
    rintro q _ ⟨ds, rfl, l, h1, h2, rfl⟩
    refine ⟨_, goT_thaw 4 (gocT (gx_c (.of hr) (gx_len bt.len (go_var 4)) (go_var 1))), fun hk => ?_, fun hk => ?_⟩
    · rw [h1.len] at hk
      have hk := of_decide_eq_true hk
      have hl : ds.length < 1000000 := by
        rw [h1.len]
        omega
      refine rn_cons (rs_app 4 rfl go_int (ltZ (by walk_at "pside")) ?_)
      exact rn_nil ⟨n.toNat - (l + 1), by omega, _, rfl, l + 1, h1.push h1009, by omega, rfl⟩
    · rw [h1.len] at hk
      have hk := of_decide_eq_false hk
      refine rn_ice 4 rfl (by rw [hJ]; exact List.not_mem_nil) (rn_cons (rs_ret (go_ex (ds.take n.toNat) ?_ (go_is (go_of_new (goN_sl (go_var 4) goO_none (goO_some (go_var 1)))) (by
        rw [show n = ((n.toNat : Nat) : Int) by omega, cutHi]
        rfl)))))
      obtain ⟨ns, rfl, g2, g3⟩ := h1
      exact ⟨ns.take n.toNat, List.map_take.symm, by rw [List.length_take]; omega, fun x hx => g3 x (List.mem_of_mem_take hx)⟩
end
/-! ### places, digits, spots -/
abbrev s_check_places : Stmt := topS 5
theorem sc_check_places : FnScope ["bits", "places"] ["bits"] (defScope s_check_places) := ⟨rfl, rfl, rfl, by decide +kernel, rfl, by decide +kernel, by decide +kernel⟩
abbrev s_places_of : Stmt := topS 6
theorem sc_places_of : FnScope ["bits"] ["bits"] (defScope s_places_of) := ⟨rfl, rfl, rfl, by decide +kernel, rfl, by decide +kernel, by decide +kernel⟩
abbrev s_digits_of : Stmt := topS 8
theorem sc_digits_of : FnScope ["row", "place"] ["row"] (defScope s_digits_of) := ⟨rfl, rfl, rfl, by decide +kernel, rfl, by decide +kernel, by decide +kernel⟩
abbrev s_spot_of : Stmt := topS 9
theorem sc_spot_of : FnScope ["bits", "row", "spot", "place"] ["bits", "row"] (defScope s_spot_of) := ⟨rfl, rfl, rfl, by decide +kernel, rfl, by decide +kernel, by decide +kernel⟩
abbrev s_state_of : Stmt := topS 12
theorem sc_state_of : FnScope ["bits", "row", "spot"] ["bits", "row"] (defScope s_state_of) := ⟨rfl, rfl, rfl, by decide +kernel, rfl, by decide +kernel, by decide +kernel⟩
def S_check_places : List Mn → Mn → Prop := fun Ps R => ∃ b : Nat, Ps = [datP (nat b)] ∧ R = datP (nats (chks b)) ∧ Bt4 b
def S_places_of : List Mn → Mn → Prop := fun Ps R => ∃ b : Nat, Ps = [datP (nat b)] ∧ R = datP (nat (pls b)) ∧ Bt4 b
def S_digits_of : List Mn → Mn → Prop := fun Ps R => ∃ n : Nat, Ps = [datP (nat n)] ∧ R = datP (nats (dig n)) ∧ n < 2 ^ 64
def S_spot_of : List Mn → Mn → Prop := fun Ps R => ∃ b n : Nat, Ps = [datP (nat b), datP (nat n)] ∧ R = datP (nat (spN n)) ∧ n < 2 ^ 64
def S_state_of : List Mn → Mn → Prop := fun Ps R => ∃ b n : Nat, Ps = [datP (nat b), datP (nat n)] ∧ R = datP (stD b n) ∧ (Bt4 b ∧ n < 2 ^ 64)
def chkN (t : Nat) : List Int := 0 :: (List.range (t + 1)).map fun i => (2 : Int) ^ i
theorem chkN_len (t : Nat) : (chkN t).length = t + 2 := by
  unfold chkN
  rw [List.length_cons, List.length_map, List.length_range]
theorem chkN_succ (t : Nat) : chkN (t + 1) = chkN t ++ [(2 : Int) ^ (t + 1)] := by
  unfold chkN
  rw [List.range_succ, List.map_append]
  rfl
theorem chkN_last (t : Nat) : ∃ r, chkN t = r ++ [(2 : Int) ^ t] := by
  unfold chkN
  rw [List.range_succ, List.map_append]
  exact ⟨0 :: (List.range t).map fun i => (2 : Int) ^ i, rfl⟩
theorem chkN_nz (b : Nat) : chkN (tO b) = nz (chks b) := by
  unfold chkN chks pws nz
  rw [List.map_cons, List.map_map]
  exact congrArg (List.cons 0) (List.map_congr_left fun i _ => pow_cast i)
theorem turn_chk {b t : Nat} (h4 : 4 ≤ b) (h32 : b ≤ 32) (ht : t ≤ tO b) : (decide (2 * (2 : Int) ^ t < (b : Int) + ((t + 2 : Nat) : Int))) = decide (t < tO b) := by
  have h := tO_le b
  exact (by decide : ∀ b : Fin 33, ∀ t : Fin 6, 4 ≤ b.1 → t.1 ≤ tO b.1 → (decide (2 * (2 : Int) ^ t.1 < (b.1 : Int) + ((t.1 + 2 : Nat) : Int))) = decide (t.1 < tO b.1)) ⟨b, by omega⟩ ⟨t, by omega⟩ h4 ht
section
variable {P : Program} {w : World} {K : PySem.W.Frag} {mg : Str → Option Value} {base : Heap}
theorem ok_check_places (df : Dfn K mg "check_places" s_check_places ["bits"])    (bt : Bt mg) : Cal P w K mg base "check_places" ["bits"] 1 S_check_places := by
  refine cal_ok df sc_check_places ?_ ?_
  · rintro _ _ ⟨b, rfl, rfl, _⟩
    rfl
  rintro _ _ ⟨b, rfl, rfl, h4, h32⟩ f cdv A outer s H E hr J hJ
  refine rn_cons (rs_own 1 (goN_lst (god_cons go_int (god_cons go_int god_nil))) ?_ sc_check_places.nd)
  refine rn_cons (rs_while (fun m Γ' => ∃ ds, Γ' = [.dat (nat b), .own ds] ∧ ∃ t, t ≤ tO b ∧ m = 6 - t ∧ ds = (chkN t).map .int) _ ⟨_, rfl, 0, Nat.zero_le _, rfl, rfl⟩ ?_)
  rintro m _ ⟨ds, rfl, t, ht, rfl, rfl⟩
  obtain ⟨r, er⟩ := chkN_last t
  have hl : atI ((chkN t).map PyData.int) (-1) = some (.int (2 ^ t)) := by
    rw [er]
    exact atI_intsLast _ _
  have t5 := tO_le b
  refine ⟨decide (t < tO b), goT_is (goT_thaw 1 (gocT (gc_lt (go_mul go_int (go_ixL (go_var 1) (go_neg go_int) hl) (.inl ⟨by decide, by decide⟩)) (go_add (go_var 0) (go_len (go_var 1) bt.len))))) (by
    rw [List.length_map, chkN_len]
    exact turn_chk h4 h32 ht), fun hk => ?_, fun hk => ?_⟩
  · have hk := of_decide_eq_true hk
    refine rn_cons (rs_app 1 rfl (go_thawI 1 (go_mul go_int (go_ixL (go_var 1) (go_neg go_int) hl) (.inl ⟨by decide, by decide⟩))) (ltZ (by rw [List.length_map, chkN_len]; omega)) ?_)
    refine rn_nil ⟨6 - (t + 1), by omega, _, rfl, t + 1, by omega, rfl, ?_⟩
    rw [chkN_succ, List.map_append, Int.pow_succ, Int.mul_comm]
    first | done | rfl
  · have hk := of_decide_eq_false hk
    have e : t = tO b := by omega
    subst e
    exact rn_ice 1 rfl (by rw [hJ]; exact List.not_mem_nil) (rn_cons (rs_ret (go_is (go_var 1) (congrArg (fun l => PyData.list (l.map .int)) (chkN_nz b)))))
theorem ok_places_of (df : Dfn K mg "places_of" s_places_of ["bits"]) (c_check_places : Cal P w K mg base "check_places" ["bits"] 1 S_check_places)   (bt : Bt mg) : Cal P w K mg base "places_of" ["bits"] 2 S_places_of := by
  refine cal_ok df sc_places_of ?_ ?_
  · rintro _ _ ⟨b, rfl, rfl, _⟩
    rfl
  rintro _ _ ⟨b, rfl, rfl, hb⟩ f cdv A outer s H E hr J hJ
  refine rn_cons (rs_ret (go_is (gx_bin (go_var 0) (gx_len bt.len (gx_call c_check_places hr (by decide) (goA_cons (go_var 0) goA_nil)))) ?_))
  rw [nz_len]
  show PyData.int (_ + ((((pws (tO b)).length + 1 : Nat)) : Int)) = _
  unfold pws pls
  rw [List.length_map, List.length_range]
  exact congrArg PyData.int (by omega)
theorem ok_digits_of (df : Dfn K mg "digits_of" s_digits_of ["row"])    (bt : Bt mg) : Cal P w K mg base "digits_of" ["row"] 1 S_digits_of := by
  refine cal_ok df sc_digits_of ?_ ?_
  · rintro _ _ ⟨n, rfl, rfl, _⟩
    rfl
  rintro _ _ ⟨n, rfl, rfl, hn⟩ f cdv A outer s H E hr J hJ
  have hbz := bits_le hn
  refine rn_cons (rs_ret (go_is (go_of_new (gx_lc (own := [("place", 1)]) rfl sc_digits_of.nd (gx_rng1 bt.range (go_bits (go_var 0))) (fun k x hx => by have hx2 := rngI_mem.mp (List.mem_of_getElem? hx); exact ⟨_, _, fun s H C cl fp => (gog_name 1 sc_digits_of.nd), fun s H C cl fp => goTs_one (gocT (gx_c (.of hr) (gx_bin (gx_bin (go_var 0) (go_var 1)) go_int) go_int)), fun hq s H C cl fp => (go_var 1), by simp⟩) (by first | (show blkC ["row", "place"] (defScope s_digits_of) _ _ = true; decide +kernel) | (show blkC ["row", "place"] (relS _ (defScope s_digits_of)) _ _ = true; decide +kernel) | (show blkC ["row", "place"] (relS _ (relS _ (defScope s_digits_of))) _ _ = true; decide +kernel)))) ?_))
  exact congrArg (fun l => PyData.list (l.map .int)) (digs_is hn)
theorem ok_spot_of (df : Dfn K mg "spot_of" s_spot_of ["bits", "row"]) (c_digits_of : Cal P w K mg base "digits_of" ["row"] 1 S_digits_of)   (bt : Bt mg) : Cal P w K mg base "spot_of" ["bits", "row"] 2 S_spot_of := by
  refine cal_ok df sc_spot_of ?_ ?_
  · rintro _ _ ⟨b, n, rfl, rfl, _⟩
    rfl
  rintro _ _ ⟨b, n, rfl, rfl, hn⟩ f cdv A outer s H E hr J hJ
  refine rn_cons (rs_set 2 go_int ?_ sc_spot_of.nd)
  refine rn_cons (rs_for (fun k Γ' => ∃ s3, Γ' = [.dat (nat b), .dat (nat n), .dat (nat (xs ((dig n).take k))), s3]) (gx_it (gx_call c_digits_of hr (by decide) (goA_cons (go_var 1) goA_nil))) ?_ ?_ ?_ rfl)
  · exact ⟨_, rfl⟩
  · rintro k d _ hd ⟨s3, rfl⟩
    obtain ⟨p, hp, rfl⟩ := nz_at hd
    refine ⟨_, _, (gog_name 3 sc_spot_of.nd), ?_⟩
    refine rn_cons (gx_aug 2 rfl (go_var 3) ?_ sc_spot_of.nd)
    have e : Builtin.bitXor ((xs ((dig n).take k) : Nat) : Int) ((p : Nat) : Int) = ((xs ((dig n).take (k + 1)) : Nat) : Int) := by
      rw [bXor_n, take_push hp, xs_app]
      show _ = ((xs ((dig n).take k) ^^^ (p ^^^ 0) : Nat) : Int)
      rw [Nat.xor_zero]
    rw [e]
    exact rn_nil ⟨_, rfl⟩
  rintro _ ⟨s3, rfl⟩
  rw [nz_len, List.take_length]
  refine rn_cons (rs_ret (go_var 2))
theorem ok_state_of (df : Dfn K mg "state_of" s_state_of ["bits", "row"]) (c_places_of : Cal P w K mg base "places_of" ["bits"] 2 S_places_of) (c_digits_of : Cal P w K mg base "digits_of" ["row"] 1 S_digits_of) (c_spot_of : Cal P w K mg base "spot_of" ["bits", "row"] 2 S_spot_of)   (bt : Bt mg) : Cal P w K mg base "state_of" ["bits", "row"] 3 S_state_of := by
  refine cal_ok df sc_state_of ?_ ?_
  · rintro _ _ ⟨b, n, rfl, rfl, _⟩
    rfl
  rintro _ _ ⟨b, n, rfl, rfl, hb, hn⟩ f cdv A outer s H E hr J hJ
  refine rn_cons (rs_set 2 (gx_call c_spot_of hr (by decide) (goA_cons (go_var 0) (goA_cons (go_var 1) goA_nil))) ?_ sc_state_of.nd)
  refine rn_cons (rs_if (gocT (gx_c (.of hr) (gx_bin (gx_len bt.len (gx_call c_digits_of hr (by decide) (goA_cons (go_var 1) goA_nil))) go_int) go_int)) (fun hk => ?_) fun hk => ?_)
  · have hk : (dig n).length % 2 = 1 := by
      have := of_decide_eq_true hk
      rw [nz_len] at this
      omega
    refine rn_cons (rs_ret (go_is (gx_if (gocT (gx_c (.of hr) (go_var 2) (gx_call c_places_of hr (by decide) (goA_cons (go_var 0) goA_nil)))) (fun hk => (go_tup (god_cons go_str (god_cons (go_var 2) god_nil)))) (fun hk => (go_tup (god_cons go_str (god_cons go_non god_nil))))) ?_))
    unfold stD
    rw [if_pos hk]
    by_cases h : spN n < pls b
    · rw [if_pos h, if_pos (decide_eq_true (show (spN n : Int) < (pls b : Int) by omega))]
    · rw [if_neg h, if_neg (by simpa using (show ¬ (spN n : Int) < (pls b : Int) by omega))]
  · have hk : ¬ (dig n).length % 2 = 1 := fun z => by
      have := of_decide_eq_false hk
      rw [nz_len] at this
      omega
    refine rn_nil (rn_cons (rs_ret (go_is (gx_if (gocT (gx_c (.of hr) (go_var 2) go_int)) (fun hk => (go_tup (god_cons go_str (god_cons go_non god_nil)))) (fun hk => (go_tup (god_cons go_str (god_cons go_non god_nil))))) ?_)))
    unfold stD
    rw [if_neg hk]
    by_cases h : spN n = 0
    · rw [if_pos h, if_pos (decide_eq_true (show (spN n : Int) = 0 by omega))]
    · rw [if_neg h, if_neg (by simpa using (show ¬ (spN n : Int) = 0 by omega))]
end
/-! ### coded words and what is in them -/
abbrev s_data_places : Stmt := topS 7
theorem sc_data_places : FnScope ["bits", "checks", "place"] ["bits"] (defScope s_data_places) := ⟨rfl, rfl, rfl, by decide +kernel, rfl, by decide +kernel, by decide +kernel⟩
abbrev s_coded : Stmt := topS 10
theorem sc_coded : FnScope ["bits", "value", "row", "number", "place"] ["bits", "value"] (defScope s_coded) := ⟨rfl, rfl, rfl, by decide +kernel, rfl, by decide +kernel, by decide +kernel⟩
def S_data_places : List Mn → Mn → Prop := fun Ps R => ∃ b : Nat, Ps = [datP (nat b)] ∧ R = datP (nats (dat b)) ∧ Bt4 b
def S_coded : List Mn → Mn → Prop := fun Ps R => ∃ b v : Nat, Ps = [datP (nat b), datP (nat v)] ∧ R = datP (nat (codeN b v)) ∧ (Bt4 b ∧ v < 2 ^ b)
section
variable {P : Program} {w : World} {K : PySem.W.Frag} {mg : Str → Option Value} {base : Heap}
theorem ok_data_places (df : Dfn K mg "data_places" s_data_places ["bits"]) (c_check_places : Cal P w K mg base "check_places" ["bits"] 1 S_check_places) (c_places_of : Cal P w K mg base "places_of" ["bits"] 2 S_places_of)   (bt : Bt mg) : Cal P w K mg base "data_places" ["bits"] 3 S_data_places := by
  refine cal_ok df sc_data_places ?_ ?_
  · rintro _ _ ⟨b, rfl, rfl, _⟩
    rfl
  rintro _ _ ⟨b, rfl, rfl, hb⟩ f cdv A outer s H E hr J hJ
  have hpl := (dat_len hb).2.2
  refine rn_cons (rs_set 1 (gx_call c_check_places hr (by decide) (goA_cons (go_var 0) goA_nil)) ?_ sc_data_places.nd)
  refine rn_cons (rs_ret (go_is (go_of_new (gx_lc (own := [("place", 2)]) rfl sc_data_places.nd (gx_rng1 bt.range (gx_call c_places_of hr (by decide) (goA_cons (go_var 0) goA_nil))) (fun k x hx => by have hx2 := rngI_mem.mp (List.mem_of_getElem? hx); exact ⟨_, _, fun s H C cl fp => (gog_name 2 sc_data_places.nd), fun s H C cl fp => goTs_one (gocT (gx_c (.of hr) (go_var 2) (go_var 1))), fun hq s H C cl fp => (go_var 2), by simp⟩) (by first | (show blkC ["bits", "checks", "place"] (defScope s_data_places) _ _ = true; decide +kernel) | (show blkC ["bits", "checks", "place"] (relS _ (defScope s_data_places)) _ _ = true; decide +kernel) | (show blkC ["bits", "checks", "place"] (relS _ (relS _ (defScope s_data_places))) _ _ = true; decide +kernel)))) ?_))
  exact congrArg (fun l => PyData.list (l.map .int)) (dats_is b)
theorem ok_coded (df : Dfn K mg "coded" s_coded ["bits", "value"]) (c_data_places : Cal P w K mg base "data_places" ["bits"] 3 S_data_places) (c_digits_of : Cal P w K mg base "digits_of" ["row"] 1 S_digits_of) (c_spot_of : Cal P w K mg base "spot_of" ["bits", "row"] 2 S_spot_of)   (bt : Bt mg) : Cal P w K mg base "coded" ["bits", "value"] 4 S_coded := by
  refine cal_ok df sc_coded ?_ ?_
  · rintro _ _ ⟨b, v, rfl, rfl, _⟩
    rfl
  rintro _ _ ⟨b, v, rfl, rfl, hb, hv⟩ f cdv A outer s H E hr J hJ
  refine rn_cons (rs_set 2 go_int ?_ sc_coded.nd)
  refine rn_cons (rs_for (fun k Γ' => ∃ s3 s4, Γ' = [.dat (nat b), .dat (nat v), .dat (nat (ofP (onK b v k))), s3, s4]) (goi_enum (gx_call c_data_places hr (by decide) (goA_cons (go_var 0) goA_nil)) bt.enumerate) ?_ ?_ ?_ rfl)
  · exact ⟨_, _, rfl⟩
  · rintro k d _ hd ⟨s3, s4, rfl⟩
    obtain ⟨p, hp, rfl⟩ := enum_at hd
    have hk : k < b := by
      have := (List.getElem?_eq_some_iff.mp hp).1
      rwa [(dat_len hb).1] at this
    have ep : p = dat_ b k := by
      rw [(dat_at hb hk).1] at hp
      exact (Option.some.inj hp).symm
    subst ep
    have hdl : dat_ b k < 64 := by
      have := (dat_mem.mp (dat_at hb hk).2).1
      have := (dat_len hb).2.2
      omega
    have hb1 : (Builtin.bitAnd ((v : Int) / 2 ^ ((k : Nat) : Int).toNat) 1).natAbs < 2 ^ 64 := bit1_small v k
    refine ⟨_, _, (gog_tup rfl (gogs_cons (gog_name 3 sc_coded.nd) (gogs_cons (gog_name 4 sc_coded.nd) gogs_nil))), ?_⟩
    refine rn_cons (gx_aug 2 rfl (gx_bin (gx_bin (gx_bin (go_var 1) (go_var 3)) go_int) (go_var 4)) ?_ sc_coded.nd)
    have e := onK_step (v := v) hb hk
    refine rn_is 2 (s' := .dat (nat (ofP (onK b v (k + 1))))) rfl (congrArg (fun z => Sl.dat (PyData.int z)) e) ?_
    exact rn_nil ⟨_, _, rfl⟩
  rintro _ ⟨s3, s4, rfl⟩
  rw [enum_len, nz_len, (dat_len hb).1, onK_end hb hv]
  have h64 := on1_64 hb hv
  have h64s : spN (ofP (on1 b v)) < 2 ^ 64 := Nat.lt_of_lt_of_le (sp_lt _) (by decide)
  refine rn_cons (rs_for (fun k Γ' => ∃ s4, Γ' = [.dat (nat b), .dat (nat v), .dat (nat (ofP (on1 b v ++ ((dig (s1 b v)).take k).map fun k => 2 ^ k))), s3, s4]) (gx_it (gx_call c_digits_of hr (by decide) (goA_cons (gx_call c_spot_of hr (by decide) (goA_cons (go_var 0) (goA_cons (go_var 2) goA_nil))) goA_nil))) ?_ ?_ ?_ rfl)
  · refine ⟨s4, ?_⟩
    rw [List.take_zero, List.map_nil, List.append_nil]
  · rintro k d _ hd ⟨s4, rfl⟩
    obtain ⟨p, hp, rfl⟩ := nz_at (l := dig (s1 b v)) hd
    have hp6 := s1_dig hb hv (List.mem_of_getElem? hp)
    have hq : 0 ≤ 1 * (2 : Int) ^ ((p : Nat) : Int).toNat ∧ 1 * (2 : Int) ^ ((p : Nat) : Int).toNat ≤ 1000000 := (by decide : ∀ p : Fin 6, 0 ≤ 1 * (2 : Int) ^ ((p.1 : Nat) : Int).toNat ∧ 1 * (2 : Int) ^ ((p.1 : Nat) : Int).toNat ≤ 1000000) ⟨p, hp6⟩
    have hq1 := hq.1
    have hq2 := hq.2
    refine ⟨_, _, (gog_name 4 sc_coded.nd), ?_⟩
    refine rn_cons (gx_aug 2 rfl (gx_bin go_int (gx_bin go_int (go_var 4))) ?_ sc_coded.nd)
    have e := cks_step hb hv hp
    refine rn_is 2 (s' := .dat (nat (ofP (on1 b v ++ ((dig (s1 b v)).take (k + 1)).map fun k => 2 ^ k)))) rfl (congrArg (fun z => Sl.dat (PyData.int z)) e) ?_
    exact rn_nil ⟨_, rfl⟩
  rintro _ ⟨s4, rfl⟩
  rw [nz_len]
  have e2 : on1 b v ++ ((dig (s1 b v)).take (dig (s1 b v)).length).map (fun k => 2 ^ k) = on2 b v := by
    rw [List.take_length]
    unfold on2
    rw [cks_is hb hv]
  refine rn_is 2 (s' := .dat (nat (ofP (on2 b v)))) rfl (congrArg (fun z => Sl.dat (nat (ofP z))) e2) ?_
  have h64' := on2_64 hb hv
  refine rn_cons (rs_ret (go_is (gx_bin (go_var 2) (gx_bin (gx_len bt.len (gx_call c_digits_of hr (by decide) (goA_cons (go_var 2) goA_nil))) go_int)) ?_))
  rw [nz_len]
  exact congrArg PyData.int (code_last hb hv)
end
abbrev s_value_in : Stmt := topS 11
theorem sc_value_in : FnScope ["bits", "row", "number", "place"] ["bits", "row"] (defScope s_value_in) := ⟨rfl, rfl, rfl, by decide +kernel, rfl, by decide +kernel, by decide +kernel⟩
def S_value_in : List Mn → Mn → Prop := fun Ps R => ∃ b n : Nat, Ps = [datP (nat b), datP (nat n)] ∧ R = datP (nat (valN b n)) ∧ Bt4 b
section
variable {P : Program} {w : World} {K : PySem.W.Frag} {mg : Str → Option Value} {base : Heap}
theorem ok_value_in (df : Dfn K mg "value_in" s_value_in ["bits", "row"]) (c_data_places : Cal P w K mg base "data_places" ["bits"] 3 S_data_places)   (bt : Bt mg) : Cal P w K mg base "value_in" ["bits", "row"] 4 S_value_in := by
  refine cal_ok df sc_value_in ?_ ?_
  · rintro _ _ ⟨b, n, rfl, rfl, _⟩
    rfl
  rintro _ _ ⟨b, n, rfl, rfl, hb⟩ f cdv A outer s H E hr J hJ
  have hbz : b ≤ 32 := hb.2
  refine rn_cons (rs_ret (go_is (gx_sum rfl bt.sum (go_of_new (gx_lcM (own := [("number", 2), ("place", 3)]) rfl sc_value_in.nd (goi_is (goi_enum (gx_call c_data_places hr (by decide) (goA_cons (go_var 0) goA_nil)) bt.enumerate) (enum_dat hb)) (fun k x hx => by have hx2 := List.mem_range.mp (List.mem_of_getElem? hx); have hb1 : (Builtin.bitAnd ((n : Int) / 2 ^ ((dat_ b x : Nat) : Int).toNat) 1).natAbs < 2 ^ 64 := bit1_small n _; exact ⟨_, _, fun s H C cl fp => (gog_tup rfl (gogs_cons (gog_name 2 sc_value_in.nd) (gogs_cons (gog_name 3 sc_value_in.nd) gogs_nil))), fun s H C cl fp => (gx_bin (gx_bin (gx_bin (go_var 1) (go_var 3)) go_int) (go_var 2)), by simp⟩) (by first | (show blkC ["bits", "row", "number", "place"] (defScope s_value_in) _ _ = true; decide +kernel) | (show blkC ["bits", "row", "number", "place"] (relS _ (defScope s_value_in)) _ _ = true; decide +kernel) | (show blkC ["bits", "row", "number", "place"] (relS _ (relS _ (defScope s_value_in))) _ _ = true; decide +kernel))))) ?_))
  exact congrArg PyData.int (val_sum b n)
end
/-! ### flipped, mended -/
abbrev s_flipped : Stmt := topS 14
theorem sc_flipped : FnScope ["row", "places", "place"] ["row", "places"] (defScope s_flipped) := ⟨rfl, rfl, rfl, by decide +kernel, rfl, by decide +kernel, by decide +kernel⟩
abbrev s_mended : Stmt := topS 13
theorem sc_mended : FnScope ["bits", "row", "state", "place"] ["bits", "row"] (defScope s_mended) := ⟨rfl, rfl, rfl, by decide +kernel, rfl, by decide +kernel, by decide +kernel⟩
def S_flipped : List Mn → Mn → Prop := fun Ps R => ∃ (n : Nat) (ps : List Nat), Ps = [datP (nat n), datP (nats ps)] ∧ R = datP (nat (flips n ps)) ∧ (∀ p ∈ ps, p < 64)
def S_mended : List Mn → Mn → Prop := fun Ps R => ∃ b n : Nat, Ps = [datP (nat b), datP (nat n)] ∧ R = datP (mendD b n) ∧ (Bt4 b ∧ n < 2 ^ 64)
theorem st_cases (b n : Nat) : (stD b n = .tuple [.str "one", nat (spN n)] ∧ mendD b n = nat (n ^^^ 2 ^ spN n)) ∨ (stD b n = .tuple [.str "clean", .none] ∧ mendD b n = nat n) ∨ (stD b n = .tuple [.str "more", .none] ∧ mendD b n = .none) := by
  unfold stD mendD
  by_cases o : (dig n).length % 2 = 1
  · rw [if_pos o, if_pos o]
    by_cases q : spN n < pls b
    · rw [if_pos q, if_pos q]
      exact .inl ⟨rfl, rfl⟩
    · rw [if_neg q, if_neg q]
      exact .inr (.inr ⟨rfl, rfl⟩)
  · rw [if_neg o, if_neg o]
    by_cases q : spN n = 0
    · rw [if_pos q, if_pos q]
      exact .inr (.inl ⟨rfl, rfl⟩)
    · rw [if_neg q, if_neg q]
      exact .inr (.inr ⟨rfl, rfl⟩)
section
variable {P : Program} {w : World} {K : PySem.W.Frag} {mg : Str → Option Value} {base : Heap}
theorem ok_flipped (df : Dfn K mg "flipped" s_flipped ["row", "places"])    (bt : Bt mg) : Cal P w K mg base "flipped" ["row", "places"] 1 S_flipped := by
  refine cal_ok df sc_flipped ?_ ?_
  · rintro _ _ ⟨n, ps, rfl, rfl, _⟩
    rfl
  rintro _ _ ⟨n, ps, rfl, rfl, hp⟩ f cdv A outer s H E hr J hJ
  refine rn_cons (rs_for (fun k Γ' => ∃ s2, Γ' = [.dat (nat (flips n (ps.take k))), .dat (nats ps), s2]) (gx_it (go_var 1)) ?_ ?_ ?_ rfl)
  · exact ⟨_, rfl⟩
  · rintro k d _ hd ⟨s2, rfl⟩
    obtain ⟨p, hpk, rfl⟩ := nz_at hd
    have hp6 := hp p (List.mem_of_getElem? hpk)
    refine ⟨_, _, (gog_name 2 sc_flipped.nd), ?_⟩
    refine rn_cons (gx_aug 0 rfl (gx_bin go_int (go_var 2)) ?_ sc_flipped.nd)
    have e : Builtin.bitXor ((flips n (ps.take k) : Nat) : Int) (1 * (2 : Int) ^ ((p : Nat) : Int).toNat) = ((flips n (ps.take (k + 1)) : Nat) : Int) := by
      rw [Int.one_mul, Int.toNat_natCast, pow_cast, bXor_n, flips_push hpk]
    rw [e]
    exact rn_nil ⟨_, rfl⟩
  rintro _ ⟨s2, rfl⟩
  rw [nz_len, List.take_length]
  refine rn_cons (rs_ret (go_var 0))
theorem ok_mended (df : Dfn K mg "mended" s_mended ["bits", "row"]) (c_state_of : Cal P w K mg base "state_of" ["bits", "row"] 3 S_state_of) (c_flipped : Cal P w K mg base "flipped" ["row", "places"] 1 S_flipped)   (bt : Bt mg) : Cal P w K mg base "mended" ["bits", "row"] 4 S_mended := by
  refine cal_ok df sc_mended ?_ ?_
  · rintro _ _ ⟨b, n, rfl, rfl, _⟩
    rfl
  rintro _ _ ⟨b, n, rfl, rfl, hb, hn⟩ f cdv A outer s H E hr J hJ
  rcases st_cases b n with ⟨hst, hm⟩ | ⟨hst, hm⟩ | ⟨hst, hm⟩
  · refine rn_cons (rs_unp (go_is (gx_call c_state_of hr (by decide) (goA_cons (go_var 0) (goA_cons (go_var 1) goA_nil))) hst) (gog_tup rfl (gogs_cons (gog_name 2 sc_mended.nd) (gogs_cons (gog_name 3 sc_mended.nd) gogs_nil))) ?_)
    refine rn_cons (rs_if (k := false) (goT_is (gocT (gx_c (.of hr) (go_var 2) go_str)) ?_) (fun h => nomatch h) fun _ => ?_)
    · decide
    refine rn_nil ?_
    have hs : ∀ p ∈ [spN n], p < 64 := fun p hp => by rw [List.mem_singleton.mp hp]; exact sp_lt n
    rw [hm]
    refine rn_cons (rs_ret (go_is (gx_if (k := false) (x := .none) (goT_is (gocT (gx_c (.of hr) (go_var 2) go_str)) (by decide)) (fun hk => nomatch hk) (fun hk => (gx_call c_flipped hr (by decide) (goA_cons (go_var 1) (goA_cons (go_is (d' := nats [spN n]) (go_lst (god_cons (go_var 3) god_nil)) rfl) goA_nil))))) rfl))
  · refine rn_cons (rs_unp (go_is (gx_call c_state_of hr (by decide) (goA_cons (go_var 0) (goA_cons (go_var 1) goA_nil))) hst) (gog_tup rfl (gogs_cons (gog_name 2 sc_mended.nd) (gogs_cons (gog_name 3 sc_mended.nd) gogs_nil))) ?_)
    refine rn_cons (rs_if (k := false) (goT_is (gocT (gx_c (.of hr) (go_var 2) go_str)) ?_) (fun h => nomatch h) fun _ => ?_)
    · decide
    refine rn_nil ?_
    rw [hm]
    refine rn_cons (rs_ret (go_is (gx_if (k := true) (y := .none) (goT_is (gocT (gx_c (.of hr) (go_var 2) go_str)) (by decide)) (fun hk => (go_var 1)) (fun hk => nomatch hk)) rfl))
  · refine rn_cons (rs_unp (go_is (gx_call c_state_of hr (by decide) (goA_cons (go_var 0) (goA_cons (go_var 1) goA_nil))) hst) (gog_tup rfl (gogs_cons (gog_name 2 sc_mended.nd) (gogs_cons (gog_name 3 sc_mended.nd) gogs_nil))) ?_)
    rw [hm]
    refine rn_cons (rs_if (k := true) (goT_is (gocT (gx_c (.of hr) (go_var 2) go_str)) ?_) (fun _ => ?_) fun h => nomatch h)
    · decide
    refine rn_cons (rs_ret go_non)
end
/-! ### the memory -/
abbrev s_Memory___init__ : Stmt := inClass (topS 16) 0
theorem sc_Memory___init__ : FnScope ["self", "cells", "bits", "_"] ["self", "cells", "bits"] (defScope s_Memory___init__) := ⟨rfl, rfl, rfl, by decide +kernel, rfl, by decide +kernel, by decide +kernel⟩
abbrev s_Memory_row_at : Stmt := inClass (topS 16) 1
theorem sc_Memory_row_at : FnScope ["self", "cell"] ["self", "cell"] (defScope s_Memory_row_at) := ⟨rfl, rfl, rfl, by decide +kernel, rfl, by decide +kernel, by decide +kernel⟩
abbrev s_Memory_state_at : Stmt := inClass (topS 16) 2
theorem sc_Memory_state_at : FnScope ["self", "cell"] ["self", "cell"] (defScope s_Memory_state_at) := ⟨rfl, rfl, rfl, by decide +kernel, rfl, by decide +kernel, by decide +kernel⟩
abbrev s_Memory_word_at : Stmt := inClass (topS 16) 3
theorem sc_Memory_word_at : FnScope ["self", "cell", "word"] ["self", "cell"] (defScope s_Memory_word_at) := ⟨rfl, rfl, rfl, by decide +kernel, rfl, by decide +kernel, by decide +kernel⟩
abbrev s_Memory_write : Stmt := inClass (topS 16) 4
theorem sc_Memory_write : FnScope ["self", "cell", "value"] ["self", "cell", "value"] (defScope s_Memory_write) := ⟨rfl, rfl, rfl, by decide +kernel, rfl, by decide +kernel, by decide +kernel⟩
abbrev s_Memory_read : Stmt := inClass (topS 16) 5
theorem sc_Memory_read : FnScope ["self", "cell"] ["self", "cell"] (defScope s_Memory_read) := ⟨rfl, rfl, rfl, by decide +kernel, rfl, by decide +kernel, by decide +kernel⟩
abbrev s_Memory_flip : Stmt := inClass (topS 16) 8
theorem sc_Memory_flip : FnScope ["self", "cell", "place"] ["self", "cell", "place"] (defScope s_Memory_flip) := ⟨rfl, rfl, rfl, by decide +kernel, rfl, by decide +kernel, by decide +kernel⟩
def memO (b : Nat) (rows : List Nat) : Ow := insO "Memory" [("cells", .dat (nat rows.length)), ("bits", .dat (nat b)), ("held", .own ((nz rows).map .int))]
abbrev memP (b : Nat) (rows : List Nat) : Mn := insP "Memory" [("cells", datP (nat rows.length)), ("bits", datP (nat b)), ("held", datP (nats rows))]
theorem fz_mem (b : Nat) (rows : List Nat) : FzM (memO b rows) (memP b rows) := fz_ins (.pr (.pr (.ob (fzM_of (fz_lst _)) .nil)))
def RowsOk (b : Nat) (rows : List Nat) : Prop := Bt4 b ∧ (∀ r ∈ rows, r < 2 ^ pls b) ∧ rows.length ≤ 600
def mdN (b n : Nat) : Option Nat := if (dig n).length % 2 = 1 then (if spN n < pls b then some (n ^^^ 2 ^ spN n) else none) else (if spN n = 0 then some n else none)
theorem md_some {b n w : Nat} (h : mdN b n = some w) : mendD b n = nat w := by
  unfold mdN at h
  unfold mendD
  split at h
  · rename_i q
    rw [if_pos q]
    split at h
    · rename_i q2
      rw [if_pos q2]
      cases h
      rfl
    · cases h
  · rename_i q
    rw [if_neg q]
    split at h
    · rename_i q2
      rw [if_pos q2]
      cases h
      rfl
    · cases h
theorem md_none {b n : Nat} (h : mdN b n = none) : mendD b n = .none := by
  unfold mdN at h
  unfold mendD
  split at h
  · rename_i q
    rw [if_pos q]
    split at h
    · cases h
    · rename_i q2
      rw [if_neg q2]
  · rename_i q
    rw [if_neg q]
    split at h
    · cases h
    · rename_i q2
      rw [if_neg q2]
theorem md_lt {b n w : Nat} (hn : n < 2 ^ pls b) (h : mdN b n = some w) : w < 2 ^ pls b := by
  unfold mdN at h
  split at h
  · split at h
    · rename_i q
      cases h
      exact flip_lt hn q
    · cases h
  · split at h
    · cases h
      exact hn
    · cases h
theorem row_at {rows : List Nat} {i : Nat} {r : Nat} (h : rows[i]? = some r) : atI ((nz rows).map PyData.int) ((i : Nat) : Int) = some (.int ((r : Nat) : Int)) := atI_get' (k := i) (by rw [List.getElem?_map, List.getElem?_map, h]; rfl) rfl
theorem RowsOk.r64 {b : Nat} {rows : List Nat} (h : RowsOk b rows) {i r : Nat} (hr : rows[i]? = some r) : r < 2 ^ pls b ∧ r < 2 ^ 64 := by
  have h1 := h.2.1 r (List.mem_of_getElem? hr)
  have := (dat_len h.1).2.2
  exact ⟨h1, Nat.lt_of_lt_of_le h1 (Nat.pow_le_pow_right (by decide) (by omega))⟩
theorem cells_is (c b : Nat) : ((rngI 0 ((c : Nat) : Int)).map fun _ => nat (codeN b 0)) = (nz (List.replicate c (codeN b 0))).map .int := by
  unfold nz
  rw [rng0, List.map_map, List.map_replicate, List.map_replicate]
  refine (List.eq_replicate_iff.mpr ⟨by rw [List.length_map, List.length_range], fun x hx => ?_⟩)
  obtain ⟨_, _, e⟩ := List.mem_map.mp hx
  exact e.symm
def S_Memory___init__ : Ow → List Mn → Mn → Ow → Prop := fun W Ps R W' => ∃ c b : Nat, W = insO "Memory" [] ∧ Ps = [datP (nat c), datP (nat b)] ∧ R = datP .none ∧ W' = memO b (List.replicate c (codeN b 0)) ∧ (Bt4 b ∧ c ≤ 600)
def S_Memory_row_at : List Mn → Mn → Prop := fun Ps R => ∃ (b : Nat) (rows : List Nat) (i r : Nat), Ps = [memP b rows, datP (nat i)] ∧ R = datP (nat r) ∧ (rows[i]? = some r)
def S_Memory_state_at : List Mn → Mn → Prop := fun Ps R => ∃ (b : Nat) (rows : List Nat) (i r : Nat), Ps = [memP b rows, datP (nat i)] ∧ R = datP (stD b r) ∧ (RowsOk b rows ∧ rows[i]? = some r)
def S_Memory_word_at : List Mn → Mn → Prop := fun Ps R => ∃ (b : Nat) (rows : List Nat) (i r v : Nat), Ps = [memP b rows, datP (nat i)] ∧ R = datP (nat v) ∧ (RowsOk b rows ∧ rows[i]? = some r ∧ mdN b r = some v)
def N_Memory_word_at : List Mn → Str → Str → V → Prop := fun Ps x f v => ∃ (b : Nat) (rows : List Nat) (i r : Nat), Ps = [memP b rows, datP (nat i)] ∧ (x = "Unmendable" ∧ f = "place" ∧ v = .int ((i : Nat) : Int)) ∧ (RowsOk b rows ∧ rows[i]? = some r ∧ mdN b r = none)
def S_Memory_write : Ow → List Mn → Mn → Ow → Prop := fun W Ps R W' => ∃ (b : Nat) (rows : List Nat) (i v : Nat), W = memO b rows ∧ Ps = [datP (nat i), datP (nat v)] ∧ R = datP .none ∧ W' = memO b (rows.set i (codeN b v)) ∧ (RowsOk b rows ∧ i < rows.length ∧ v < 2 ^ b)
def S_Memory_read : List Mn → Mn → Prop := fun Ps R => ∃ (b : Nat) (rows : List Nat) (i r v : Nat), Ps = [memP b rows, datP (nat i)] ∧ R = datP (nat (valN b v)) ∧ (RowsOk b rows ∧ rows[i]? = some r ∧ mdN b r = some v)
def N_Memory_read : List Mn → Str → Str → V → Prop := N_Memory_word_at
def S_Memory_flip : Ow → List Mn → Mn → Ow → Prop := fun W Ps R W' => ∃ (b : Nat) (rows : List Nat) (i r p : Nat), W = memO b rows ∧ Ps = [datP (nat i), datP (nat p)] ∧ R = datP .none ∧ W' = memO b (rows.set i (r ^^^ 2 ^ p)) ∧ (RowsOk b rows ∧ rows[i]? = some r ∧ p < pls b)
def memD (n b : Nat) (ds : List D) : Ow := insO "Memory" [("cells", .dat (nat n)), ("bits", .dat (nat b)), ("held", .own ds)]
theorem mem_set {b : Nat} {rows : List Nat} {i v : Nat} : memD rows.length b (((nz rows).map .int).set i (nat v)) = memO b (rows.set i v) := by
  unfold memD memO nz
  rw [List.length_set, List.map_set, List.map_set]
theorem ix_nat {ds : List D} {i : Nat} (h : i < ds.length) : ixN ds.length ((i : Nat) : Int) = some i := by
  unfold ixN
  rw [if_pos (Int.natCast_nonneg i), if_pos (Int.ofNat_lt.mpr h), Int.toNat_natCast]
theorem gol_held (i : Nat) {X : Cx} {Γ : Ga} {W : Ow} {b : Nat} {rows : List Nat} {Wf : List D → Ow} {x : Str} {p' pos : Pos} (O : ClsOk X.K "Memory" ["cells", "bits", "held"]) (hΓ : Γ[i]? = some (.ob W)) (hp : ∀ {es}, Pin (memO b rows) (memD rows.length b es) W (Wf es))
    (hN : X.N[i]? = some x := by rfl) (hv : Vis X.env.scope x := by first | exact Or.inl rfl | exact Or.inr (Or.inl rfl) | exact Or.inr (Or.inr rfl)) (hd : (x == ("__debug__" : Str)) = false := by decide) (hcd : (x == ("__classdict__" : Str)) = false := by decide)
    (hb : attributeBase (.Name x p') "held" X.env (eval (.Name x p') X.env) = eval (.Name x p') X.env := by rfl) : GoL X Γ (.Attribute (.Name x p') "held" pos) i ((nz rows).map .int) Wf :=
  gol_fld (Sf := fun es => [("cells", .dat (nat rows.length)), ("bits", .dat (nat b)), ("held", .own es)]) i O hΓ (fun es => hp) (hm := by decide) (hN := hN) (hv := hv) (hd := hd) (hcd := hcd) (hb := hb)
section
variable {P : Program} {w : World} {K : PySem.W.Frag} {mg : Str → Option Value} {base : Heap}
theorem ok_Memory___init__ (df : MtdI K mg "Memory" "Memory.__init__" s_Memory___init__ ["self", "cells", "bits"]) (c_coded : Cal P w K mg base "coded" ["bits", "value"] 4 S_coded)  (O_Memory : ClsOk K "Memory" ["cells", "bits", "held"]) (T_Unm : Xt_Unmendable P K mg) (bt : Bt mg) : CalC P w K mg base "Memory" ["self", "cells", "bits"] 5 S_Memory___init__ := by
  refine mI_ok df sc_Memory___init__ ?_ (by decide) ?_
  · rintro _ _ _ _ ⟨c, b, rfl, rfl, rfl, rfl, _⟩
    rfl
  rintro _ _ _ _ ⟨c, b, rfl, rfl, rfl, rfl, hb, hc⟩ v0 f cdv A outer s H E hr J hJ
  refine rn_cons (rs_fld 0 (Ss' := [("cells", .dat (nat c))]) O_Memory (go_var 1) rfl .pin ?_)
  refine rn_cons (rs_fld 0 (Ss' := [("cells", .dat (nat c)), ("bits", .dat (nat b))]) O_Memory (go_var 2) rfl .pin ?_)
  have hb0 : Bt4 b ∧ 0 < 2 ^ b := ⟨hb, Nat.two_pow_pos b⟩
  refine rn_cons (rs_fldN 0 (Ss' := [("cells", .dat (nat c)), ("bits", .dat (nat b)), ("held", .own ((rngI 0 ((c : Nat) : Int)).map fun _ => nat (codeN b 0)))]) O_Memory (gx_lcM (own := [("_", 3)]) rfl sc_Memory___init__.nd (gx_rng1 bt.range (go_var 1)) (fun k x hx => by have hx2 := rngI_mem.mp (List.mem_of_getElem? hx); exact ⟨_, _, fun s H C cl fp => (gog_name 3 sc_Memory___init__.nd), fun s H C cl fp => (gx_call c_coded hr (by decide) (goA_cons (go_var 2) (goA_cons go_int goA_nil))), by simp⟩) (by first | (show blkC ["self", "cells", "bits", "_"] (defScope s_Memory___init__) _ _ = true; decide +kernel) | (show blkC ["self", "cells", "bits", "_"] (relS _ (defScope s_Memory___init__)) _ _ = true; decide +kernel) | (show blkC ["self", "cells", "bits", "_"] (relS _ (relS _ (defScope s_Memory___init__))) _ _ = true; decide +kernel))) rfl .pin ?_)
  refine rn_nil ⟨?_, fun _ _ => Dp.non⟩
  unfold memO
  rw [← cells_is, List.length_replicate]
  rfl
theorem ok_Memory_row_at (df : Mtd K "Memory" "row_at" "Memory.row_at" s_Memory_row_at ["self", "cell"])   (O_Memory : ClsOk K "Memory" ["cells", "bits", "held"]) (T_Unm : Xt_Unmendable P K mg) (bt : Bt mg) : CalM P w K mg base CX0 "Memory" "row_at" ["self", "cell"] 1 (spS K S_Memory_row_at) := by
  refine mS_ok df sc_Memory_row_at ?_ ?_
  · rintro _ _ ⟨b, rows, i, r, rfl, rfl, _⟩
    rfl
  rintro _ _ ⟨b, rows, i, r, rfl, rfl, hi⟩ f cdv A outer s H E hr J hJ
  have hat := row_at hi
  refine rn_cons (rs_ret (gx_ix (go_fld O_Memory (go_var 0) rfl (by decide)) (go_var 1)))
theorem ok_Memory_state_at (df : Mtd K "Memory" "state_at" "Memory.state_at" s_Memory_state_at ["self", "cell"]) (c_state_of : Cal P w K mg base "state_of" ["bits", "row"] 3 S_state_of)  (O_Memory : ClsOk K "Memory" ["cells", "bits", "held"]) (T_Unm : Xt_Unmendable P K mg) (bt : Bt mg) : CalM P w K mg base CX0 "Memory" "state_at" ["self", "cell"] 4 (spS K S_Memory_state_at) := by
  refine mS_ok df sc_Memory_state_at ?_ ?_
  · rintro _ _ ⟨b, rows, i, r, rfl, rfl, _⟩
    rfl
  rintro _ _ ⟨b, rows, i, r, rfl, rfl, hR, hi⟩ f cdv A outer s H E hr J hJ
  have hat := row_at hi
  have h64 : Bt4 b ∧ r < 2 ^ 64 := ⟨hR.1, (hR.r64 hi).2⟩
  refine rn_cons (rs_ret (gx_call c_state_of hr (by decide) (goA_cons (go_fld O_Memory (go_var 0) rfl (by decide)) (goA_cons (gx_ix (go_fld O_Memory (go_var 0) rfl (by decide)) (go_var 1)) goA_nil))))
theorem ok_Memory_word_at (df : Mtd K "Memory" "word_at" "Memory.word_at" s_Memory_word_at ["self", "cell"]) (c_mended : Cal P w K mg base "mended" ["bits", "row"] 4 S_mended)  (O_Memory : ClsOk K "Memory" ["cells", "bits", "held"]) (T_Unm : Xt_Unmendable P K mg) (bt : Bt mg) : CalM P w K mg base (L2.CX P w) "Memory" "word_at" ["self", "cell"] 5 (orSp (spS K S_Memory_word_at) (spEx K N_Memory_word_at)) := by
  refine mX_ok df sc_Memory_word_at ?_ ?_ ?_ ?_
  · rintro _ _ ⟨b, rows, i, r, v, rfl, rfl, _⟩
    rfl
  · rintro _ _ _ _ ⟨b, rows, i, r, rfl, _⟩
    rfl
  · rintro _ _ ⟨b, rows, i, r, v, rfl, rfl, hR, hi, hv⟩ f cdv A outer s H E hr J hJ
    have hat := row_at hi
    have h64 : Bt4 b ∧ r < 2 ^ 64 := ⟨hR.1, (hR.r64 hi).2⟩
    refine rn_cons (rs_set 2 (go_is (d' := nat v) (gx_call c_mended hr (by decide) (goA_cons (go_fld O_Memory (go_var 0) rfl (by decide)) (goA_cons (gx_ix (go_fld O_Memory (go_var 0) rfl (by decide)) (go_var 1)) goA_nil))) (md_some hv)) ?_ sc_Memory_word_at.nd)
    refine rn_cons (rs_if (k := false) (goT_is (gocT (gc_isN (go_var 2))) ?_) (fun h => nomatch h) fun _ => ?_)
    · rfl
    refine rn_nil ?_
    refine rn_cons (rs_ret (go_var 2))
  · rintro _ _ _ _ ⟨b, rows, i, r, rfl, ⟨rfl, rfl, rfl⟩, hR, hi, hv⟩ f cdv A outer s H E hr J hJ hM hW
    have hat := row_at hi
    have h64 : Bt4 b ∧ r < 2 ^ 64 := ⟨hR.1, (hR.r64 hi).2⟩
    refine rn_cons (rs_set 2 (go_is (d' := .none) (gx_call c_mended hr (by decide) (goA_cons (go_fld O_Memory (go_var 0) rfl (by decide)) (goA_cons (gx_ix (go_fld O_Memory (go_var 0) rfl (by decide)) (go_var 1)) goA_nil))) (md_none hv)) ?_ sc_Memory_word_at.nd)
    refine rn_cons (rs_if (k := true) (goT_is (gocT (gc_isN (go_var 2))) ?_) (fun _ => ?_) fun h => nomatch h)
    · rfl
    refine rn_cons (rs_raise_Unmendable T_Unm rfl hr (takes_of rfl rfl rfl rfl) (go_var 1) hM hW)
theorem ok_Memory_write (df : Mtd K "Memory" "write" "Memory.write" s_Memory_write ["self", "cell", "value"]) (c_coded : Cal P w K mg base "coded" ["bits", "value"] 4 S_coded)  (O_Memory : ClsOk K "Memory" ["cells", "bits", "held"]) (T_Unm : Xt_Unmendable P K mg) (bt : Bt mg) : CalM P w K mg base CX0 "Memory" "write" ["self", "cell", "value"] 5 (spW K S_Memory_write) := by
  refine mW_ok df sc_Memory_write ?_ (by decide) ?_
  · rintro _ _ _ _ ⟨b, rows, i, v, rfl, rfl, rfl, rfl, _⟩
    rfl
  rintro _ _ _ _ ⟨b, rows, i, v, rfl, rfl, rfl, rfl, hR, hi, hv⟩ v0 f cdv A outer s H E hr J hJ
  have hbv : Bt4 b ∧ v < 2 ^ b := ⟨hR.1, hv⟩
  refine rn_cons (rs_setL (gol_held 0 O_Memory rfl .pin) (go_thF 0 rfl (fzM_pin (fz_mem b rows)) (gx_call c_coded hr (by decide) (goA_cons (go_fld O_Memory (go_var 0) rfl (by decide)) (goA_cons (go_var 2) goA_nil)))) (go_var 1) (ix_nat (by rw [nz_len]; exact hi)) ?_ (of_decide_eq_true rfl))
  refine rn_nil ⟨?_, fun _ _ => Dp.non⟩
  rw [← mem_set]
  rfl
theorem ok_Memory_read (df : Mtd K "Memory" "read" "Memory.read" s_Memory_read ["self", "cell"]) (c_value_in : Cal P w K mg base "value_in" ["bits", "row"] 4 S_value_in) (c_Memory_word_at : CalM P w K mg base (L2.CX P w) "Memory" "word_at" ["self", "cell"] 5 (orSp (spS K S_Memory_word_at) (spEx K N_Memory_word_at)))  (O_Memory : ClsOk K "Memory" ["cells", "bits", "held"]) (T_Unm : Xt_Unmendable P K mg) (bt : Bt mg) : CalM P w K mg base (L2.CX P w) "Memory" "read" ["self", "cell"] 6 (orSp (spS K S_Memory_read) (spEx K N_Memory_read)) := by
  refine mX_ok df sc_Memory_read ?_ ?_ ?_ ?_
  · rintro _ _ ⟨b, rows, i, r, v, rfl, rfl, _⟩
    rfl
  · rintro _ _ _ _ ⟨b, rows, i, r, rfl, _⟩
    rfl
  · rintro _ _ ⟨b, rows, i, r, v, rfl, rfl, hR, hi, hv⟩ f cdv A outer s H E hr J hJ
    have hb4 := hR.1
    refine rn_cons (rs_ret (gx_call c_value_in hr (by decide) (goA_cons (go_fld O_Memory (go_var 0) rfl (by decide)) (goA_cons (gx_methX c_Memory_word_at hr (by decide) (go_var 0) rfl (goA_cons (go_var 1) goA_nil)) goA_nil))))
  · rintro _ _ _ _ ⟨b, rows, i, r, rfl, ⟨rfl, rfl, rfl⟩, hR, hi, hv⟩ f cdv A outer s H E hr J hJ hM hW
    refine rn_cons (rs_retX (gox_call c_value_in.toF hr (by decide) (goxa_next (go_fld O_Memory (go_var 0) rfl (by decide)) (goxa_here (gox_meth c_Memory_word_at (takes_of rfl rfl rfl rfl) hr (by decide) (go_var 0) rfl (goA_cons (go_var 1) goA_nil))))) hM fun _ => hW)
theorem ok_Memory_flip (df : Mtd K "Memory" "flip" "Memory.flip" s_Memory_flip ["self", "cell", "place"]) (c_flipped : Cal P w K mg base "flipped" ["row", "places"] 1 S_flipped)  (O_Memory : ClsOk K "Memory" ["cells", "bits", "held"]) (T_Unm : Xt_Unmendable P K mg) (bt : Bt mg) : CalM P w K mg base CX0 "Memory" "flip" ["self", "cell", "place"] 5 (spW K S_Memory_flip) := by
  refine mW_ok df sc_Memory_flip ?_ (by decide) ?_
  · rintro _ _ _ _ ⟨b, rows, i, r, p, rfl, rfl, rfl, rfl, _⟩
    rfl
  rintro _ _ _ _ ⟨b, rows, i, r, p, rfl, rfl, rfl, rfl, hR, hi, hp⟩ v0 f cdv A outer s H E hr J hJ
  have hat := row_at hi
  have hil := (List.getElem?_eq_some_iff.mp hi).1
  have hp64 : ∀ q ∈ [p], q < 64 := fun q hq => by
    rw [List.mem_singleton.mp hq]
    have := (dat_len hR.1).2.2
    omega
  refine rn_cons (rs_setL (gol_held 0 O_Memory rfl .pin) (go_thF 0 rfl (fzM_pin (fz_mem b rows)) (gx_call c_flipped hr (by decide) (goA_cons (gx_ix (go_fld O_Memory (go_var 0) rfl (by decide)) (go_var 1)) (goA_cons (go_is (d' := nats [p]) (go_lst (god_cons (go_var 2) god_nil)) rfl) goA_nil)))) (go_var 1) (ix_nat (by rw [nz_len]; exact hil)) ?_ (of_decide_eq_true rfl))
  refine rn_nil ⟨?_, fun _ _ => Dp.non⟩
  rw [← mem_set]
  rfl
end
/-! ### a cell is scrubbed -/
abbrev s_Memory_scrub : Stmt := inClass (topS 16) 6
theorem sc_Memory_scrub : FnScope ["self", "cell", "word", "is_flipped"] ["self", "cell"] (defScope s_Memory_scrub) := ⟨rfl, rfl, rfl, by decide +kernel, rfl, by decide +kernel, by decide +kernel⟩
theorem dec_nat (v r : Nat) : decide (((v : Nat) : Int) = ((r : Nat) : Int)) = decide (v = r) := decide_eq_decide.mpr Int.ofNat_inj
def S_Memory_scrub : Ow → List Mn → Mn → Ow → Prop := fun W Ps R W' => ∃ (b : Nat) (rows : List Nat) (i r v : Nat), W = memO b rows ∧ Ps = [datP (nat i)] ∧ R = datP (.bool (!decide (v = r))) ∧ W' = memO b (rows.set i v) ∧ (RowsOk b rows ∧ rows[i]? = some r ∧ mdN b r = some v)
def N_Memory_scrub : List Mn → Str → Str → V → Prop := N_Memory_word_at
section
variable {P : Program} {w : World} {K : PySem.W.Frag} {mg : Str → Option Value} {base : Heap}
theorem ok_Memory_scrub (df : Mtd K "Memory" "scrub" "Memory.scrub" s_Memory_scrub ["self", "cell"]) (c_Memory_word_at : CalM P w K mg base (L2.CX P w) "Memory" "word_at" ["self", "cell"] 5 (orSp (spS K S_Memory_word_at) (spEx K N_Memory_word_at)))  (O_Memory : ClsOk K "Memory" ["cells", "bits", "held"]) (T_Unm : Xt_Unmendable P K mg) (bt : Bt mg) : CalM P w K mg base (L2.CX P w) "Memory" "scrub" ["self", "cell"] 6 (orSp (spW K S_Memory_scrub) (spEx K N_Memory_scrub)) := by
  refine mWX_ok df sc_Memory_scrub ?_ ?_ (by decide) ?_ ?_
  · rintro _ _ _ _ ⟨b, rows, i, r, v, rfl, rfl, rfl, rfl, _⟩
    rfl
  · rintro _ _ _ _ ⟨b, rows, i, r, rfl, _⟩
    rfl
  · rintro _ _ _ _ ⟨b, rows, i, r, v, rfl, rfl, rfl, rfl, hR, hi, hv⟩ v0 f cdv A outer s H E hr J hJ
    have hat := row_at hi
    have hil := (List.getElem?_eq_some_iff.mp hi).1
    refine rn_cons (rs_set 2 (go_thF 0 rfl (fzM_pin (fz_mem b rows)) (gx_methX c_Memory_word_at hr (by decide) (go_var 0) rfl (goA_cons (go_var 1) goA_nil))) ?_ sc_Memory_scrub.nd)
    refine rn_cons (rs_set 3 (go_is (d' := .bool (!decide (v = r))) (go_thF 0 rfl (fzM_pin (fz_mem b rows)) (goc (gx_c (.of hr) (go_var 2) (gx_ix (go_fld O_Memory (go_var 0) rfl (by decide)) (go_var 1))))) (by rw [dec_nat])) ?_ sc_Memory_scrub.nd)
    refine rn_cons (rs_setL (gol_held 0 O_Memory rfl .pin) (go_var 2) (go_var 1) (ix_nat (by rw [nz_len]; exact hil)) ?_ (of_decide_eq_true rfl))
    rw [mem_set]
    refine rn_cons (rs_ret (go_var 3) rfl)
  · rintro _ _ _ _ ⟨b, rows, i, r, rfl, ⟨rfl, rfl, rfl⟩, hR, hi, hv⟩ f cdv A outer s H E hr J hJ hM hW
    refine rn_cons (rs_setX 2 (gox_meth c_Memory_word_at (takes_of rfl rfl rfl rfl) hr (by decide) (go_var 0) rfl (goA_cons (go_var 1) goA_nil)) hM (fun _ => hW) sc_Memory_scrub.nd)
end
/-! ### all cells are scrubbed -/
abbrev s_Memory_scrub_all : Stmt := inClass (topS 16) 7
theorem sc_Memory_scrub_all : FnScope ["self", "states", "cell", "ones", "state"] ["self"] (defScope s_Memory_scrub_all) := ⟨rfl, rfl, rfl, by decide +kernel, rfl, by decide +kernel, by decide +kernel⟩
theorem rng_nat (n : Nat) : (rngI 0 ((n : Nat) : Int)).map PyData.int = (List.range n).map nat := by
  rw [rng0, List.map_map]
  rfl
def stS (b n : Nat) : Str := if (dig n).length % 2 = 1 then (if spN n < pls b then "one" else "more") else if spN n = 0 then "clean" else "more"
def stR (b n : Nat) : D := if (dig n).length % 2 = 1 then (if spN n < pls b then nat (spN n) else .none) else .none
theorem stD_is (b n : Nat) : stD b n = .tuple [.str (stS b n), stR b n] := by
  unfold stD stS stR
  by_cases o : (dig n).length % 2 = 1
  · rw [if_pos o, if_pos o, if_pos o]
    by_cases q : spN n < pls b
    · rw [if_pos q, if_pos q, if_pos q]
    · rw [if_neg q, if_neg q, if_neg q]
  · rw [if_neg o, if_neg o, if_neg o]
    by_cases q : spN n = 0
    · rw [if_pos q, if_pos q]
    · rw [if_neg q, if_neg q]
def fixN (b n : Nat) : Nat := (mdN b n).getD n
theorem fix_lt {b n : Nat} (h : n < 2 ^ pls b) : fixN b n < 2 ^ pls b := by
  unfold fixN
  cases q : mdN b n with
  | none => exact h
  | some w => exact md_lt h q
theorem st_kinds (b n : Nat) : (stS b n = "clean" ∧ mdN b n = some n) ∨ (stS b n = "one" ∧ mdN b n = some (n ^^^ 2 ^ spN n) ∧ spN n < pls b) ∨ (stS b n = "more" ∧ mdN b n = none) := by
  unfold stS mdN
  by_cases o : (dig n).length % 2 = 1
  · rw [if_pos o, if_pos o]
    by_cases q : spN n < pls b
    · rw [if_pos q, if_pos q]
      exact .inr (.inl ⟨rfl, rfl, q⟩)
    · rw [if_neg q, if_neg q]
      exact .inr (.inr ⟨rfl, rfl⟩)
  · rw [if_neg o, if_neg o]
    by_cases q : spN n = 0
    · rw [if_pos q, if_pos q]
      exact .inl ⟨rfl, rfl⟩
    · rw [if_neg q, if_neg q]
      exact .inr (.inr ⟨rfl, rfl⟩)
theorem fix_not_one {b n : Nat} (h : ¬ stS b n = "one") : fixN b n = n := by
  unfold fixN
  rcases st_kinds b n with ⟨_, e⟩ | ⟨e, _⟩ | ⟨_, e⟩
  · rw [e]
    rfl
  · exact absurd e h
  · rw [e]
    rfl
/-- the cells of a kind -/
def kindN (b : Nat) (rows : List Nat) (s : Str) : List Nat := (List.range rows.length).filter fun k => decide (stS b (rows.getD k 0) = s)
theorem kind_nodup (b : Nat) (rows : List Nat) (s : Str) : (kindN b rows s).Nodup := List.nodup_range.filter _
theorem kind_mem {b : Nat} {rows : List Nat} {s : Str} {k : Nat} : k ∈ kindN b rows s ↔ k < rows.length ∧ stS b (rows.getD k 0) = s := by
  unfold kindN
  rw [List.mem_filter, List.mem_range, decide_eq_true_iff]
theorem kind_data (b : Nat) (rows : List Nat) (s : Str) : ((List.range rows.length).filter fun k => decide (stS b (rows.getD k 0) = s)).map (fun k => nat k) = (nz (kindN b rows s)).map .int := by
  unfold kindN
  rw [List.map_map]
  rfl
theorem enum_sts (rows : List Nat) (g : Nat → Str) : enumD ((List.range rows.length).map fun k => PyData.str (g (rows.getD k 0))) = (List.range rows.length).map fun k => .tuple [nat k, .str (g (rows.getD k 0))] := by
  refine List.ext_getElem? fun k => ?_
  unfold enumD
  rw [List.getElem?_map, List.getElem?_zipIdx, List.getElem?_map, List.getElem?_map]
  by_cases hk : k < rows.length
  · rw [List.getElem?_range hk]
    show some (PyData.tuple [.int ((0 + k : Nat) : Int), _]) = _
    rw [Nat.zero_add]
    rfl
  · rw [List.getElem?_eq_none (by rw [List.length_range]; omega)]
    rfl
/-- the rows behind the first j of these cells -/
def rowsJ (b : Nat) (rows L : List Nat) : List Nat := (List.range rows.length).map fun k => if k ∈ L then fixN b (rows.getD k 0) else rows.getD k 0
theorem rowsJ_nil (b : Nat) (rows : List Nat) : rowsJ b rows [] = rows := by
  unfold rowsJ
  refine List.ext_getElem? fun k => ?_
  rw [List.getElem?_map]
  by_cases hk : k < rows.length
  · rw [List.getElem?_range hk, List.getElem?_eq_getElem hk]
    show some (if k ∈ [] then _ else rows.getD k 0) = _
    rw [if_neg List.not_mem_nil, List.getD_eq_getElem?_getD, List.getElem?_eq_getElem hk]
    rfl
  · rw [List.getElem?_eq_none (by rw [List.length_range]; omega), List.getElem?_eq_none (by omega)]
    rfl
theorem rowsJ_at {b : Nat} {rows L : List Nat} {k : Nat} (hk : k < rows.length) : (rowsJ b rows L)[k]? = some (if k ∈ L then fixN b (rows.getD k 0) else rows.getD k 0) := by
  unfold rowsJ
  rw [List.getElem?_map, List.getElem?_range hk]
  rfl
theorem rowsJ_len (b : Nat) (rows L : List Nat) : (rowsJ b rows L).length = rows.length := by
  unfold rowsJ
  rw [List.length_map, List.length_range]
theorem rowsJ_push {b : Nat} {rows L : List Nat} {k : Nat} (hk : k < rows.length) : (rowsJ b rows L).set k (fixN b (rows.getD k 0)) = rowsJ b rows (L ++ [k]) := List.ext_getElem? fun j => by
  by_cases hj : j < rows.length
  · rw [rowsJ_at hj]
    by_cases e : k = j
    · subst e
      rw [List.getElem?_set_self (by rw [rowsJ_len]; exact hk), if_pos (List.mem_append_right _ List.mem_cons_self)]
    · rw [List.getElem?_set_ne e, rowsJ_at hj]
      by_cases m : j ∈ L
      · rw [if_pos m, if_pos (List.mem_append_left _ m)]
      · rw [if_neg m, if_neg (fun z => by
          rcases List.mem_append.mp z with z | z
          · exact m z
          · exact e (List.mem_singleton.mp z).symm)]
  · rw [List.getElem?_eq_none (by rw [List.length_set, rowsJ_len]; omega), List.getElem?_eq_none (by rw [rowsJ_len]; omega)]
theorem rowsJ_all (b : Nat) (rows : List Nat) : rowsJ b rows (kindN b rows "one") = rows.map (fixN b) := List.ext_getElem? fun k => by
  rw [List.getElem?_map]
  by_cases hk : k < rows.length
  · have e : rows.getD k 0 = rows[k] := by rw [List.getD_eq_getElem?_getD, List.getElem?_eq_getElem hk]; rfl
    rw [rowsJ_at hk, List.getElem?_eq_getElem hk, e]
    show _ = some (fixN b rows[k])
    by_cases m : k ∈ kindN b rows "one"
    · rw [if_pos m]
    · rw [if_neg m, fix_not_one (fun z => m (kind_mem.mpr ⟨hk, by rw [e]; exact z⟩))]
  · rw [List.getElem?_eq_none (by rw [rowsJ_len]; omega), List.getElem?_eq_none (by omega)]
    rfl
theorem RowsOk.map {b : Nat} {rows : List Nat} (h : RowsOk b rows) : RowsOk b (rows.map (fixN b)) := ⟨h.1, fun r hr => by
  obtain ⟨x, hx, rfl⟩ := List.mem_map.mp hr
  exact fix_lt (h.2.1 x hx), by rw [List.length_map]; exact h.2.2⟩
theorem RowsOk.j {b : Nat} {rows L : List Nat} (h : RowsOk b rows) : RowsOk b (rowsJ b rows L) := ⟨h.1, fun r hr => by
  obtain ⟨k, hk, rfl⟩ := List.mem_map.mp hr
  have hk := List.mem_range.mp hk
  have hx : rows.getD k 0 < 2 ^ pls b := by
    rw [List.getD_eq_getElem?_getD, List.getElem?_eq_getElem hk]
    exact h.2.1 _ (List.getElem_mem hk)
  split
  · exact fix_lt hx
  · exact hx, by rw [rowsJ_len]; exact h.2.2⟩
theorem isObj_mem {m : Str} {b : Nat} {rows : List Nat} (h : List.lookup m [("cells", Sl.dat (nat rows.length)), ("bits", .dat (nat b)), ("held", .own ((nz rows).map .int))] = none := by rfl) : IsObj "Memory" m (memO b rows) := isObj_ins h
def allD (b : Nat) (rows : List Nat) : D := .tuple [nats (kindN b rows "one"), nats (kindN b rows "more")]
def allO (b : Nat) (rows : List Nat) : Ow := tlO [(nz (kindN b rows "one")).map .int, (nz (kindN b rows "more")).map .int]
theorem fz_all (b : Nat) (rows : List Nat) : Fz (allO b rows) (allD b rows) := fz_tl _
def S_Memory_scrub_all : Ow → List Mn → Ow → Ow → Prop := fun W Ps R W' => ∃ (b : Nat) (rows : List Nat), W = memO b rows ∧ Ps = [] ∧ R = allO b rows ∧ W' = memO b (rows.map (fixN b)) ∧ RowsOk b rows
section
variable {P : Program} {w : World} {K : PySem.W.Frag} {mg : Str → Option Value} {base : Heap}
theorem ok_Memory_scrub_all (df : Mtd K "Memory" "scrub_all" "Memory.scrub_all" s_Memory_scrub_all ["self"]) (c_Memory_state_at : CalM P w K mg base CX0 "Memory" "state_at" ["self", "cell"] 4 (spS K S_Memory_state_at)) (c_Memory_scrub : CalM P w K mg base (L2.CX P w) "Memory" "scrub" ["self", "cell"] 6 (orSp (spW K S_Memory_scrub) (spEx K N_Memory_scrub)))  (O_Memory : ClsOk K "Memory" ["cells", "bits", "held"]) (T_Unm : Xt_Unmendable P K mg) (bt : Bt mg) : CalM P w K mg base CX0 "Memory" "scrub_all" ["self"] 7 (spWU K S_Memory_scrub_all) := by
  refine mWU_ok df sc_Memory_scrub_all ?_ (by decide) ?_
  · rintro _ _ _ _ ⟨b, rows, rfl, rfl, rfl, rfl, _⟩
    rfl
  rintro _ _ _ _ ⟨b, rows, rfl, rfl, rfl, rfl, hR⟩ v0 f cdv A outer s H E hr J hJ
  have hn := hR.2.2
  have hzn : (List.range rows.length).length < 1000000 := by rw [List.length_range]; omega
  refine rn_cons (rs_lcTM 0 rfl (fzM_pin (fz_mem b rows)) 1 (own := [("cell", 2)]) rfl sc_Memory_scrub_all.nd (goi_is (gx_rng1 bt.range (go_fld O_Memory (go_var 0) rfl (by decide))) (rng_nat rows.length)) (f := fun k => .str (stS b (rows.getD k 0))) (fun k x hx => by
    have hx2 := List.mem_range.mp (List.mem_of_getElem? hx)
    have hxx : rows[x]? = some (rows.getD x 0) := by rw [List.getD_eq_getElem?_getD, List.getElem?_eq_getElem hx2]; rfl
    exact ⟨_, _, fun s H C cl fp => (gog_name 2 sc_Memory_scrub_all.nd), fun s H C cl fp => (gx_ix (go_is (gx_meth c_Memory_state_at hr (by decide) (go_var 0) rfl (goA_cons (go_var 2) goA_nil)) (stD_is b _)) go_int rfl), by simp⟩) (by first | (show blkC ["self", "states", "cell", "ones", "state"] (defScope s_Memory_scrub_all) _ _ = true; decide +kernel) | (show blkC ["self", "states", "cell", "ones", "state"] (relS _ (defScope s_Memory_scrub_all)) _ _ = true; decide +kernel) | (show blkC ["self", "states", "cell", "ones", "state"] (relS _ (relS _ (defScope s_Memory_scrub_all))) _ _ = true; decide +kernel)) (sw_true rfl rfl rfl (by decide +kernel)) ?_ ?_)
  · exact List.all_eq_true.mpr fun d hd => by
      obtain ⟨k, _, rfl⟩ := List.mem_map.mp hd
      rfl
  have hen := enum_sts rows (stS b)
  refine rn_cons (rs_lcO 3 (own := [("cell", 2), ("state", 4)]) rfl sc_Memory_scrub_all.nd (goi_is (goi_enum (go_var 1) bt.enumerate) hen) (fun k x hx => ⟨_, _, fun s H C cl fp => (gog_tup rfl (gogs_cons (gog_name 2 sc_Memory_scrub_all.nd) (gogs_cons (gog_name 4 sc_Memory_scrub_all.nd) gogs_nil))), fun s H C cl fp => goTs_one (gocT (gx_c (.of hr) (go_var 4) go_str)), fun hq s H C cl fp => (go_var 2), by simp⟩) (by first | (show blkC ["self", "states", "cell", "ones", "state"] (defScope s_Memory_scrub_all) _ _ = true; decide +kernel) | (show blkC ["self", "states", "cell", "ones", "state"] (relS _ (defScope s_Memory_scrub_all)) _ _ = true; decide +kernel) | (show blkC ["self", "states", "cell", "ones", "state"] (relS _ (relS _ (defScope s_Memory_scrub_all))) _ _ = true; decide +kernel)) (sw_true rfl rfl rfl (by decide +kernel)) ?_)
  refine rn_is 3 (s' := .own ((nz (kindN b rows "one")).map .int)) rfl (congrArg (fun l => Sl.own l) (kind_data b rows "one")) ?_
  refine rn_cons (rs_forO 3 (fun v1 j Γ' => ∃ Q s2 s4, Γ' = [.ob (pinO (memO b Q) v0), .dat (.list ((List.range rows.length).map fun k => .str (stS b (rows.getD k 0)))), s2, .ob (pinO (lstO ((nz (kindN b rows "one")).map .int)) v1), s4] ∧ Q = rowsJ b rows ((kindN b rows "one").take j)) rfl ?_ ?_ ?_ ?_ rfl)
  · exact fun v1 => ⟨rows, _, _, rfl, by rw [List.take_zero, rowsJ_nil]⟩
  · rintro v1 j _ ⟨_, s2, s4, rfl, _⟩
    rfl
  · rintro v1 j d _ hd ⟨_, s2, s4, rfl, rfl⟩
    obtain ⟨c, hc, rfl⟩ := nz_at hd
    obtain ⟨hcl, hck⟩ := kind_mem.mp (List.mem_of_getElem? hc)
    have hnot : c ∉ (kindN b rows "one").take j := fun z => by
      obtain ⟨i, hi, e⟩ := List.getElem_of_mem z
      have hij : i < j := by rw [List.length_take] at hi; omega
      rw [List.getElem_take] at e
      obtain ⟨hjl, ej⟩ := List.getElem?_eq_some_iff.mp hc
      exact absurd (e.trans ej.symm) (List.pairwise_iff_getElem.mp (kind_nodup b rows "one") i j _ hjl hij)
    have hat := rowsJ_at (b := b) (L := (kindN b rows "one").take j) hcl
    rw [if_neg hnot] at hat
    obtain ⟨w1, hw1⟩ : ∃ w1, mdN b (rows.getD c 0) = some w1 := by
      rcases st_kinds b (rows.getD c 0) with ⟨e, h⟩ | ⟨e, h, _⟩ | ⟨e, h⟩
      · exact ⟨_, h⟩
      · exact ⟨_, h⟩
      · rw [e] at hck
        exact absurd hck (by decide +kernel)
    have hfx : fixN b (rows.getD c 0) = w1 := by unfold fixN; rw [hw1]; rfl
    have hRj := hR.j (L := (kindN b rows "one").take j)
    refine ⟨_, _, (gog_name 2 sc_Memory_scrub_all.nd), ?_⟩
    refine rn_cons (rs_exprM (gm_methX 0 c_Memory_scrub hr (by decide) rfl .pin isObj_mem (goA_cons (go_var 2) goA_nil)) (of_decide_eq_true rfl) ?_)
    exact rn_nil ⟨_, _, _, rfl, by rw [← hfx, rowsJ_push hcl, ← take_push hc]⟩
  rintro v1 _ ⟨_, s2, s4, rfl, rfl⟩
  rw [nz_len, List.take_length, rowsJ_all]
  refine rn_cons (rs_retTL (ds2 := (nz (kindN b rows "more")).map .int) 3 rfl (goN_is (gx_lc (own := [("cell", 2), ("state", 4)]) rfl sc_Memory_scrub_all.nd (goi_is (goi_enum (go_var 1) bt.enumerate) hen) (fun k x hx => ⟨_, _, fun s H C cl fp => (gog_tup rfl (gogs_cons (gog_name 2 sc_Memory_scrub_all.nd) (gogs_cons (gog_name 4 sc_Memory_scrub_all.nd) gogs_nil))), fun s H C cl fp => goTs_one (gocT (gx_c (.of hr) (go_var 4) go_str)), fun hq s H C cl fp => (go_var 2), by simp⟩) (by first | (show blkC ["self", "states", "cell", "ones", "state"] (defScope s_Memory_scrub_all) _ _ = true; decide +kernel) | (show blkC ["self", "states", "cell", "ones", "state"] (relS _ (defScope s_Memory_scrub_all)) _ _ = true; decide +kernel) | (show blkC ["self", "states", "cell", "ones", "state"] (relS _ (relS _ (defScope s_Memory_scrub_all))) _ _ = true; decide +kernel))) (kind_data b rows "more")) rfl (by rw [hJ]; decide))
end
/-! ### the law's own places, digits, rows -/
abbrev s__law_checks : Stmt := topS 20
theorem sc__law_checks : FnScope ["_law_bits", "_law_r", "_law_turn", "_law_k"] ["_law_bits"] (defScope s__law_checks) := ⟨rfl, rfl, rfl, by decide +kernel, rfl, by decide +kernel, by decide +kernel⟩
abbrev s__law_places : Stmt := topS 21
theorem sc__law_places : FnScope ["_law_bits"] ["_law_bits"] (defScope s__law_places) := ⟨rfl, rfl, rfl, by decide +kernel, rfl, by decide +kernel, by decide +kernel⟩
def S__law_checks : List Mn → Mn → Prop := fun Ps R => ∃ b : Nat, Ps = [datP (nat b)] ∧ R = datP (nats (chks b)) ∧ Bt4 b
def S__law_places : List Mn → Mn → Prop := fun Ps R => ∃ b : Nat, Ps = [datP (nat b)] ∧ R = datP (nat (pls b)) ∧ Bt4 b
def rAt (b : Nat) : Nat → Nat
  | 0 => 0
  | k + 1 => if (2 : Int) ^ k < (b : Int) + ((0 + (k : Nat) : Int)) + 1 then k + 1 else rAt b k
theorem rAt_bits {b : Nat} (h : Bt4 b) : rAt b 8 = tO b + 1 := (by decide : ∀ b : Fin 33, 4 ≤ b.1 → rAt b.1 8 = tO b.1 + 1) ⟨b, by have := h.2; omega⟩ h.1
theorem lits8 : ∀ k : Fin 8, atI [PyData.int 1, PyData.int 2, PyData.int 4, PyData.int 8, PyData.int 16, PyData.int 32, PyData.int 64, PyData.int 128] (0 + (k.1 : Nat) : Int) = some (.int (2 ^ k.1))
  | ⟨0, _⟩ | ⟨1, _⟩ | ⟨2, _⟩ | ⟨3, _⟩ | ⟨4, _⟩ | ⟨5, _⟩ | ⟨6, _⟩ | ⟨7, _⟩ => rfl
theorem lits8n {k : Nat} (h : k < 8) : atI [PyData.int 1, PyData.int 2, PyData.int 4, PyData.int 8, PyData.int 16, PyData.int 32, PyData.int 64, PyData.int 128] (0 + (k : Nat) : Int) = some (.int (2 ^ k)) := lits8 ⟨k, h⟩
theorem lits6 : ∀ k : Fin 6, atI [PyData.int 1, PyData.int 2, PyData.int 4, PyData.int 8, PyData.int 16, PyData.int 32] ((k.1 : Nat) : Int) = some (.int (2 ^ k.1))
  | ⟨0, _⟩ | ⟨1, _⟩ | ⟨2, _⟩ | ⟨3, _⟩ | ⟨4, _⟩ | ⟨5, _⟩ => rfl
theorem lits6x {x : Int} (h : 0 ≤ x ∧ x < 6) : atI [PyData.int 1, PyData.int 2, PyData.int 4, PyData.int 8, PyData.int 16, PyData.int 32] x = some (.int (2 ^ x.toNat)) := by
  obtain ⟨n, rfl⟩ := Int.eq_ofNat_of_zero_le h.1
  exact lits6 ⟨n, by omega⟩
theorem bits_step (k n : Nat) : bitsOf (k + 1) n = bitsOf k n ++ if n.testBit k = true then [k] else [] := by
  unfold bitsOf
  rw [List.range_succ, List.filter_append]
  congr 1
  by_cases q : n.testBit k = true
  · rw [if_pos q, List.filter_cons_of_pos q]
    rfl
  · rw [if_neg q, List.filter_cons_of_neg q]
    rfl
theorem half (k n : Nat) : (((n / 2 ^ k : Nat) : Int)) / 2 = ((n / 2 ^ (k + 1) : Nat) : Int) := by
  rw [Nat.pow_succ, ← Nat.div_div_eq_div_mul]
  rfl
theorem low_tb (k n : Nat) : decide (((n / 2 ^ k : Nat) : Int) % 2 = 1) = n.testBit k := by
  have h := dig_tb n k
  rw [shr_n] at h
  rw [h]
  cases n.testBit k <;> rfl
theorem row_sum (l : List Nat) : sumI ((nz l).map fun x => PyData.int (2 ^ x.toNat)) = ((ofP l : Nat) : Int) := by
  rw [List.map_map]
  exact sum_steps l
section
variable {P : Program} {w : World} {K : PySem.W.Frag} {mg : Str → Option Value} {base : Heap}
theorem ok__law_checks (df : Dfn K mg "_law_checks" s__law_checks ["_law_bits"])   (O_Memory : ClsOk K "Memory" ["cells", "bits", "held"]) (T_Unm : Xt_Unmendable P K mg) (bt : Bt mg) : Cal P w K mg base "_law_checks" ["_law_bits"] 1 S__law_checks := by
  refine cal_ok df sc__law_checks ?_ ?_
  · rintro _ _ ⟨b, rfl, rfl, _⟩
    rfl
  rintro _ _ ⟨b, rfl, rfl, hb⟩ f cdv A outer s H E hr J hJ
  refine rn_cons (rs_set 1 go_int ?_ sc__law_checks.nd)
  refine rn_cons (rs_for (fun k Γ' => ∃ s2, Γ' = [.dat (nat b), .dat (nat (rAt b k)), s2, .any]) (gx_rng1 bt.range go_int) ?_ ?_ ?_ rfl)
  · exact ⟨_, rfl⟩
  · rintro k d _ hd ⟨s2, rfl⟩
    obtain ⟨hk, rfl⟩ := rng_get hd
    have hk : k < 8 := hk
    have hi := lits8n hk
    refine ⟨_, _, (gog_name 2 sc__law_checks.nd), ?_⟩
    refine rn_cons (rs_if (gocT (gx_c (.of hr) (gx_ix (go_lst (god_cons go_int (god_cons go_int (god_cons go_int (god_cons go_int (god_cons go_int (god_cons go_int (god_cons go_int (god_cons go_int god_nil))))))))) (go_var 2)) (gx_bin (gx_bin (go_var 0) (go_var 2)) go_int))) (fun hk => ?_) fun hk => ?_)
    · skip
      refine rn_cons (rs_set 1 (gx_bin (go_var 2) go_int) ?_ sc__law_checks.nd)
      have h := of_decide_eq_true hk
      have e : rAt b (k + 1) = k + 1 := if_pos h
      rw [e, show (0 + (k : Nat) + 1 : Int) = ((k + 1 : Nat) : Int) by omega]
      exact rn_nil (rn_nil ⟨_, rfl⟩)
    · skip
      have h := of_decide_eq_false hk
      have e : rAt b (k + 1) = rAt b k := if_neg h
      rw [e]
      exact rn_nil (rn_nil ⟨_, rfl⟩)
  rintro _ ⟨s2, rfl⟩
  have e8 : rAt b (List.map PyData.int (rngI 0 8)).length = tO b + 1 := rAt_bits hb
  have ht := tO_le b
  rw [e8]
  refine rn_cons (rs_ret (go_is (gx_bin (go_lst (god_cons go_int god_nil)) (go_of_new (gx_lcM (own := [("_law_k", 3)]) rfl sc__law_checks.nd (gx_rng1 bt.range (go_var 1)) (fun k x hx => by have hx2 := rngI_mem.mp (List.mem_of_getElem? hx); have hi := lits6x (x := x) (by omega); exact ⟨_, _, fun s H C cl fp => (gog_name 3 sc__law_checks.nd), fun s H C cl fp => (gx_ix (go_lst (god_cons go_int (god_cons go_int (god_cons go_int (god_cons go_int (god_cons go_int (god_cons go_int god_nil))))))) (go_var 3)), by simp⟩) (by first | (show blkC ["_law_bits", "_law_r", "_law_turn", "_law_k"] (defScope s__law_checks) _ _ = true; decide +kernel) | (show blkC ["_law_bits", "_law_r", "_law_turn", "_law_k"] (relS _ (defScope s__law_checks)) _ _ = true; decide +kernel) | (show blkC ["_law_bits", "_law_r", "_law_turn", "_law_k"] (relS _ (relS _ (defScope s__law_checks))) _ _ = true; decide +kernel))))) ?_))
  rw [rng0, List.map_map]
  show PyData.list (PyData.int 0 :: _) = PyData.list (PyData.int 0 :: _)
  refine congrArg (fun l => PyData.list (PyData.int 0 :: l)) ?_
  show _ = List.map PyData.int (List.map _ (pws (tO b)))
  unfold pws
  rw [List.map_map, List.map_map]
  exact List.map_congr_left fun i _ => congrArg PyData.int (pow_cast i)
theorem ok__law_places (df : Dfn K mg "_law_places" s__law_places ["_law_bits"]) (c__law_checks : Cal P w K mg base "_law_checks" ["_law_bits"] 1 S__law_checks)  (O_Memory : ClsOk K "Memory" ["cells", "bits", "held"]) (T_Unm : Xt_Unmendable P K mg) (bt : Bt mg) : Cal P w K mg base "_law_places" ["_law_bits"] 2 S__law_places := by
  refine cal_ok df sc__law_places ?_ ?_
  · rintro _ _ ⟨b, rfl, rfl, _⟩
    rfl
  rintro _ _ ⟨b, rfl, rfl, hb⟩ f cdv A outer s H E hr J hJ
  refine rn_cons (rs_ret (go_is (gx_bin (go_var 0) (gx_len bt.len (gx_call c__law_checks hr (by decide) (goA_cons (go_var 0) goA_nil)))) ?_))
  rw [nz_len]
  show PyData.int (_ + ((((pws (tO b)).length + 1 : Nat)) : Int)) = _
  unfold pws pls
  rw [List.length_map, List.length_range]
  exact congrArg PyData.int (by omega)
end
/-! ### the law's own values, told -/
abbrev s__law_value : Stmt := topS 22
theorem sc__law_value : FnScope ["_law_numbers_here", "_law_at", "_law_bits", "_law_value_here", "_law_top", "_law_k"] ["_law_numbers_here", "_law_at", "_law_bits"] (defScope s__law_value) := ⟨rfl, rfl, rfl, by decide +kernel, rfl, by decide +kernel, by decide +kernel⟩
def lvV (zs : List D) (at_ : Int) : Int := nthI zs at_ + 1009 * nthI zs (at_ + 1) + 1009 * 1009 * nthI zs (at_ + 2) + 1009 * 1009 * 1009 * nthI zs (at_ + 3)
def lvN (zs : List D) (at_ : Int) (b : Nat) : Nat := if nthI zs (at_ + 3) % 5 < 3 then (lvV zs at_ % 2 ^ b).toNat else if nthI zs (at_ + 3) % 5 = 3 then 0 else 2 ^ b - 1
theorem lv_at (zs : List D) (at_ : Int) (b : Nat) : lvN zs at_ b < 2 ^ b ∧ atI [PyData.int (lvV zs at_ % 2 ^ b), PyData.int (lvV zs at_ % 2 ^ b), PyData.int (lvV zs at_ % 2 ^ b), PyData.int 0, PyData.int (2 ^ b - 1)] (nthI zs (at_ + 3) % 5) = some (nat (lvN zs at_ b)) := by
  unfold lvN
  generalize lvV zs at_ = v
  have hc5 : 0 ≤ nthI zs (at_ + 3) % 5 ∧ nthI zs (at_ + 3) % 5 < 5 := by omega
  generalize nthI zs (at_ + 3) % 5 = c at *
  have hp : (0 : Int) < 2 ^ b := by
    rw [pow_cast]
    have := Nat.two_pow_pos b
    omega
  have hm : 0 ≤ v % 2 ^ b ∧ v % 2 ^ b < 2 ^ b := ⟨Int.emod_nonneg _ (by omega), Int.emod_lt_of_pos _ hp⟩
  obtain ⟨w1, hw1⟩ := Int.eq_ofNat_of_zero_le hm.1
  have hw2 : w1 < 2 ^ b := by
    have := hm.2
    rw [hw1, pow_cast] at this
    exact Int.ofNat_lt.mp this
  have h1 : (2 : Int) ^ b - 1 = ((2 ^ b - 1 : Nat) : Int) := by
    rw [pow_cast]
    have := Nat.two_pow_pos b
    omega
  have hb0 := Nat.two_pow_pos b
  rw [hw1, h1]
  have : c = 0 ∨ c = 1 ∨ c = 2 ∨ c = 3 ∨ c = 4 := by omega
  rcases this with rfl | rfl | rfl | rfl | rfl
  · exact ⟨hw2, rfl⟩
  · exact ⟨hw2, rfl⟩
  · exact ⟨hw2, rfl⟩
  · exact ⟨hb0, rfl⟩
  · exact ⟨(by show 2 ^ b - 1 < 2 ^ b; omega), rfl⟩
def S__law_value : List Mn → Mn → Prop := fun Ps R => ∃ (zs : List D) (at_ : Int) (b n : Nat), Ps = [datP (.list zs), datP (.int at_), datP (nat b)] ∧ R = datP (nat (lvN zs at_ b)) ∧ (IntsD Small n zs ∧ (0 ≤ at_ ∧ at_ + 4 ≤ n ∧ 4 ≤ b ∧ b ≤ 32))
section
variable {P : Program} {w : World} {K : PySem.W.Frag} {mg : Str → Option Value} {base : Heap}
theorem ok__law_value (df : Dfn K mg "_law_value" s__law_value ["_law_numbers_here", "_law_at", "_law_bits"])   (O_Memory : ClsOk K "Memory" ["cells", "bits", "held"]) (T_Unm : Xt_Unmendable P K mg) (bt : Bt mg) : Cal P w K mg base "_law_value" ["_law_numbers_here", "_law_at", "_law_bits"] 1 S__law_value := by
  refine cal_ok df sc__law_value ?_ ?_
  · rintro _ _ ⟨zs, at_, b, n, rfl, rfl, _⟩
    rfl
  rintro _ _ ⟨zs, at_, b, n, rfl, rfl, hz, hb⟩ f cdv A outer s H E hr J hJ
  refine rn_cons (rs_set 3 (gx_bin (gx_bin (gx_bin (gx_ix (go_var 0) (go_var 1)) (gx_bin go_int (gx_ix (go_var 0) (gx_bin (go_var 1) go_int)))) (gx_bin (gx_bin go_int go_int) (gx_ix (go_var 0) (gx_bin (go_var 1) go_int)))) (gx_bin (gx_bin (gx_bin go_int go_int) go_int) (gx_ix (go_var 0) (gx_bin (go_var 1) go_int)))) ?_ sc__law_value.nd)
  refine rn_cons (rs_set 4 go_int ?_ sc__law_value.nd)
  obtain ⟨v, hv⟩ : ∃ v, nthI zs at_ + 1009 * nthI zs (at_ + 1) + 1009 * 1009 * nthI zs (at_ + 2) + 1009 * 1009 * 1009 * nthI zs (at_ + 3) = v := ⟨_, rfl⟩
  rw [hv]
  refine rn_cons (rs_for (fun k Γ' => ∃ t s5, Γ' = [.dat (.list zs), .dat (.int at_), .dat (nat b), .dat (.int v), .dat (.int t), s5] ∧ t = 2 ^ (4 + k)) (gx_rng1 bt.range (gx_bin (go_var 2) go_int)) ?_ ?_ ?_ rfl)
  · exact ⟨_, _, rfl, rfl⟩
  · rintro k d _ hd ⟨t, s5, rfl, rfl⟩
    obtain ⟨hk, rfl⟩ := rng_get hd
    refine ⟨_, _, (gog_name 5 sc__law_value.nd), ?_⟩
    refine rn_cons (rs_set 4 (gx_bin go_int (go_var 4)) ?_ sc__law_value.nd)
    refine rn_nil ⟨_, _, rfl, ?_⟩
    rw [← Nat.add_assoc, Int.pow_succ, Int.mul_comm]
  · rintro _ ⟨t, s5, rfl, rfl⟩
    rw [rng_len, show 4 + ((b : Int) - 4 - 0).toNat = b by omega]
    have hp : (0 : Int) < 2 ^ b := by
      rw [pow_cast]
      have := Nat.two_pow_pos b
      omega
    obtain ⟨hd, hdv⟩ := lv_at zs at_ b
    rw [show lvV zs at_ = v from hv] at hdv
    refine rn_cons (rs_ret (gx_ix (go_lst (god_cons (gx_bin (gx_int bt.int (go_var 3)) (go_var 4)) (god_cons (gx_bin (gx_int bt.int (go_var 3)) (go_var 4)) (god_cons (gx_bin (gx_int bt.int (go_var 3)) (go_var 4)) (god_cons go_int (god_cons (gx_bin (go_var 4) go_int) god_nil)))))) (gx_bin (gx_int bt.int (gx_ix (go_var 0) (gx_bin (go_var 1) go_int))) go_int)))
end
structure FarT (K : PySem.W.Frag) (mg : Str → Option Value) : Prop where
  ex : ∃ CF, mg "FarError" = some (.ref CF) ∧ ∀ C, ClsAt K "Unmendable" C → IsiC K C ∧ PySem.W.kitOne K (.ref C) (.ref CF) = some true
/-! ### a cell is scrubbed by the law -/
abbrev s__law_scrub : Stmt := topS 23
theorem sc__law_scrub : FnScope ["_law_memory", "_law_cell", "error"] ["_law_memory", "_law_cell"] (defScope s__law_scrub) := ⟨rfl, rfl, rfl, by decide +kernel, rfl, by decide +kernel, by decide +kernel⟩
def scD (b r : Nat) : D := match mdN b r with
  | some v => .bool (!decide (v = r))
  | none => .none
theorem fix_some {b r v : Nat} (h : mdN b r = some v) : fixN b r = v := by unfold fixN; rw [h]; rfl
theorem fix_none {b r : Nat} (h : mdN b r = none) : fixN b r = r := by unfold fixN; rw [h]; rfl
theorem set_same {rows : List Nat} {i r : Nat} (h : rows[i]? = some r) : rows.set i r = rows := by
  obtain ⟨hl, rfl⟩ := List.getElem?_eq_some_iff.mp h
  exact List.set_getElem_self hl
def S__law_scrub : Ow → List Mn → Mn → Ow → Prop := fun W Ps R W' => ∃ (b : Nat) (rows : List Nat) (i r : Nat), W = memO b rows ∧ Ps = [datP (nat i)] ∧ R = datP (scD b r) ∧ W' = memO b (rows.set i (fixN b r)) ∧ (RowsOk b rows ∧ rows[i]? = some r)
section
variable {P : Program} {w : World} {K : PySem.W.Frag} {mg : Str → Option Value} {base : Heap}
theorem ok__law_scrub (df : Dfn K mg "_law_scrub" s__law_scrub ["_law_memory", "_law_cell"]) (c_Memory_scrub : CalM P w K mg base (L2.CX P w) "Memory" "scrub" ["self", "cell"] 6 (orSp (spW K S_Memory_scrub) (spEx K N_Memory_scrub)))  (O_Memory : ClsOk K "Memory" ["cells", "bits", "held"]) (T_Unm : Xt_Unmendable P K mg) (T_Far : FarT K mg) (bt : Bt mg) : CalF P w K mg base CX0 "_law_scrub" ["_law_memory", "_law_cell"] 7 (spW K S__law_scrub) := by
  refine fW_ok df sc__law_scrub ?_ (by decide) ?_
  · rintro _ _ _ _ ⟨b, rows, i, r, rfl, rfl, rfl, rfl, _⟩
    rfl
  rintro _ _ _ _ ⟨b, rows, i, r, rfl, rfl, rfl, rfl, hR, hi⟩ v0 f cdv A outer s H E hr J hJ
  cases hv : mdN b r with
  | some v =>
    have e : scD b r = .bool (!decide (v = r)) := by unfold scD; rw [hv]
    rw [e, fix_some hv]
    exact rn_cons (rs_thru (rn_cons (rs_retM (gm_methX 0 c_Memory_scrub hr (by decide) rfl .pin isObj_mem (goA_cons (go_var 1) goA_nil)) (of_decide_eq_true rfl))))
  | none =>
    have e : scD b r = .none := by unfold scD; rw [hv]
    rw [e, fix_none hv, set_same hi]
    obtain ⟨C0, fI, hC0, T⟩ := T_Unm.ex
    obtain ⟨CF, gF, hF⟩ := T_Far.ex
    refine rn_cons (rs_try_ret (xn := "Unmendable") (fn := "place") (fv := .int ((i : Nat) : Int)) (i := 2) rfl rfl sc__law_scrub.nd rfl rfl ⟨C0, hC0, ⟨rfl, by decide, .inl T.gC⟩, T.te⟩ takes0 (fun W pn xe tk => gox_th 0 rfl (fzM_pin (fz_mem b rows)) (gox_meth c_Memory_scrub tk hr (by decide) (go_var 0) rfl (goA_cons (go_var 1) goA_nil))) fun C a d oe pn hC hz hf => ?_)
    cases hC0.eq hC
    obtain ⟨I0, hk⟩ := hF C0 hC0
    refine rn_cons (rs_if (k := false) (goT_is (goW_T (goW_or (gocT (gc_neI (go_errf (PySem.SupX.xfT T) T.noN hz hf (go_var 2) fun _ _ => Dp.int _) (go_var 1))) fun _ => goW_or1 (goT_not (goT_val (go_isE I0 hz hf hk (go_var 2) bt.isinstance gF))))) ?_) (fun h => nomatch h) fun _ => ?_)
    · simp
    exact rn_nil (rn_cons (rs_ret go_non rfl))
end
abbrev s_law : Stmt := topS 24
theorem sc_law : FnScope ["_law_script", "_law_numbers_here", "_law_bits", "_law_cells", "_law_some", "_law_memory", "_law_j", "_law_k", "_law_rows", "_law_cell", "_law_state", "_law_states", "_law_row_here", "_law_due", "_law_told", "_law_one"] ["_law_script"] (defScope s_law) := ⟨rfl, rfl, rfl, by decide +kernel, rfl, by decide +kernel, by decide +kernel⟩
theorem RowsOk.set {b : Nat} {rs : List Nat} (h : RowsOk b rs) {i v : Nat} (hv : v < 2 ^ pls b) : RowsOk b (rs.set i v) := ⟨h.1, fun r hr => by
  rcases List.mem_or_eq_of_mem_set hr with z | z
  · exact h.2.1 r z
  · rw [z]
    exact hv, by rw [List.length_set]; exact h.2.2⟩
theorem getD_at {α : Type} {l : List α} {k : Nat} {z : α} (h : k < l.length) : l[k]? = some (l.getD k z) := by
  rw [List.getD_eq_getElem?_getD, List.getElem?_eq_getElem h]
  rfl
theorem emod_toNat {x : Int} {c : Nat} (hc : 0 < c) : x % ((c : Nat) : Int) = (((x % ((c : Nat) : Int)).toNat : Nat) : Int) ∧ (x % ((c : Nat) : Int)).toNat < c := by
  have h0 : ((c : Nat) : Int) ≠ 0 := by omega
  have h1 := Int.emod_nonneg x h0
  have h2 := Int.emod_lt_of_pos x (show (0 : Int) < ((c : Nat) : Int) by omega)
  exact ⟨(Int.toNat_of_nonneg h1).symm, by omega⟩
theorem rows_is (rows : List Nat) : ((List.range rows.length).map fun k => nat (rows.getD k 0)) = (nz rows).map .int := by
  unfold nz
  rw [List.map_map]
  refine List.ext_getElem? fun k => ?_
  rw [List.getElem?_map, List.getElem?_map]
  by_cases hk : k < rows.length
  · rw [List.getElem?_range hk, getD_at (z := 0) hk]
    rfl
  · rw [List.getElem?_eq_none (by rw [List.length_range]; omega), List.getElem?_eq_none (by omega)]
    rfl
theorem nz_flat (rows : List Nat) : ((nz rows).map PyData.int).all flatD = true := List.all_eq_true.mpr fun d hd => by
  obtain ⟨z, _, rfl⟩ := List.mem_map.mp hd
  rfl
theorem rows_shp (rows : List Nat) : Shp 1 (.list ((nz rows).map .int)) := Shp.ints _ 0
theorem all_shp (b : Nat) (rows : List Nat) : Shp 2 (allD b rows) := Shp.tup (Shp.all2 (Shp.ints _ 0) (Shp.ints _ 0))
def pkS (b r : Nat) (w1 w2 w3 : L2.V) : L2.V := if stS b r = "clean" then w1 else if stS b r = "one" then w2 else w3
theorem sc_shp (b r : Nat) : Shp 0 (scD b r) := by
  unfold scD
  split
  · exact Shp.bool _ 0
  · exact Shp.non 0
theorem flip_ne (w p : Nat) : w ^^^ 2 ^ p ≠ w := fun e => by
  have := congrArg (fun z => z ^^^ w) e
  simp only [Nat.xor_self] at this
  rw [xor_back2] at this
  have := Nat.two_pow_pos p
  omega
theorem sc_pick (b r : Nat) : (∀ w1 w2 w3 : L2.V, valV (mergeK [] [((Sum.inr ("clean" : Str) : Key), w1), (Sum.inr ("one" : Str), w2), (Sum.inr ("more" : Str), w3)]) (Sum.inr (stS b r)) = some (pkS b r w1 w2 w3)) ∧
    ∀ (K : PySem.W.Frag) (B : Hp) (w1 w2 w3 : L2.V), Dp K B w1 (.bool false) → Dp K B w2 (.bool true) → Dp K B w3 .none → Dp K B (pkS b r w1 w2 w3) (scD b r) := by
  unfold pkS scD
  rcases st_kinds b r with ⟨e, h⟩ | ⟨e, h, _⟩ | ⟨e, h⟩
  · rw [e, h]
    refine ⟨fun _ _ _ => rfl, fun K B w1 w2 w3 h1 h2 h3 => ?_⟩
    rw [if_pos rfl]
    show Dp K B w1 (.bool (!decide (r = r)))
    rw [decide_eq_true rfl]
    exact h1
  · rw [e, h]
    refine ⟨fun _ _ _ => rfl, fun K B w1 w2 w3 h1 h2 h3 => ?_⟩
    rw [if_neg (by decide +kernel), if_pos rfl]
    show Dp K B w2 (.bool (!decide (r ^^^ 2 ^ spN r = r)))
    rw [decide_eq_false (flip_ne _ _)]
    exact h2
  · rw [e, h]
    refine ⟨fun _ _ _ => rfl, fun K B w1 w2 w3 h1 h2 h3 => ?_⟩
    rw [if_neg (by decide +kernel), if_neg (by decide +kernel)]
    exact h3
theorem stS_of {b n : Nat} {s : Str} {d : D} (h : stD b n = .tuple [.str s, d]) : stS b n = s := by
  rw [stD_is] at h
  injection h with h
  injection h with h _
  injection h
theorem st_fix {b n : Nat} (h4 : 4 ≤ b ∧ b ≤ 32) (hn : n < 2 ^ pls b) : stS b (fixN b n) = if stS b n = "more" then "more" else "clean" := by
  rcases st_kinds b n with ⟨e, h⟩ | ⟨e, h, hs⟩ | ⟨e, h⟩
  · rw [fix_some h, e, if_neg (by decide +kernel)]
  · rw [fix_some h, e, if_neg (by decide +kernel)]
    have h1 : (dig n).length % 2 = 1 := by
      unfold mdN at h
      by_cases o : (dig n).length % 2 = 1
      · exact o
      · rw [if_neg o] at h
        by_cases q : spN n = 0
        · rw [if_pos q] at h
          exact absurd (Option.some.inj h).symm (flip_ne _ _)
        · rw [if_neg q] at h
          cases h
    exact stS_of (mended_word h4 hn h1 hs).clean.1
  · rw [fix_none h, e, if_pos rfl]
theorem kind_fix_one {b : Nat} {rs : List Nat} (h : RowsOk b rs) : kindN b (rs.map (fixN b)) "one" = [] := by
  unfold kindN
  refine List.filter_eq_nil_iff.mpr fun k hk => ?_
  have hk : k < rs.length := by have := List.mem_range.mp hk; rwa [List.length_map] at this
  rw [List.getD_eq_getElem?_getD, List.getElem?_map, List.getElem?_eq_getElem hk]
  show ¬ decide (stS b (fixN b rs[k]) = _) = true
  rw [st_fix h.1 (h.2.1 _ (List.getElem_mem hk))]
  split
  · decide +kernel
  · decide +kernel
theorem kind_fix_more {b : Nat} {rs : List Nat} (h : RowsOk b rs) : kindN b (rs.map (fixN b)) "more" = kindN b rs "more" := by
  unfold kindN
  rw [List.length_map]
  refine List.filter_congr fun k hk => ?_
  have hk : k < rs.length := List.mem_range.mp hk
  rw [List.getD_eq_getElem?_getD, List.getElem?_map, List.getD_eq_getElem?_getD, List.getElem?_eq_getElem hk]
  show decide (stS b (fixN b rs[k]) = _) = decide (stS b rs[k] = _)
  rw [st_fix h.1 (h.2.1 _ (List.getElem_mem hk))]
  by_cases e : stS b rs[k] = "more"
  · rw [if_pos e, e]
  · rw [if_neg e, decide_eq_false e]
    decide +kernel
section
variable {P : Program} {w : World} {K : PySem.W.Frag} {mg : Str → Option Value} {base : Heap}
set_option maxHeartbeats 0 in
theorem ok_law {f : Addr} {fd : FuncData} (F : Fun K "law" "law" s_law f fd) (c_state_of : Cal P w K mg base "state_of" ["bits", "row"] 3 S_state_of) (c_mended : Cal P w K mg base "mended" ["bits", "row"] 4 S_mended) (c_Memory___init__ : CalC P w K mg base "Memory" ["self", "cells", "bits"] 5 S_Memory___init__) (c_Memory_row_at : CalM P w K mg base CX0 "Memory" "row_at" ["self", "cell"] 1 (spS K S_Memory_row_at)) (c_Memory_state_at : CalM P w K mg base CX0 "Memory" "state_at" ["self", "cell"] 4 (spS K S_Memory_state_at)) (c_Memory_scrub_all : CalM P w K mg base CX0 "Memory" "scrub_all" ["self"] 7 (spWU K S_Memory_scrub_all)) (c_Memory_write : CalM P w K mg base CX0 "Memory" "write" ["self", "cell", "value"] 5 (spW K S_Memory_write)) (c_Memory_flip : CalM P w K mg base CX0 "Memory" "flip" ["self", "cell", "place"] 5 (spW K S_Memory_flip)) (c__law_numbers : Cal P w K mg base "_law_numbers" ["_law_script", "_law_many"] 2 S__law_numbers) (c__law_places : Cal P w K mg base "_law_places" ["_law_bits"] 2 S__law_places) (c__law_value : Cal P w K mg base "_law_value" ["_law_numbers_here", "_law_at", "_law_bits"] 1 S__law_value) (c__law_scrub : CalF P w K mg base CX0 "_law_scrub" ["_law_memory", "_law_cell"] 7 (spW K S__law_scrub))  (O_Memory : ClsOk K "Memory" ["cells", "bits", "held"]) (T_Unm : Xt_Unmendable P K mg) (T_Far : FarT K mg) (bt : Bt mg) : FnOk P w K mg base CX0 8 f fd ["_law_script"] (spLaw K) := by
  refine def_ok F sc_law (fun _ => rfl) fun ns hns cdv A outer s H E hr J hJ => ?_
  refine rn_cons (rs_set 1 (gx_call c__law_numbers hr (by decide) (goA_cons (go_var 0) (goA_cons go_int goA_nil))) ?_ sc_law.nd)
  refine rn_ex 1 rfl fun zs hz => ?_
  have hz : IntsD Small 70 zs := hz
  refine rn_cons (rs_set 2 (gx_bin go_int (gx_bin (gx_int bt.int (gx_ix (go_var 1) go_int)) go_int)) ?_ sc_law.nd)
  obtain ⟨b, hbe, hb⟩ : ∃ b : Nat, 4 + nthI zs 0 % 29 = ((b : Nat) : Int) ∧ Bt4 b := ⟨(4 + nthI zs 0 % 29).toNat, by omega, by unfold Bt4; omega⟩
  rw [hbe]
  have hpl := (dat_len hb).2.2
  have hb4 : 4 ≤ b ∧ b ≤ 32 := hb
  have hp0 : 0 < pls b := by unfold pls; omega
  have hp0' : 0 < ((pls b : Nat) : Int) := by omega
  refine rn_cons (rs_set 3 (gx_bin go_int (gx_bin (gx_int bt.int (gx_ix (go_var 1) go_int)) go_int)) ?_ sc_law.nd)
  obtain ⟨c0, hc0, hc1, hc2⟩ : ∃ c : Nat, 1 + nthI zs 1 % 6 = ((c : Nat) : Int) ∧ 1 ≤ c ∧ c ≤ 6 := ⟨(1 + nthI zs 1 % 6).toNat, by omega, by omega, by omega⟩
  rw [hc0]
  refine rn_cons (rs_set 4 (go_is (d' := nats (List.range c0)) (go_of_new (goN_listRg rfl bt.list bt.range (go_var 3) (by omega))) (congrArg PyData.list (by unfold nz; rw [List.map_map]; rfl))) ?_ sc_law.nd)
  refine rn_cons (rs_cut (fun Γ' => ∃ (c : Nat) (sm : List Nat), Γ' = [.dat (.list (ns.map .int)), .dat (.list zs), .dat (nat b), .dat (nat c), .dat (nats sm), .any, .any, .any, .any, .any, .any, .any, .any, .any, .any, .any] ∧ 1 ≤ c ∧ c ≤ 512 ∧ 1 ≤ sm.length ∧ sm.length ≤ 6 ∧ ∀ i ∈ sm, i < c) (rs_if (gocT (gx_c (.of hr) (gx_bin (gx_int bt.int (gx_ix (go_var 1) go_int)) go_int) go_int)) (fun hk => ?_) fun hk => ?_) ?_)
  · skip
    refine rn_cons (rs_par 3 4 (go_is (d' := nat 512) go_int rfl) (go_is (d' := nats [511, 0, 300, 77, 5, 201]) (go_lst (god_cons go_int (god_cons go_int (god_cons go_int (god_cons go_int (god_cons go_int (god_cons go_int god_nil))))))) rfl) ?_ sc_law.nd rfl (by decide))
    exact rn_nil ⟨512, [511, 0, 300, 77, 5, 201], rfl, by omega, by omega, by decide, by decide, by decide⟩
  · skip
    exact rn_nil ⟨c0, List.range c0, rfl, by omega, by omega, by rw [List.length_range]; omega, by rw [List.length_range]; omega, fun i h => List.mem_range.mp h⟩
  rintro _ ⟨c, sm, rfl, hc1, hc2, hs1, hs6, hsm⟩
  have hsl : ((nz sm).map PyData.int).length = sm.length := by rw [List.length_map, List.length_map]
  refine rn_cons (rs_ownU 5 (goU_make c_Memory___init__ hr (by decide) (goA_cons (go_var 3) (goA_cons (go_var 2) goA_nil))) ?_ sc_law.nd)
  have hR : RowsOk b (List.replicate c (codeN b 0)) := ⟨hb, fun r h => by
    rw [List.eq_of_mem_replicate h]
    exact code_lt hb4 (Nat.two_pow_pos b), by rw [List.length_replicate]; omega⟩
  have hL : (List.replicate c (codeN b 0)).length = c := List.length_replicate
  generalize List.replicate c (codeN b 0) = rs at *
  refine rn_cons (rs_for (fun k Γ' => ∃ rs s6 s7, Γ' = [.dat (.list (ns.map .int)), .dat (.list zs), .dat (nat b), .dat (nat c), .dat (nats sm), .ob (memO b rs), s6, s7, .any, .any, .any, .any, .any, .any, .any, .any] ∧ RowsOk b rs ∧ rs.length = c) (gx_rng1 bt.range (gx_len bt.len (go_var 4))) ?_ ?_ ?_ rfl)
  · exact ⟨rs, _, _, rfl, hR, hL⟩
  · clear hR hL
    rintro j d _ hd ⟨rs, s6, s7, rfl, hR, hL⟩
    obtain ⟨hj, rfl⟩ := rng_get hd
    have hj : j < sm.length := by omega
    obtain ⟨i, hi⟩ : ∃ i, sm[j]? = some i := ⟨_, List.getElem?_eq_getElem hj⟩
    have hic := hsm i (List.mem_of_getElem? hi)
    have hat : atI ((nz sm).map PyData.int) (0 + (j : Nat) : Int) = some (nat i) := atI_get' (k := j) (by rw [List.getElem?_map, List.getElem?_map, hi]; rfl) (by omega)
    have hv := (lv_at zs (2 + 4 * (0 + (j : Nat))) b).1
    have hw : RowsOk b rs ∧ i < rs.length ∧ lvN zs (2 + 4 * (0 + (j : Nat))) b < 2 ^ b := ⟨hR, by omega, hv⟩
    refine ⟨_, _, (gog_name 6 sc_law.nd), ?_⟩
    refine rn_cons (rs_exprM (gm_meth 5 c_Memory_write hr (by decide) rfl .same isObj_mem (goA_cons (gx_ix (go_var 4) (go_var 6)) (goA_cons (gx_call c__law_value hr (by decide) (goA_cons (go_var 1) (goA_cons (gx_bin go_int (gx_bin go_int (go_var 6))) (goA_cons (go_var 2) goA_nil)))) goA_nil))) (of_decide_eq_true rfl) ?_)
    have hR := hR.set (i := i) (code_lt hb4 hv)
    have hL : (rs.set i (codeN b (lvN zs (2 + 4 * (0 + (j : Nat))) b))).length = c := by rw [List.length_set]; exact hL
    clear hw
    generalize rs.set i (codeN b (lvN zs (2 + 4 * (0 + (j : Nat))) b)) = rs at *
    refine rn_cons (rs_for (fun k Γ' => ∃ rs s7, Γ' = [.dat (.list (ns.map .int)), .dat (.list zs), .dat (nat b), .dat (nat c), .dat (nats sm), .ob (memO b rs), .dat (.int (0 + (j : Nat))), s7, .any, .any, .any, .any, .any, .any, .any, .any] ∧ RowsOk b rs ∧ rs.length = c) (gx_rng1 bt.range (gx_bin (gx_int bt.int (gx_ix (go_var 1) (gx_bin go_int (go_var 6)))) go_int)) ?_ ?_ ?_ rfl)
    · exact ⟨rs, _, rfl, hR, hL⟩
    · clear hR hL
      rintro k d _ hd ⟨rs, s7, rfl, hR, hL⟩
      obtain ⟨hk, rfl⟩ := rng_get hd
      obtain ⟨hpe, hpc⟩ := emod_toNat (x := nthI zs (36 + (0 + (j : Nat))) + (0 + (k : Nat)) * nthI zs (42 + (0 + (j : Nat)))) hp0
      generalize ((nthI zs (36 + (0 + (j : Nat))) + (0 + (k : Nat)) * nthI zs (42 + (0 + (j : Nat)))) % ((pls b : Nat) : Int)).toNat = p at *
      have hrow := getD_at (z := 0) (show i < rs.length by omega)
      have hw : RowsOk b rs ∧ rs[i]? = some (rs.getD i 0) ∧ p < pls b := ⟨hR, hrow, hpc⟩
      refine ⟨_, _, (gog_name 7 sc_law.nd), ?_⟩
      refine rn_cons (rs_exprM (gm_meth 5 c_Memory_flip hr (by decide) rfl .same isObj_mem (goA_cons (gx_ix (go_var 4) (go_var 6)) (goA_cons (go_is (d' := nat p) (gx_bin (gx_int bt.int (gx_bin (gx_ix (go_var 1) (gx_bin go_int (go_var 6))) (gx_bin (go_var 7) (gx_ix (go_var 1) (gx_bin go_int (go_var 6)))))) (gx_call c__law_places hr (by decide) (goA_cons (go_var 2) goA_nil))) (congrArg PyData.int hpe)) goA_nil))) (of_decide_eq_true rfl) ?_)
      exact rn_nil ⟨_, _, rfl, hR.set (flip_lt (hR.r64 hrow).1 hpc), by rw [List.length_set]; exact hL⟩
    rintro _ ⟨rs, s7, rfl, hR, hL⟩
    exact rn_nil ⟨_, _, _, rfl, hR, hL⟩
  clear hR hL
  rintro _ ⟨rs, s6, s7, rfl, hR, hL⟩
  have hzr : (List.range c).length < 1000000 := by rw [List.length_range]; omega
  refine rn_cons (rs_lcTMO 5 rfl (fz_mem b rs) 8 (own := [("_law_cell", 9)]) rfl sc_law.nd (goi_is (gx_rng1 bt.range (go_var 3)) (rng_nat c)) (f := fun k => nat (rs.getD k 0)) (fun k x hx => by
    have hx2 := getD_at (z := 0) (show x < rs.length by have := List.mem_range.mp (List.mem_of_getElem? hx); omega)
    exact ⟨_, _, fun s H C cl fp => (gog_name 9 sc_law.nd), fun s H C cl fp => (gx_meth c_Memory_row_at hr (by decide) (go_var 5) rfl (goA_cons (go_var 9) goA_nil)), by simp⟩) (by first | (show blkC ["_law_script", "_law_numbers_here", "_law_bits", "_law_cells", "_law_some", "_law_memory", "_law_j", "_law_k", "_law_rows", "_law_cell", "_law_state", "_law_states", "_law_row_here", "_law_due", "_law_told", "_law_one"] (defScope s_law) _ _ = true; decide +kernel) | (show blkC ["_law_script", "_law_numbers_here", "_law_bits", "_law_cells", "_law_some", "_law_memory", "_law_j", "_law_k", "_law_rows", "_law_cell", "_law_state", "_law_states", "_law_row_here", "_law_due", "_law_told", "_law_one"] (relS _ (defScope s_law)) _ _ = true; decide +kernel) | (show blkC ["_law_script", "_law_numbers_here", "_law_bits", "_law_cells", "_law_some", "_law_memory", "_law_j", "_law_k", "_law_rows", "_law_cell", "_law_state", "_law_states", "_law_row_here", "_law_due", "_law_told", "_law_one"] (relS _ (relS _ (defScope s_law))) _ _ = true; decide +kernel)) (sw_true rfl rfl rfl (by decide +kernel)) ?_ ?_)
  · exact List.all_eq_true.mpr fun d hd => by
      obtain ⟨k, _, rfl⟩ := List.mem_map.mp hd
      rfl
  refine rn_is 8 (s' := .own ((nz rs).map .int)) rfl (by rw [← hL, rows_is]) ?_
  refine rn_to (Γ' := [_, _, _, _, _, _, _, _, _, _, _, _, _, _, _, _]) rfl ?_
  have hs0 : 0 < ((sm.length : Nat) : Int) := by omega
  obtain ⟨hie, hil⟩ := emod_toNat (x := nthI zs 48) (show 0 < sm.length by omega)
  generalize (nthI zs 48 % ((sm.length : Nat) : Int)).toNat = i0 at *
  obtain ⟨i, hi⟩ : ∃ i, sm[i0]? = some i := ⟨_, List.getElem?_eq_getElem hil⟩
  have hic := hsm i (List.mem_of_getElem? hi)
  have hirs : i < rs.length := by omega
  have hat : atI ((nz sm).map PyData.int) (nthI zs 48 % ((((nz sm).map PyData.int).length : Nat) : Int)) = some (nat i) := by
    rw [hsl, hie]
    exact atI_get' (k := i0) (by rw [List.getElem?_map, List.getElem?_map, hi]; rfl) rfl
  have hs0' : 0 < ((((nz sm).map PyData.int).length : Nat) : Int) := by rw [hsl]; exact hs0
  refine rn_cons (rs_set 9 (gx_ix (go_var 4) (gx_bin (gx_int bt.int (gx_ix (go_var 1) go_int)) (gx_len bt.len (go_var 4)))) ?_ sc_law.nd)
  have hrow := getD_at (z := 0) hirs
  generalize rs.getD i 0 = r at hrow
  have hrat := row_at hrow
  have hr64 := hR.r64 hrow
  have hb64 : Bt4 b ∧ r < 2 ^ 64 := ⟨hb, hr64.2⟩
  refine rn_cons (rs_set 10 (go_thF 8 rfl (fzM_of (fz_lst _)) (gx_ix (go_is (gx_call c_state_of hr (by decide) (goA_cons (go_var 2) (goA_cons (gx_ix (go_var 8) (go_var 9)) goA_nil))) (stD_is b r)) go_int rfl)) ?_ sc_law.nd)
  refine rn_to (Γ' := [_, _, _, _, _, _, _, _, _, _, _, _, _, _, _, _]) rfl ?_
  have hw : RowsOk b rs ∧ rs[i]? = some r := ⟨hR, hrow⟩
  obtain ⟨hv, hd⟩ := sc_pick b r
  refine rn_cons (rs_ifM (k := false) (goTM_is (goTM_neD (.of hr) (gm_call 5 c__law_scrub hr (by decide) rfl .same (goA_cons (go_var 9) goA_nil)) (of_decide_eq_true rfl) (go_dic3 (.of hr) (pkS b r) go_bl go_bl go_non (go_var 10) hv hd) (Shp.ok (sc_shp b r)) (Shp.ok (sc_shp b r))) ?_) (of_decide_eq_true rfl) (fun h => nomatch h) fun _ => ?_)
  · rw [eqv_refl (sc_shp b r).1]
    rfl
  refine rn_nil ?_
  have hR2 := hR.set (i := i) (fix_lt hr64.1)
  have hL2 : (rs.set i (fixN b r)).length = c := by rw [List.length_set]; exact hL
  have hih : i < ((nz rs).map PyData.int).length := by rw [List.length_map, List.length_map]; exact hirs
  refine rn_cons (rs_cut (fun Γ' => ∃ s6 s7 s9 s10, Γ' = [.dat (.list (ns.map .int)), .dat (.list zs), .dat (nat b), .dat (nat c), .dat (nats sm), .ob (memO b (rs.set i (fixN b r))), s6, s7, .own ((nz (rs.set i (fixN b r))).map .int), s9, s10, .any, .any, .any, .any, .any]) (rs_if (gocT (gx_c (.of hr) (go_var 10) go_str)) (fun hk => ?_) fun hk => ?_) ?_)
  · skip
    have e := of_decide_eq_true hk
    have hmd : mendD b r = nat (fixN b r) := by
      rcases st_kinds b r with ⟨z, h⟩ | ⟨z, h, _⟩ | ⟨z, h⟩
      · rw [fix_some h]
        exact md_some h
      · rw [fix_some h]
        exact md_some h
      · rw [e] at z
        exact absurd z (by decide +kernel)
    refine rn_cons (rs_setL (gol_name 8) (go_thF 8 rfl (fzM_of (fz_lst _)) (go_is (d' := nat (fixN b r)) (gx_call c_mended hr (by decide) (goA_cons (go_var 2) (goA_cons (gx_ix (go_var 8) (go_var 9)) goA_nil))) hmd)) (go_var 9) (ix_nat hih) ?_ (of_decide_eq_true rfl))
    refine rn_is 8 (s' := .own ((nz (rs.set i (fixN b r))).map .int)) rfl (by unfold nz; rw [List.map_set, List.map_set]) ?_
    exact rn_nil ⟨_, _, _, _, rfl⟩
  · skip
    have e := of_decide_eq_false hk
    have hsame : rs.set i (fixN b r) = rs := by rw [fix_not_one e, set_same hrow]
    refine rn_is 8 (s' := .own ((nz (rs.set i (fixN b r))).map .int)) rfl (by rw [hsame]) ?_
    exact rn_nil ⟨_, _, _, _, rfl⟩
  rintro _ ⟨s6, s7, s9, s10, rfl⟩
  clear hrow hrat hr64 hb64 hw hv hd hih hirs hL hR
  generalize rs.set i (fixN b r) = rs at *
  have hL := hL2
  have hR := hR2
  refine rn_cons (rs_if (k := false) (goT_is (goT_thM 5 rfl (fz_mem b rs) (goT_thM 8 rfl (fzM_of (fz_lst _)) (gocT (gc_neD (.of hr) (go_is (d' := .list ((nz rs).map .int)) (go_of_new (gx_lcM (own := [("_law_k", 7)]) rfl sc_law.nd (goi_is (gx_rng1 bt.range (go_var 3)) (rng_nat c)) (fun k x hx => by have hx2 := getD_at (z := 0) (show x < rs.length by have := List.mem_range.mp (List.mem_of_getElem? hx); omega); exact ⟨_, _, fun s H C cl fp => (gog_name 7 sc_law.nd), fun s H C cl fp => (gx_meth c_Memory_row_at hr (by decide) (go_var 5) rfl (goA_cons (go_var 7) goA_nil)), by simp⟩) (by first | (show blkC ["_law_script", "_law_numbers_here", "_law_bits", "_law_cells", "_law_some", "_law_memory", "_law_j", "_law_k", "_law_rows", "_law_cell", "_law_state", "_law_states", "_law_row_here", "_law_due", "_law_told", "_law_one"] (defScope s_law) _ _ = true; decide +kernel) | (show blkC ["_law_script", "_law_numbers_here", "_law_bits", "_law_cells", "_law_some", "_law_memory", "_law_j", "_law_k", "_law_rows", "_law_cell", "_law_state", "_law_states", "_law_row_here", "_law_due", "_law_told", "_law_one"] (relS _ (defScope s_law)) _ _ = true; decide +kernel) | (show blkC ["_law_script", "_law_numbers_here", "_law_bits", "_law_cells", "_law_some", "_law_memory", "_law_j", "_law_k", "_law_rows", "_law_cell", "_law_state", "_law_states", "_law_row_here", "_law_due", "_law_told", "_law_one"] (relS _ (relS _ (defScope s_law))) _ _ = true; decide +kernel)))) (by rw [← hL, rows_is])) (go_var 8) (Shp.ok (rows_shp rs)) (Shp.ok (rows_shp rs)))))) ?_) (fun h => nomatch h) fun _ => ?_)
  · rw [eqv_refl (rows_shp rs).1]
    rfl
  refine rn_nil ?_
  refine rn_to (Γ' := [_, _, _, _, _, _, _, _, _, _, _, _, _, _, _, _]) rfl ?_
  have hsl : ((nz rs).map PyData.int).length = rs.length := by rw [List.length_map, List.length_map]
  have hzr2 : rs.length < 1000000 := by omega
  refine rn_cons (rs_set 11 (go_is (d' := .list (rs.map fun r => .str (stS b r))) (go_of_new (goN_thM 8 rfl (fzM_of (fz_lst _)) (gx_lcM (own := [("_law_row_here", 12)]) rfl sc_law.nd (goi_is (gx_it (go_var 8)) (show (nz rs).map PyData.int = rs.map nat by unfold nz; rw [List.map_map]; rfl)) (fun k x hx => by have hxr := hR.2.1 x (List.mem_of_getElem? hx); have hx64 : Bt4 b ∧ x < 2 ^ 64 := ⟨hb, Nat.lt_of_lt_of_le hxr (Nat.pow_le_pow_right (by decide) (by omega))⟩; exact ⟨_, _, fun s H C cl fp => (gog_name 12 sc_law.nd), fun s H C cl fp => (gx_ix (go_is (gx_call c_state_of hr (by decide) (goA_cons (go_var 2) (goA_cons (go_var 12) goA_nil))) (stD_is _ _)) go_int rfl), by simp⟩) (by first | (show blkC ["_law_script", "_law_numbers_here", "_law_bits", "_law_cells", "_law_some", "_law_memory", "_law_j", "_law_k", "_law_rows", "_law_cell", "_law_state", "_law_states", "_law_row_here", "_law_due", "_law_told", "_law_one"] (defScope s_law) _ _ = true; decide +kernel) | (show blkC ["_law_script", "_law_numbers_here", "_law_bits", "_law_cells", "_law_some", "_law_memory", "_law_j", "_law_k", "_law_rows", "_law_cell", "_law_state", "_law_states", "_law_row_here", "_law_due", "_law_told", "_law_one"] (relS _ (defScope s_law)) _ _ = true; decide +kernel) | (show blkC ["_law_script", "_law_numbers_here", "_law_bits", "_law_cells", "_law_some", "_law_memory", "_law_j", "_law_k", "_law_rows", "_law_cell", "_law_state", "_law_states", "_law_row_here", "_law_due", "_law_told", "_law_one"] (relS _ (relS _ (defScope s_law))) _ _ = true; decide +kernel))) ?_)) ?_) ?_ sc_law.nd)
  · exact List.all_eq_true.mpr fun d hd => by
      obtain ⟨k, _, rfl⟩ := List.mem_map.mp hd
      rfl
  · rfl
  have kd : ∀ s : Str, ((List.range c).filter fun k => decide (stS b (rs.getD k 0) = s)).map (fun k => nat k) = (nz (kindN b rs s)).map .int := fun s => by
    rw [← hL]
    exact kind_data b rs s
  have hst : ∀ k, k < c → atI (rs.map fun r => PyData.str (stS b r)) ((k : Nat) : Int) = some (.str (stS b (rs.getD k 0))) := fun k hk => atI_nat (by rw [List.getElem?_map, getD_at (z := 0) (show k < rs.length by omega)]; rfl)
  refine rn_cons (rs_set 13 (go_is (d' := allD b rs) (go_tup (god_cons (go_of_new (gx_lc (own := [("_law_k", 7)]) rfl sc_law.nd (goi_is (gx_rng1 bt.range (go_var 3)) (rng_nat c)) (fun k x hx => by have hat := hst x (List.mem_range.mp (List.mem_of_getElem? hx)); exact ⟨_, _, fun s H C cl fp => (gog_name 7 sc_law.nd), fun s H C cl fp => goTs_one (gocT (gx_c (.of hr) (gx_ix (go_var 11) (go_var 7)) go_str)), fun hq s H C cl fp => (go_var 7), by simp⟩) (by first | (show blkC ["_law_script", "_law_numbers_here", "_law_bits", "_law_cells", "_law_some", "_law_memory", "_law_j", "_law_k", "_law_rows", "_law_cell", "_law_state", "_law_states", "_law_row_here", "_law_due", "_law_told", "_law_one"] (defScope s_law) _ _ = true; decide +kernel) | (show blkC ["_law_script", "_law_numbers_here", "_law_bits", "_law_cells", "_law_some", "_law_memory", "_law_j", "_law_k", "_law_rows", "_law_cell", "_law_state", "_law_states", "_law_row_here", "_law_due", "_law_told", "_law_one"] (relS _ (defScope s_law)) _ _ = true; decide +kernel) | (show blkC ["_law_script", "_law_numbers_here", "_law_bits", "_law_cells", "_law_some", "_law_memory", "_law_j", "_law_k", "_law_rows", "_law_cell", "_law_state", "_law_states", "_law_row_here", "_law_due", "_law_told", "_law_one"] (relS _ (relS _ (defScope s_law))) _ _ = true; decide +kernel)))) (god_cons (go_of_new (gx_lc (own := [("_law_k", 7)]) rfl sc_law.nd (goi_is (gx_rng1 bt.range (go_var 3)) (rng_nat c)) (fun k x hx => by have hat := hst x (List.mem_range.mp (List.mem_of_getElem? hx)); exact ⟨_, _, fun s H C cl fp => (gog_name 7 sc_law.nd), fun s H C cl fp => goTs_one (gocT (gx_c (.of hr) (gx_ix (go_var 11) (go_var 7)) go_str)), fun hq s H C cl fp => (go_var 7), by simp⟩) (by first | (show blkC ["_law_script", "_law_numbers_here", "_law_bits", "_law_cells", "_law_some", "_law_memory", "_law_j", "_law_k", "_law_rows", "_law_cell", "_law_state", "_law_states", "_law_row_here", "_law_due", "_law_told", "_law_one"] (defScope s_law) _ _ = true; decide +kernel) | (show blkC ["_law_script", "_law_numbers_here", "_law_bits", "_law_cells", "_law_some", "_law_memory", "_law_j", "_law_k", "_law_rows", "_law_cell", "_law_state", "_law_states", "_law_row_here", "_law_due", "_law_told", "_law_one"] (relS _ (defScope s_law)) _ _ = true; decide +kernel) | (show blkC ["_law_script", "_law_numbers_here", "_law_bits", "_law_cells", "_law_some", "_law_memory", "_law_j", "_law_k", "_law_rows", "_law_cell", "_law_state", "_law_states", "_law_row_here", "_law_due", "_law_told", "_law_one"] (relS _ (relS _ (defScope s_law))) _ _ = true; decide +kernel)))) god_nil))) (by rw [kd, kd]; rfl)) ?_ sc_law.nd)
  refine rn_to (Γ' := [_, _, _, _, _, _, _, _, _, _, _, _, _, _, _, _]) rfl ?_
  refine rn_cons (rs_setMU 14 (gmu_meth0 5 c_Memory_scrub_all hr (by decide) rfl .same isObj_mem) (of_decide_eq_true rfl) (by decide) ?_ sc_law.nd)
  refine rn_cons (rs_if (k := false) (goT_is (goT_thM 14 rfl (fzM_of (fz_all b rs)) (goW_T (goW_or (gocT (gc_neD (.of hr) (go_var 14) (go_var 13) (Shp.ok (all_shp b rs)) (Shp.ok (all_shp b rs)))) fun _ => goW_or1 (goT_not (goT_val (gx_all rfl bt.all (go_of_new (gx_lcM (own := [("_law_one", 15)]) rfl sc_law.nd (goi_is (gx_it (go_var 14)) (show _ = [kindN b rs "one", kindN b rs "more"].map nats from rfl)) (fun k x hx => ⟨_, _, fun s H C cl fp => (gog_name 15 sc_law.nd), fun s H C cl fp => (gx_isi bt.isinstance bt.list PyProof.Rows.boot_list (go_var 15)), by simp⟩) (by first | (show blkC ["_law_script", "_law_numbers_here", "_law_bits", "_law_cells", "_law_some", "_law_memory", "_law_j", "_law_k", "_law_rows", "_law_cell", "_law_state", "_law_states", "_law_row_here", "_law_due", "_law_told", "_law_one"] (defScope s_law) _ _ = true; decide +kernel) | (show blkC ["_law_script", "_law_numbers_here", "_law_bits", "_law_cells", "_law_some", "_law_memory", "_law_j", "_law_k", "_law_rows", "_law_cell", "_law_state", "_law_states", "_law_row_here", "_law_due", "_law_told", "_law_one"] (relS _ (defScope s_law)) _ _ = true; decide +kernel) | (show blkC ["_law_script", "_law_numbers_here", "_law_bits", "_law_cells", "_law_some", "_law_memory", "_law_j", "_law_k", "_law_rows", "_law_cell", "_law_state", "_law_states", "_law_row_here", "_law_due", "_law_told", "_law_one"] (relS _ (relS _ (defScope s_law))) _ _ = true; decide +kernel)))))))))) ?_) (fun h => nomatch h) fun _ => ?_)
  · rw [eqv_refl (all_shp b rs).1]
    rfl
  refine rn_nil ?_
  have hkl : ((nz (kindN b rs "one")).map PyData.int).length < sizeLine := ltZ (by
    rw [List.length_map, List.length_map]
    have := List.length_filter_le (fun k => decide (stS b (rs.getD k 0) = "one")) (List.range rs.length)
    rw [List.length_range] at this
    unfold kindN
    omega)
  refine rn_cons (rs_appL (gol_ixT (k := 0) 14 rfl) go_int hkl ?_ (of_decide_eq_true rfl))
  refine rn_to (Γ' := [_, _, _, _, _, _, _, _, _, _, _, _, _, _, _, _]) rfl ?_
  have hRf := hR.map
  have hLf : (rs.map (fixN b)).length = c := by rw [List.length_map]; exact hL
  refine rn_cons (rs_for (fun k Γ' => ∃ Q s7 s14, Γ' = [.dat (.list (ns.map .int)), .dat (.list zs), .dat (nat b), .dat (nat c), .dat (nats sm), .ob (memO b (rs.map (fixN b))), s6, s7, .own ((nz Q).map .int), s9, s10, .dat (.list (rs.map fun r => .str (stS b r))), .any, .dat (allD b rs), s14, .any] ∧ Q = rowsJ b rs (List.range k)) (gx_rng1 bt.range (go_var 3)) ?_ ?_ ?_ rfl)
  · exact ⟨rs, _, _, rfl, by rw [List.range_zero, rowsJ_nil]⟩
  · rintro k d _ hd ⟨Q, s7, s14, rfl, hQ⟩
    obtain ⟨hk, rfl⟩ := rng_get hd
    have hkc : k < c := by omega
    have hkl : k < rs.length := by omega
    rw [show (0 + (k : Nat) : Int) = ((k : Nat) : Int) by omega]
    have hat := hst k hkc
    have hlt := hR.2.1 _ (List.mem_of_getElem? (getD_at (z := 0) hkl))
    have hQk : Q[k]? = some (rs.getD k 0) := by
      rw [hQ, rowsJ_at hkl, if_neg fun z => absurd (List.mem_range.mp z) (Nat.lt_irrefl k)]
    have hQl : k < ((nz Q).map PyData.int).length := by rw [List.length_map, List.length_map, hQ, rowsJ_len]; exact hkl
    have hQa := row_at hQk
    have hQ2 : Q.set k (fixN b (rs.getD k 0)) = rowsJ b rs (List.range (k + 1)) := by rw [hQ, rowsJ_push hkl, List.range_succ]
    have hfk : (rs.map (fixN b))[k]? = some (fixN b (rs.getD k 0)) := by rw [List.getElem?_map, getD_at (z := 0) hkl]; rfl
    generalize rs.getD k 0 = r at *
    have hr64 : Bt4 b ∧ r < 2 ^ 64 := ⟨hb, Nat.lt_of_lt_of_le hlt (Nat.pow_le_pow_right (by decide) (by omega))⟩
    refine ⟨_, _, (gog_name 7 sc_law.nd), ?_⟩
    refine rn_cons (rs_cut (fun Γ' => ∃ s14 : Sl, Γ' = [.dat (.list (ns.map .int)), .dat (.list zs), .dat (nat b), .dat (nat c), .dat (nats sm), .ob (memO b (rs.map (fixN b))), s6, .dat (nat k), .own ((nz (Q.set k (fixN b r))).map .int), s9, s10, .dat (.list (rs.map fun r => .str (stS b r))), .any, .dat (allD b rs), s14, .any]) (rs_if (gocT (gx_c (.of hr) (gx_ix (go_var 11) (go_var 7)) go_str)) (fun hk => ?_) fun hk => ?_) ?_)
    · skip
      have e := of_decide_eq_true hk
      have hmd : mendD b r = nat (fixN b r) := by
        rcases st_kinds b r with ⟨z, h⟩ | ⟨z, h, _⟩ | ⟨z, h⟩
        · rw [fix_some h]
          exact md_some h
        · rw [fix_some h]
          exact md_some h
        · rw [e] at z
          exact absurd z (by decide +kernel)
      refine rn_cons (rs_setL (gol_name 8) (go_thF 8 rfl (fzM_of (fz_lst _)) (go_is (d' := nat (fixN b r)) (gx_call c_mended hr (by decide) (goA_cons (go_var 2) (goA_cons (gx_ix (go_var 8) (go_var 7)) goA_nil))) hmd)) (go_var 7) (ix_nat hQl) ?_ (of_decide_eq_true rfl))
      refine rn_is 8 (s' := .own ((nz (Q.set k (fixN b r))).map .int)) rfl (by unfold nz; rw [List.map_set, List.map_set]) ?_
      exact rn_nil ⟨_, rfl⟩
    · skip
      have e := of_decide_eq_false hk
      have hsame : Q.set k (fixN b r) = Q := by rw [fix_not_one e, set_same hQk]
      rw [hsame]
      exact rn_nil ⟨_, rfl⟩
    rintro _ ⟨s14, rfl⟩
    have hQa2 := row_at (rows := Q.set k (fixN b r)) (i := k) (r := fixN b r) (List.getElem?_set_self (by have := (List.getElem?_eq_some_iff.mp hQk).1; exact this))
    have hwf : RowsOk b (rs.map (fixN b)) ∧ (rs.map (fixN b))[k]? = some (fixN b r) := ⟨hRf, hfk⟩
    have hne : decide (stS b (fixN b r) = "one") = false := decide_eq_false (by
      rw [st_fix hb4 hlt]
      split
      · decide +kernel
      · decide +kernel)
    refine rn_cons (rs_if (k := false) (goT_is (goT_thM 5 rfl (fz_mem b _) (goT_thM 8 rfl (fzM_of (fz_lst _)) (goW_T (goW_or (gocT (gx_c (.of hr) (gx_meth c_Memory_row_at hr (by decide) (go_var 5) rfl (goA_cons (go_var 7) goA_nil)) (gx_ix (go_var 8) (go_var 7)))) fun _ => goW_or1 (gocT (gx_c (.of hr) (gx_ix (go_is (gx_meth c_Memory_state_at hr (by decide) (go_var 5) rfl (goA_cons (go_var 7) goA_nil)) (stD_is b _)) go_int rfl) go_str)))))) ?_) (fun h => nomatch h) fun _ => ?_)
    · rw [hne]
      simp
    exact rn_nil (rn_nil ⟨_, _, _, rfl, hQ2⟩)
  rintro _ ⟨Q, s7, s14, rfl, _⟩
  have hdm : atI [nats (kindN b rs "one"), nats (kindN b rs "more")] 1 = some (nats (kindN b rs "more")) := rfl
  refine rn_cons (rs_retM (gm_is (gm_eqD (y := .tuple [.list [], nats (kindN b rs "more")]) (.of hr) (gm_of_U (gmu_meth0 5 c_Memory_scrub_all hr (by decide) rfl .same isObj_mem) (fz_all b (rs.map (fixN b)))) (of_decide_eq_true rfl) (go_tup (god_cons (go_lst god_nil) (god_cons (gx_ix (x := .tuple [nats (kindN b rs "one"), nats (kindN b rs "more")]) (go_var 13) go_int hdm) god_nil))) (Shp.ok (all_shp b _)) (Shp.ok (n := 2) (Shp.tup (Shp.all2 (Shp.ints [] 0) (Shp.ints _ 0))))) ?_) (of_decide_eq_true rfl) trivial)
  have e : allD b (rs.map (fixN b)) = .tuple [.list [], nats (kindN b rs "more")] := by
    unfold allD
    rw [kind_fix_one hR, kind_fix_more hR]
    rfl
  rw [e, eqv_refl (show Shp 2 (.tuple [.list [], nats (kindN b rs "more")]) from Shp.tup (Shp.all2 (Shp.ints [] 0) (Shp.ints _ 0))).1]
end
/-! ### what the top has written -/
theorem exm_self {K : PySem.W.Frag} {S : Addr} (h1 : PySem.W.subIn K (.ref S) (.type "BaseException") = some true) (h2 : PySem.W.isClsIn K S = true) (h3 : PySem.W.typeIn K (.ref S) = some (.type "type")) (h4 : PySem.W.subIn K (.ref S) (.ref S) = some true) :
    PySem.W.exmOne K (.ref S) (.ref S) = some true := by
  have e1 : (PySem.W.subIn K (.ref S) (.type "BaseException") == some true) = true := by rw [h1] <;> rfl
  have e2 : ((PySem.W.clsIn K S).isSome && PySem.W.typeIn K (.ref S) == some (.type "type")) = true := by
    have h2' : (PySem.W.clsIn K S).isSome = true := h2
    rw [h2', h3] <;> rfl
  show (if (PySem.W.subIn K (.ref S) (.type "BaseException") == some true) = true then (if ((PySem.W.clsIn K S).isSome && PySem.W.typeIn K (.ref S) == some (.type "type")) = true then PySem.W.subIn K (.ref S) (.ref S) else none) else none) = some true
  rw [if_pos e1, if_pos e2]
  exact h4
section
theorem all_mk {l : PySem.W.OpenLaw} {w : World} {K : PySem.W.Frag} {h : Heap} {mg : Str → Option Value} {fa f0 f1 f2 f3 f4 f5 f6 f7 f8 f9 f10 f11 f12 f13 f14 f15 f16 f17 f18 f19 f20 f21 f22 f23 f24 f25 C_Memory C_Unmendable CF : Addr} (X : K.In h) (G : h.Ns mainGlobals mg) (hfa : mg "law" = some (.ref fa))
    {od0 an0 : Option Addr} {sl0 : Array (Option Value)} {oc0 kV0 dc0 pm0 cd0 ct0 : Value}
    {od1 an1 : Option Addr} {sl1 : Array (Option Value)} {oc1 kV1 dc1 pm1 cd1 ct1 : Value}
    {od2 an2 : Option Addr} {sl2 : Array (Option Value)} {oc2 kV2 dc2 pm2 cd2 ct2 : Value}
    {od3 an3 : Option Addr} {sl3 : Array (Option Value)} {oc3 kV3 dc3 pm3 cd3 ct3 : Value}
    {od4 an4 : Option Addr} {sl4 : Array (Option Value)} {oc4 kV4 dc4 pm4 cd4 ct4 : Value}
    {od5 an5 : Option Addr} {sl5 : Array (Option Value)} {oc5 kV5 dc5 pm5 cd5 ct5 : Value}
    {od6 an6 : Option Addr} {sl6 : Array (Option Value)} {oc6 kV6 dc6 pm6 cd6 ct6 : Value}
    {od7 an7 : Option Addr} {sl7 : Array (Option Value)} {oc7 kV7 dc7 pm7 cd7 ct7 : Value}
    {od8 an8 : Option Addr} {sl8 : Array (Option Value)} {oc8 kV8 dc8 pm8 cd8 ct8 : Value}
    {od9 an9 : Option Addr} {sl9 : Array (Option Value)} {oc9 kV9 dc9 pm9 cd9 ct9 : Value}
    {od10 an10 : Option Addr} {sl10 : Array (Option Value)} {oc10 kV10 dc10 pm10 cd10 ct10 : Value}
    {od11 an11 : Option Addr} {sl11 : Array (Option Value)} {oc11 kV11 dc11 pm11 cd11 ct11 : Value}
    {od12 an12 : Option Addr} {sl12 : Array (Option Value)} {oc12 kV12 dc12 pm12 cd12 ct12 : Value}
    {od13 an13 : Option Addr} {sl13 : Array (Option Value)} {oc13 kV13 dc13 pm13 cd13 ct13 : Value}
    {od14 an14 : Option Addr} {sl14 : Array (Option Value)} {oc14 kV14 dc14 pm14 cd14 ct14 : Value}
    {od15 an15 : Option Addr} {sl15 : Array (Option Value)} {oc15 kV15 dc15 pm15 cd15 ct15 : Value}
    {od16 an16 : Option Addr} {sl16 : Array (Option Value)} {oc16 kV16 dc16 pm16 cd16 ct16 : Value}
    {od17 an17 : Option Addr} {sl17 : Array (Option Value)} {oc17 kV17 dc17 pm17 cd17 ct17 : Value}
    {od18 an18 : Option Addr} {sl18 : Array (Option Value)} {oc18 kV18 dc18 pm18 cd18 ct18 : Value}
    {od19 an19 : Option Addr} {sl19 : Array (Option Value)} {oc19 kV19 dc19 pm19 cd19 ct19 : Value}
    {od20 an20 : Option Addr} {sl20 : Array (Option Value)} {oc20 kV20 dc20 pm20 cd20 ct20 : Value}
    {od21 an21 : Option Addr} {sl21 : Array (Option Value)} {oc21 kV21 dc21 pm21 cd21 ct21 : Value}
    {od22 an22 : Option Addr} {sl22 : Array (Option Value)} {oc22 kV22 dc22 pm22 cd22 ct22 : Value}
    {od23 an23 : Option Addr} {sl23 : Array (Option Value)} {oc23 kV23 dc23 pm23 cd23 ct23 : Value}
    {od24 an24 : Option Addr} {sl24 : Array (Option Value)} {oc24 kV24 dc24 pm24 cd24 ct24 : Value}
    {od25 an25 : Option Addr} {sl25 : Array (Option Value)} {oc25 kV25 dc25 pm25 cd25 ct25 : Value}
    {nm_Unmendable q_Unmendable : Str} {N_Unmendable F0_Unmendable f_Unmendable cda_Unmendable cc_Unmendable : Addr} {bs_Unmendable : List Value} {sn_Unmendable : List Str} {sub_Unmendable : List Value} {ab_Unmendable : Bool} {col_Unmendable : Option Bool} {dd_Unmendable od_Unmendable an_Unmendable cdd_Unmendable cld_Unmendable : Option Addr} {m0_Unmendable m1_Unmendable m2_Unmendable m3_Unmendable m5_Unmendable : Option Value} {sl_Unmendable ccs_Unmendable csl_Unmendable : Array (Option Value)} {oc_Unmendable dc_Unmendable pm_Unmendable ct_Unmendable ccl_Unmendable cl_Unmendable : Value} {msg_Unmendable file_Unmendable : Str} {jj_Unmendable : Nat} {p1_Unmendable p2_Unmendable : Pos} {vs_Unmendable : Array Value} {tf_Unmendable : Tok}
    (aC_Memory : PySem.W.nsIn K mainGlobals "Memory" = some (some (.ref C_Memory)))
    (pg_Memory : PySem.W.plainGet K C_Memory Str.empty = true)
    (hd_Memory : PySem.W.hasDictIn K C_Memory = true)
    (po_Memory : PySem.W.plainOver K C_Memory = true)
    (sa_Memory : PySem.W.findIn K (.ref C_Memory) "__setattr__" = some (some (.builtin "object.__setattr__")))
    (mk_Memory : PySem.W.makesIn K C_Memory = true)
    (kp_Memory : PySem.W.keepIn K (.ref C_Memory) = true)
    (na_Memory_cells : PySem.W.findIn K (.ref C_Memory) "cells" = some none)
    (na_Memory_bits : PySem.W.findIn K (.ref C_Memory) "bits" = some none)
    (na_Memory_held : PySem.W.findIn K (.ref C_Memory) "held" = some none)
    (aC_Unmendable : PySem.W.nsIn K mainGlobals "Unmendable" = some (some (.ref C_Unmendable)))
    (xL_Unmendable : K.lookup C_Unmendable = some (excClassObj nm_Unmendable q_Unmendable C_Unmendable N_Unmendable bs_Unmendable [.ref F0_Unmendable, .type "ValueError", .type "Exception", .type "BaseException", .type "object"] true sn_Unmendable sub_Unmendable ab_Unmendable col_Unmendable dd_Unmendable m0_Unmendable m1_Unmendable m2_Unmendable m3_Unmendable m5_Unmendable "ValueError.__new__"))
    (sa_Unmendable : PySem.W.findIn K (.ref C_Unmendable) "__setattr__" = some (some (.builtin "object.__setattr__")))
    (ga_Unmendable : PySem.W.findIn K (.ref C_Unmendable) "__getattribute__" = some (some (.builtin "BaseException.__getattribute__")))
    (gg_Unmendable : PySem.W.findIn K (.ref C_Unmendable) "__getattr__" = some none)
    (nb_Unmendable : PySem.W.findIn K (.ref C_Unmendable) "place" = some none)
    (ai_Unmendable : PySem.W.findIn K (.ref C_Unmendable) "__init__" = some (some (.ref f_Unmendable)))
    (ti_Unmendable : PySem.W.typeIn K (.ref f_Unmendable) = some (.type "function"))
    (li_Unmendable : K.lookup f_Unmendable = some ⟨oc_Unmendable, od_Unmendable, .func (PySem.W.ksFn "__init__" "Unmendable.__init__" (PySem.SupX.iA p1_Unmendable p2_Unmendable) (PySem.SupX.iB msg_Unmendable jj_Unmendable) PySem.SupX.iS .none .none dc_Unmendable pm_Unmendable an_Unmendable (.ref cda_Unmendable) ct_Unmendable cc_Unmendable), sl_Unmendable⟩)
    (ci_Unmendable : PySem.W.codeIn K (.ref cda_Unmendable) "Unmendable.__init__" = true)
    (ld_Unmendable : K.lookup cda_Unmendable = some ⟨ccl_Unmendable, cdd_Unmendable, .fields vs_Unmendable, ccs_Unmendable⟩)
    (lv_Unmendable : vs_Unmendable[2]? = some (.str file_Unmendable tf_Unmendable))
    (lf_Unmendable : ((l.prog.main.file : Str) == file_Unmendable) = true)
    (lc_Unmendable : K.lookup cc_Unmendable = some ⟨cl_Unmendable, cld_Unmendable, .cell (some (.ref C_Unmendable)), csl_Unmendable⟩)
    (kC_Unmendable : PySem.W.keepIn K (.ref C_Unmendable) = true)
    (eC_Unmendable : PySem.W.subIn K (.ref C_Unmendable) (.type "BaseException") = some true)
    (vC_Unmendable : PySem.W.subIn K (.ref C_Unmendable) (.type "ValueError") = some true)
    (tC_Unmendable : PySem.W.typeIn K (.ref C_Unmendable) = some (.type "type"))
    (hC_Unmendable : PySem.W.hasDictIn K C_Unmendable = true)
    (iC_Unmendable : PySem.W.isClsIn K C_Unmendable = true)
    (sC_Unmendable : PySem.W.subIn K (.ref C_Unmendable) (.ref C_Unmendable) = some true)
    (su_Unmendable : PySem.W.ks_superIn K C_Unmendable C_Unmendable "__init__" = some (some (.builtin "ValueError.__init__")))
    (ei_Unmendable : PySem.W.excInitIn K C_Unmendable [.type "ValueError", .type "Exception", .type "BaseException", .type "object"] "ValueError.__new__" = true)
    (mr_Unmendable : PySem.W.mroIn K C_Unmendable (.ref C_Unmendable) = some true)
    (op_Unmendable : PySem.W.nsIn K cStatics "thirdparty.any" = some none)
    (gS_Unmendable : PySem.W.nsIn K mainGlobals "super" = some none)
    (tp_Unmendable : (l.prog.main.scope.names.lookup ("super" : Str)).isSome = false)
    (aF : PySem.W.nsIn K mainGlobals "FarError" = some (some (.ref CF)))
    (hF1 : PySem.W.findIn K (.ref C_Unmendable) "__class__" = some (some (.builtin "object.__class__")))
    (hF2 : PySem.W.specialIn K (.builtin "object.__class__") "__get__" = some (some (.builtin "getset_descriptor.__get__")))
    (hF3 : PySem.W.takesIn K (.builtin "object.__class__") = some true)
    (hF4 : PySem.W.mroIn K C_Unmendable (.type "object") = some true)
    (hF5 : PySem.W.kitOne K (.ref C_Unmendable) (.ref CF) = some true)
    (a0 : PySem.W.nsIn K mainGlobals "law" = some (some (.ref f0)))
    (l0 : K.lookup f0 = some ⟨oc0, od0, .func (PySem.W.fnOf "law" "law" (defArgs s_law) (defBody s_law) (defScope s_law) .none kV0 dc0 pm0 an0 cd0 ct0), sl0⟩)
    (c0 : PySem.W.codeIn K cd0 "law" = true)
    (k0 : PySem.W.keepIn K (.ref f0) = true)
    (a1 : PySem.W.nsIn K mainGlobals "_law_row" = some (some (.ref f1)))
    (l1 : K.lookup f1 = some ⟨oc1, od1, .func (PySem.W.fnOf "_law_row" "_law_row" (defArgs s__law_row) (defBody s__law_row) (defScope s__law_row) .none kV1 dc1 pm1 an1 cd1 ct1), sl1⟩)
    (c1 : PySem.W.codeIn K cd1 "_law_row" = true)
    (k1 : PySem.W.keepIn K (.ref f1) = true)
    (a2 : PySem.W.nsIn K mainGlobals "_law_numbers" = some (some (.ref f2)))
    (l2 : K.lookup f2 = some ⟨oc2, od2, .func (PySem.W.fnOf "_law_numbers" "_law_numbers" (defArgs s__law_numbers) (defBody s__law_numbers) (defScope s__law_numbers) .none kV2 dc2 pm2 an2 cd2 ct2), sl2⟩)
    (c2 : PySem.W.codeIn K cd2 "_law_numbers" = true)
    (k2 : PySem.W.keepIn K (.ref f2) = true)
    (a3 : PySem.W.nsIn K mainGlobals "check_places" = some (some (.ref f3)))
    (l3 : K.lookup f3 = some ⟨oc3, od3, .func (PySem.W.fnOf "check_places" "check_places" (defArgs s_check_places) (defBody s_check_places) (defScope s_check_places) .none kV3 dc3 pm3 an3 cd3 ct3), sl3⟩)
    (c3 : PySem.W.codeIn K cd3 "check_places" = true)
    (k3 : PySem.W.keepIn K (.ref f3) = true)
    (a4 : PySem.W.nsIn K mainGlobals "places_of" = some (some (.ref f4)))
    (l4 : K.lookup f4 = some ⟨oc4, od4, .func (PySem.W.fnOf "places_of" "places_of" (defArgs s_places_of) (defBody s_places_of) (defScope s_places_of) .none kV4 dc4 pm4 an4 cd4 ct4), sl4⟩)
    (c4 : PySem.W.codeIn K cd4 "places_of" = true)
    (k4 : PySem.W.keepIn K (.ref f4) = true)
    (a5 : PySem.W.nsIn K mainGlobals "digits_of" = some (some (.ref f5)))
    (l5 : K.lookup f5 = some ⟨oc5, od5, .func (PySem.W.fnOf "digits_of" "digits_of" (defArgs s_digits_of) (defBody s_digits_of) (defScope s_digits_of) .none kV5 dc5 pm5 an5 cd5 ct5), sl5⟩)
    (c5 : PySem.W.codeIn K cd5 "digits_of" = true)
    (k5 : PySem.W.keepIn K (.ref f5) = true)
    (a6 : PySem.W.nsIn K mainGlobals "spot_of" = some (some (.ref f6)))
    (l6 : K.lookup f6 = some ⟨oc6, od6, .func (PySem.W.fnOf "spot_of" "spot_of" (defArgs s_spot_of) (defBody s_spot_of) (defScope s_spot_of) .none kV6 dc6 pm6 an6 cd6 ct6), sl6⟩)
    (c6 : PySem.W.codeIn K cd6 "spot_of" = true)
    (k6 : PySem.W.keepIn K (.ref f6) = true)
    (a7 : PySem.W.nsIn K mainGlobals "state_of" = some (some (.ref f7)))
    (l7 : K.lookup f7 = some ⟨oc7, od7, .func (PySem.W.fnOf "state_of" "state_of" (defArgs s_state_of) (defBody s_state_of) (defScope s_state_of) .none kV7 dc7 pm7 an7 cd7 ct7), sl7⟩)
    (c7 : PySem.W.codeIn K cd7 "state_of" = true)
    (k7 : PySem.W.keepIn K (.ref f7) = true)
    (a8 : PySem.W.nsIn K mainGlobals "data_places" = some (some (.ref f8)))
    (l8 : K.lookup f8 = some ⟨oc8, od8, .func (PySem.W.fnOf "data_places" "data_places" (defArgs s_data_places) (defBody s_data_places) (defScope s_data_places) .none kV8 dc8 pm8 an8 cd8 ct8), sl8⟩)
    (c8 : PySem.W.codeIn K cd8 "data_places" = true)
    (k8 : PySem.W.keepIn K (.ref f8) = true)
    (a9 : PySem.W.nsIn K mainGlobals "coded" = some (some (.ref f9)))
    (l9 : K.lookup f9 = some ⟨oc9, od9, .func (PySem.W.fnOf "coded" "coded" (defArgs s_coded) (defBody s_coded) (defScope s_coded) .none kV9 dc9 pm9 an9 cd9 ct9), sl9⟩)
    (c9 : PySem.W.codeIn K cd9 "coded" = true)
    (k9 : PySem.W.keepIn K (.ref f9) = true)
    (a10 : PySem.W.nsIn K mainGlobals "value_in" = some (some (.ref f10)))
    (l10 : K.lookup f10 = some ⟨oc10, od10, .func (PySem.W.fnOf "value_in" "value_in" (defArgs s_value_in) (defBody s_value_in) (defScope s_value_in) .none kV10 dc10 pm10 an10 cd10 ct10), sl10⟩)
    (c10 : PySem.W.codeIn K cd10 "value_in" = true)
    (k10 : PySem.W.keepIn K (.ref f10) = true)
    (a11 : PySem.W.nsIn K mainGlobals "flipped" = some (some (.ref f11)))
    (l11 : K.lookup f11 = some ⟨oc11, od11, .func (PySem.W.fnOf "flipped" "flipped" (defArgs s_flipped) (defBody s_flipped) (defScope s_flipped) .none kV11 dc11 pm11 an11 cd11 ct11), sl11⟩)
    (c11 : PySem.W.codeIn K cd11 "flipped" = true)
    (k11 : PySem.W.keepIn K (.ref f11) = true)
    (a12 : PySem.W.nsIn K mainGlobals "mended" = some (some (.ref f12)))
    (l12 : K.lookup f12 = some ⟨oc12, od12, .func (PySem.W.fnOf "mended" "mended" (defArgs s_mended) (defBody s_mended) (defScope s_mended) .none kV12 dc12 pm12 an12 cd12 ct12), sl12⟩)
    (c12 : PySem.W.codeIn K cd12 "mended" = true)
    (k12 : PySem.W.keepIn K (.ref f12) = true)
    (a13 : PySem.W.findIn K (.ref C_Memory) "__init__" = some (some (.ref f13)))
    (l13 : K.lookup f13 = some ⟨oc13, od13, .func (PySem.W.fnOf "__init__" "Memory.__init__" (defArgs s_Memory___init__) (defBody s_Memory___init__) (defScope s_Memory___init__) .none kV13 dc13 pm13 an13 cd13 ct13), sl13⟩)
    (c13 : PySem.W.codeIn K cd13 "Memory.__init__" = true)
    (k13 : PySem.W.keepIn K (.ref f13) = true)
    (j13 : PySem.W.isFn K (.ref f13) = true)
    (a14 : PySem.W.findIn K (.ref C_Memory) "row_at" = some (some (.ref f14)))
    (l14 : K.lookup f14 = some ⟨oc14, od14, .func (PySem.W.fnOf "row_at" "Memory.row_at" (defArgs s_Memory_row_at) (defBody s_Memory_row_at) (defScope s_Memory_row_at) .none kV14 dc14 pm14 an14 cd14 ct14), sl14⟩)
    (c14 : PySem.W.codeIn K cd14 "Memory.row_at" = true)
    (k14 : PySem.W.keepIn K (.ref f14) = true)
    (j14 : PySem.W.isFn K (.ref f14) = true)
    (a15 : PySem.W.findIn K (.ref C_Memory) "state_at" = some (some (.ref f15)))
    (l15 : K.lookup f15 = some ⟨oc15, od15, .func (PySem.W.fnOf "state_at" "Memory.state_at" (defArgs s_Memory_state_at) (defBody s_Memory_state_at) (defScope s_Memory_state_at) .none kV15 dc15 pm15 an15 cd15 ct15), sl15⟩)
    (c15 : PySem.W.codeIn K cd15 "Memory.state_at" = true)
    (k15 : PySem.W.keepIn K (.ref f15) = true)
    (j15 : PySem.W.isFn K (.ref f15) = true)
    (a16 : PySem.W.findIn K (.ref C_Memory) "word_at" = some (some (.ref f16)))
    (l16 : K.lookup f16 = some ⟨oc16, od16, .func (PySem.W.fnOf "word_at" "Memory.word_at" (defArgs s_Memory_word_at) (defBody s_Memory_word_at) (defScope s_Memory_word_at) .none kV16 dc16 pm16 an16 cd16 ct16), sl16⟩)
    (c16 : PySem.W.codeIn K cd16 "Memory.word_at" = true)
    (k16 : PySem.W.keepIn K (.ref f16) = true)
    (j16 : PySem.W.isFn K (.ref f16) = true)
    (a17 : PySem.W.findIn K (.ref C_Memory) "write" = some (some (.ref f17)))
    (l17 : K.lookup f17 = some ⟨oc17, od17, .func (PySem.W.fnOf "write" "Memory.write" (defArgs s_Memory_write) (defBody s_Memory_write) (defScope s_Memory_write) .none kV17 dc17 pm17 an17 cd17 ct17), sl17⟩)
    (c17 : PySem.W.codeIn K cd17 "Memory.write" = true)
    (k17 : PySem.W.keepIn K (.ref f17) = true)
    (j17 : PySem.W.isFn K (.ref f17) = true)
    (a18 : PySem.W.findIn K (.ref C_Memory) "read" = some (some (.ref f18)))
    (l18 : K.lookup f18 = some ⟨oc18, od18, .func (PySem.W.fnOf "read" "Memory.read" (defArgs s_Memory_read) (defBody s_Memory_read) (defScope s_Memory_read) .none kV18 dc18 pm18 an18 cd18 ct18), sl18⟩)
    (c18 : PySem.W.codeIn K cd18 "Memory.read" = true)
    (k18 : PySem.W.keepIn K (.ref f18) = true)
    (j18 : PySem.W.isFn K (.ref f18) = true)
    (a19 : PySem.W.findIn K (.ref C_Memory) "flip" = some (some (.ref f19)))
    (l19 : K.lookup f19 = some ⟨oc19, od19, .func (PySem.W.fnOf "flip" "Memory.flip" (defArgs s_Memory_flip) (defBody s_Memory_flip) (defScope s_Memory_flip) .none kV19 dc19 pm19 an19 cd19 ct19), sl19⟩)
    (c19 : PySem.W.codeIn K cd19 "Memory.flip" = true)
    (k19 : PySem.W.keepIn K (.ref f19) = true)
    (j19 : PySem.W.isFn K (.ref f19) = true)
    (a20 : PySem.W.findIn K (.ref C_Memory) "scrub" = some (some (.ref f20)))
    (l20 : K.lookup f20 = some ⟨oc20, od20, .func (PySem.W.fnOf "scrub" "Memory.scrub" (defArgs s_Memory_scrub) (defBody s_Memory_scrub) (defScope s_Memory_scrub) .none kV20 dc20 pm20 an20 cd20 ct20), sl20⟩)
    (c20 : PySem.W.codeIn K cd20 "Memory.scrub" = true)
    (k20 : PySem.W.keepIn K (.ref f20) = true)
    (j20 : PySem.W.isFn K (.ref f20) = true)
    (a21 : PySem.W.findIn K (.ref C_Memory) "scrub_all" = some (some (.ref f21)))
    (l21 : K.lookup f21 = some ⟨oc21, od21, .func (PySem.W.fnOf "scrub_all" "Memory.scrub_all" (defArgs s_Memory_scrub_all) (defBody s_Memory_scrub_all) (defScope s_Memory_scrub_all) .none kV21 dc21 pm21 an21 cd21 ct21), sl21⟩)
    (c21 : PySem.W.codeIn K cd21 "Memory.scrub_all" = true)
    (k21 : PySem.W.keepIn K (.ref f21) = true)
    (j21 : PySem.W.isFn K (.ref f21) = true)
    (a22 : PySem.W.nsIn K mainGlobals "_law_checks" = some (some (.ref f22)))
    (l22 : K.lookup f22 = some ⟨oc22, od22, .func (PySem.W.fnOf "_law_checks" "_law_checks" (defArgs s__law_checks) (defBody s__law_checks) (defScope s__law_checks) .none kV22 dc22 pm22 an22 cd22 ct22), sl22⟩)
    (c22 : PySem.W.codeIn K cd22 "_law_checks" = true)
    (k22 : PySem.W.keepIn K (.ref f22) = true)
    (a23 : PySem.W.nsIn K mainGlobals "_law_places" = some (some (.ref f23)))
    (l23 : K.lookup f23 = some ⟨oc23, od23, .func (PySem.W.fnOf "_law_places" "_law_places" (defArgs s__law_places) (defBody s__law_places) (defScope s__law_places) .none kV23 dc23 pm23 an23 cd23 ct23), sl23⟩)
    (c23 : PySem.W.codeIn K cd23 "_law_places" = true)
    (k23 : PySem.W.keepIn K (.ref f23) = true)
    (a24 : PySem.W.nsIn K mainGlobals "_law_value" = some (some (.ref f24)))
    (l24 : K.lookup f24 = some ⟨oc24, od24, .func (PySem.W.fnOf "_law_value" "_law_value" (defArgs s__law_value) (defBody s__law_value) (defScope s__law_value) .none kV24 dc24 pm24 an24 cd24 ct24), sl24⟩)
    (c24 : PySem.W.codeIn K cd24 "_law_value" = true)
    (k24 : PySem.W.keepIn K (.ref f24) = true)
    (a25 : PySem.W.nsIn K mainGlobals "_law_scrub" = some (some (.ref f25)))
    (l25 : K.lookup f25 = some ⟨oc25, od25, .func (PySem.W.fnOf "_law_scrub" "_law_scrub" (defArgs s__law_scrub) (defBody s__law_scrub) (defScope s__law_scrub) .none kV25 dc25 pm25 an25 cd25 ct25), sl25⟩)
    (c25 : PySem.W.codeIn K cd25 "_law_scrub" = true)
    (k25 : PySem.W.keepIn K (.ref f25) = true)
    (z0 : PySem.W.nsIn K mainGlobals "abs" = some none) (z1 : PySem.W.nsIn K mainGlobals "int" = some none) (z2 : PySem.W.nsIn K mainGlobals "len" = some none) (z3 : PySem.W.nsIn K mainGlobals "max" = some none) (z4 : PySem.W.nsIn K mainGlobals "range" = some none) (z5 : PySem.W.nsIn K mainGlobals "list" = some none) (z6 : PySem.W.nsIn K mainGlobals "all" = some none) (z7 : PySem.W.nsIn K mainGlobals "any" = some none) (z8 : PySem.W.nsIn K mainGlobals "sum" = some none) (z9 : PySem.W.nsIn K mainGlobals "tuple" = some none) (z10 : PySem.W.nsIn K mainGlobals "sorted" = some none) (z11 : PySem.W.nsIn K mainGlobals "set" = some none) (z12 : PySem.W.nsIn K mainGlobals "enumerate" = some none) (z13 : PySem.W.nsIn K mainGlobals "zip" = some none) (z14 : PySem.W.nsIn K mainGlobals "isinstance" = some none) (z15 : PySem.W.nsIn K mainGlobals "str" = some none) (z16 : PySem.W.nsIn K mainGlobals "bool" = some none) (z17 : PySem.W.nsIn K mainGlobals "min" = some none)  :
    ∃ fd : FuncData, (∀ (s : Shared) (v : Value), BindsTo s fd ⟨[v], []⟩ [("_law_script", v)]) ∧ ∀ base : Heap, K.In base → base.Ns mainGlobals mg → FnOk l.prog w K mg base CX0 8 fa fd ["_law_script"] (spLaw K) := by
  have F0 := fun_mk (st := s_law) l0 c0 k0
  have F1 := fun_mk (st := s__law_row) l1 c1 k1
  have F2 := fun_mk (st := s__law_numbers) l2 c2 k2
  have F3 := fun_mk (st := s_check_places) l3 c3 k3
  have F4 := fun_mk (st := s_places_of) l4 c4 k4
  have F5 := fun_mk (st := s_digits_of) l5 c5 k5
  have F6 := fun_mk (st := s_spot_of) l6 c6 k6
  have F7 := fun_mk (st := s_state_of) l7 c7 k7
  have F8 := fun_mk (st := s_data_places) l8 c8 k8
  have F9 := fun_mk (st := s_coded) l9 c9 k9
  have F10 := fun_mk (st := s_value_in) l10 c10 k10
  have F11 := fun_mk (st := s_flipped) l11 c11 k11
  have F12 := fun_mk (st := s_mended) l12 c12 k12
  have F13 := fun_mk (st := s_Memory___init__) l13 c13 k13
  have F14 := fun_mk (st := s_Memory_row_at) l14 c14 k14
  have F15 := fun_mk (st := s_Memory_state_at) l15 c15 k15
  have F16 := fun_mk (st := s_Memory_word_at) l16 c16 k16
  have F17 := fun_mk (st := s_Memory_write) l17 c17 k17
  have F18 := fun_mk (st := s_Memory_read) l18 c18 k18
  have F19 := fun_mk (st := s_Memory_flip) l19 c19 k19
  have F20 := fun_mk (st := s_Memory_scrub) l20 c20 k20
  have F21 := fun_mk (st := s_Memory_scrub_all) l21 c21 k21
  have F22 := fun_mk (st := s__law_checks) l22 c22 k22
  have F23 := fun_mk (st := s__law_places) l23 c23 k23
  have F24 := fun_mk (st := s__law_value) l24 c24 k24
  have F25 := fun_mk (st := s__law_scrub) l25 c25 k25
  have e := hfa.symm.trans (PySem.W.mg_of X G a0)
  cases e
  have CL_Memory : Cls K C_Memory := ⟨pg_Memory, hd_Memory, po_Memory, sa_Memory⟩
  have O_Memory : ClsOk K "Memory" ["cells", "bits", "held"] := ⟨fun C h => (ClsAt.eq aC_Memory h) ▸ CL_Memory, fun C f h hf => by
    cases ClsAt.eq aC_Memory h
    simp only [List.mem_cons, List.not_mem_nil, or_false] at hf
    rcases hf with rfl | rfl | rfl
    all_goals assumption⟩
  have T_Unm : Xt_Unmendable l.prog K mg := ⟨C_Unmendable, f_Unmendable, aC_Unmendable, { gC := PySem.W.mg_of X G aC_Unmendable, cls := ⟨nm_Unmendable, q_Unmendable, N_Unmendable, bs_Unmendable, _, sn_Unmendable, sub_Unmendable, ab_Unmendable, col_Unmendable, dd_Unmendable, m0_Unmendable, m1_Unmendable, m2_Unmendable, m3_Unmendable, m5_Unmendable, xL_Unmendable, rfl⟩, sa := sa_Unmendable, ga := ga_Unmendable, gg := gg_Unmendable, noN := nb_Unmendable, iC := ai_Unmendable, tC := ti_Unmendable, kC := kC_Unmendable, exC := eC_Unmendable, veC := vC_Unmendable, tyC := tC_Unmendable, hdC := hC_Unmendable, te := exm_self eC_Unmendable iC_Unmendable tC_Unmendable sC_Unmendable, su := su_Unmendable, ei := ei_Unmendable, mro := mr_Unmendable, op := op_Unmendable, gS := PySem.W.mg_none_of X G gS_Unmendable, tp := tp_Unmendable, fn := ⟨_, _, _, _, _, _, _, _, _, _, _, _, _, _, _, _, _, _, _, _, _, _, li_Unmendable, ci_Unmendable, ld_Unmendable, lv_Unmendable, lf_Unmendable, lc_Unmendable⟩ }⟩
  have T_Far : FarT K mg := ⟨CF, PySem.W.mg_of X G aF, fun C h => by
    cases ClsAt.eq aC_Unmendable h
    exact ⟨⟨iC_Unmendable, ga_Unmendable, gg_Unmendable, eC_Unmendable, hF1, hF2, hF3, hF4⟩, hF5⟩⟩
  have D__law_row : Dfn K mg "_law_row" s__law_row ["_law_cell", "_law_many"] := ⟨_, _, F1, PySem.W.mg_of X G a1, F1.binds fun _ _ _ _ _ _ us hl => match us, hl with | [_, _], _ => rfl⟩
  have D__law_numbers : Dfn K mg "_law_numbers" s__law_numbers ["_law_script", "_law_many"] := ⟨_, _, F2, PySem.W.mg_of X G a2, F2.binds fun _ _ _ _ _ _ us hl => match us, hl with | [_, _], _ => rfl⟩
  have D_check_places : Dfn K mg "check_places" s_check_places ["bits"] := ⟨_, _, F3, PySem.W.mg_of X G a3, F3.binds fun _ _ _ _ _ _ us hl => match us, hl with | [_], _ => rfl⟩
  have D_places_of : Dfn K mg "places_of" s_places_of ["bits"] := ⟨_, _, F4, PySem.W.mg_of X G a4, F4.binds fun _ _ _ _ _ _ us hl => match us, hl with | [_], _ => rfl⟩
  have D_digits_of : Dfn K mg "digits_of" s_digits_of ["row"] := ⟨_, _, F5, PySem.W.mg_of X G a5, F5.binds fun _ _ _ _ _ _ us hl => match us, hl with | [_], _ => rfl⟩
  have D_spot_of : Dfn K mg "spot_of" s_spot_of ["bits", "row"] := ⟨_, _, F6, PySem.W.mg_of X G a6, F6.binds fun _ _ _ _ _ _ us hl => match us, hl with | [_, _], _ => rfl⟩
  have D_state_of : Dfn K mg "state_of" s_state_of ["bits", "row"] := ⟨_, _, F7, PySem.W.mg_of X G a7, F7.binds fun _ _ _ _ _ _ us hl => match us, hl with | [_, _], _ => rfl⟩
  have D_data_places : Dfn K mg "data_places" s_data_places ["bits"] := ⟨_, _, F8, PySem.W.mg_of X G a8, F8.binds fun _ _ _ _ _ _ us hl => match us, hl with | [_], _ => rfl⟩
  have D_coded : Dfn K mg "coded" s_coded ["bits", "value"] := ⟨_, _, F9, PySem.W.mg_of X G a9, F9.binds fun _ _ _ _ _ _ us hl => match us, hl with | [_, _], _ => rfl⟩
  have D_value_in : Dfn K mg "value_in" s_value_in ["bits", "row"] := ⟨_, _, F10, PySem.W.mg_of X G a10, F10.binds fun _ _ _ _ _ _ us hl => match us, hl with | [_, _], _ => rfl⟩
  have D_flipped : Dfn K mg "flipped" s_flipped ["row", "places"] := ⟨_, _, F11, PySem.W.mg_of X G a11, F11.binds fun _ _ _ _ _ _ us hl => match us, hl with | [_, _], _ => rfl⟩
  have D_mended : Dfn K mg "mended" s_mended ["bits", "row"] := ⟨_, _, F12, PySem.W.mg_of X G a12, F12.binds fun _ _ _ _ _ _ us hl => match us, hl with | [_, _], _ => rfl⟩
  have D_Memory___init__ : MtdI K mg "Memory" "Memory.__init__" s_Memory___init__ ["self", "cells", "bits"] := ⟨_, _, _, aC_Memory, PySem.W.mg_of X G aC_Memory, ⟨mk_Memory, a13, j13, kp_Memory⟩, F13, F13.binds fun _ _ _ _ _ _ us hl => match us, hl with | [_, _, _], _ => rfl⟩
  have D_Memory_row_at : Mtd K "Memory" "row_at" "Memory.row_at" s_Memory_row_at ["self", "cell"] := ⟨_, _, _, aC_Memory, CL_Memory, ⟨a14, j14, k14⟩, F14, F14.binds fun _ _ _ _ _ _ us hl => match us, hl with | [_, _], _ => rfl⟩
  have D_Memory_state_at : Mtd K "Memory" "state_at" "Memory.state_at" s_Memory_state_at ["self", "cell"] := ⟨_, _, _, aC_Memory, CL_Memory, ⟨a15, j15, k15⟩, F15, F15.binds fun _ _ _ _ _ _ us hl => match us, hl with | [_, _], _ => rfl⟩
  have D_Memory_word_at : Mtd K "Memory" "word_at" "Memory.word_at" s_Memory_word_at ["self", "cell"] := ⟨_, _, _, aC_Memory, CL_Memory, ⟨a16, j16, k16⟩, F16, F16.binds fun _ _ _ _ _ _ us hl => match us, hl with | [_, _], _ => rfl⟩
  have D_Memory_write : Mtd K "Memory" "write" "Memory.write" s_Memory_write ["self", "cell", "value"] := ⟨_, _, _, aC_Memory, CL_Memory, ⟨a17, j17, k17⟩, F17, F17.binds fun _ _ _ _ _ _ us hl => match us, hl with | [_, _, _], _ => rfl⟩
  have D_Memory_read : Mtd K "Memory" "read" "Memory.read" s_Memory_read ["self", "cell"] := ⟨_, _, _, aC_Memory, CL_Memory, ⟨a18, j18, k18⟩, F18, F18.binds fun _ _ _ _ _ _ us hl => match us, hl with | [_, _], _ => rfl⟩
  have D_Memory_flip : Mtd K "Memory" "flip" "Memory.flip" s_Memory_flip ["self", "cell", "place"] := ⟨_, _, _, aC_Memory, CL_Memory, ⟨a19, j19, k19⟩, F19, F19.binds fun _ _ _ _ _ _ us hl => match us, hl with | [_, _, _], _ => rfl⟩
  have D_Memory_scrub : Mtd K "Memory" "scrub" "Memory.scrub" s_Memory_scrub ["self", "cell"] := ⟨_, _, _, aC_Memory, CL_Memory, ⟨a20, j20, k20⟩, F20, F20.binds fun _ _ _ _ _ _ us hl => match us, hl with | [_, _], _ => rfl⟩
  have D_Memory_scrub_all : Mtd K "Memory" "scrub_all" "Memory.scrub_all" s_Memory_scrub_all ["self"] := ⟨_, _, _, aC_Memory, CL_Memory, ⟨a21, j21, k21⟩, F21, F21.binds fun _ _ _ _ _ _ us hl => match us, hl with | [_], _ => rfl⟩
  have D__law_checks : Dfn K mg "_law_checks" s__law_checks ["_law_bits"] := ⟨_, _, F22, PySem.W.mg_of X G a22, F22.binds fun _ _ _ _ _ _ us hl => match us, hl with | [_], _ => rfl⟩
  have D__law_places : Dfn K mg "_law_places" s__law_places ["_law_bits"] := ⟨_, _, F23, PySem.W.mg_of X G a23, F23.binds fun _ _ _ _ _ _ us hl => match us, hl with | [_], _ => rfl⟩
  have D__law_value : Dfn K mg "_law_value" s__law_value ["_law_numbers_here", "_law_at", "_law_bits"] := ⟨_, _, F24, PySem.W.mg_of X G a24, F24.binds fun _ _ _ _ _ _ us hl => match us, hl with | [_, _, _], _ => rfl⟩
  have D__law_scrub : Dfn K mg "_law_scrub" s__law_scrub ["_law_memory", "_law_cell"] := ⟨_, _, F25, PySem.W.mg_of X G a25, F25.binds fun _ _ _ _ _ _ us hl => match us, hl with | [_, _], _ => rfl⟩
  have bt : Bt mg := ⟨PySem.W.mg_none_of X G z0, PySem.W.mg_none_of X G z1, PySem.W.mg_none_of X G z2, PySem.W.mg_none_of X G z3, PySem.W.mg_none_of X G z4, PySem.W.mg_none_of X G z5, PySem.W.mg_none_of X G z6, PySem.W.mg_none_of X G z7, PySem.W.mg_none_of X G z8, PySem.W.mg_none_of X G z9, PySem.W.mg_none_of X G z10, PySem.W.mg_none_of X G z11, PySem.W.mg_none_of X G z12, PySem.W.mg_none_of X G z13, PySem.W.mg_none_of X G z14, PySem.W.mg_none_of X G z15, PySem.W.mg_none_of X G z16, PySem.W.mg_none_of X G z17⟩
  refine ⟨PySem.W.fnOf "law" "law" (defArgs s_law) (defBody s_law) (defScope s_law) .none kV0 dc0 pm0 an0 cd0 ct0, fun s v => .of_eq rfl, fun base _ _ => ?_⟩
  have c__law_row := ok__law_row (P := l.prog) (w := w) (base := base) D__law_row  bt
  have c__law_numbers := ok__law_numbers (P := l.prog) (w := w) (base := base) D__law_numbers c__law_row bt
  have c_check_places := ok_check_places (P := l.prog) (w := w) (base := base) D_check_places  bt
  have c_places_of := ok_places_of (P := l.prog) (w := w) (base := base) D_places_of c_check_places bt
  have c_digits_of := ok_digits_of (P := l.prog) (w := w) (base := base) D_digits_of  bt
  have c_spot_of := ok_spot_of (P := l.prog) (w := w) (base := base) D_spot_of c_digits_of bt
  have c_state_of := ok_state_of (P := l.prog) (w := w) (base := base) D_state_of c_places_of c_digits_of c_spot_of bt
  have c_data_places := ok_data_places (P := l.prog) (w := w) (base := base) D_data_places c_check_places c_places_of bt
  have c_coded := ok_coded (P := l.prog) (w := w) (base := base) D_coded c_data_places c_digits_of c_spot_of bt
  have c_value_in := ok_value_in (P := l.prog) (w := w) (base := base) D_value_in c_data_places bt
  have c_flipped := ok_flipped (P := l.prog) (w := w) (base := base) D_flipped  bt
  have c_mended := ok_mended (P := l.prog) (w := w) (base := base) D_mended c_state_of c_flipped bt
  have c_Memory___init__ := ok_Memory___init__ (P := l.prog) (w := w) (base := base) D_Memory___init__ c_coded O_Memory T_Unm bt
  have c_Memory_row_at := ok_Memory_row_at (P := l.prog) (w := w) (base := base) D_Memory_row_at O_Memory T_Unm bt
  have c_Memory_state_at := ok_Memory_state_at (P := l.prog) (w := w) (base := base) D_Memory_state_at c_state_of O_Memory T_Unm bt
  have c_Memory_word_at := ok_Memory_word_at (P := l.prog) (w := w) (base := base) D_Memory_word_at c_mended O_Memory T_Unm bt
  have c_Memory_write := ok_Memory_write (P := l.prog) (w := w) (base := base) D_Memory_write c_coded O_Memory T_Unm bt
  have c_Memory_read := ok_Memory_read (P := l.prog) (w := w) (base := base) D_Memory_read c_value_in c_Memory_word_at O_Memory T_Unm bt
  have c_Memory_flip := ok_Memory_flip (P := l.prog) (w := w) (base := base) D_Memory_flip c_flipped O_Memory T_Unm bt
  have c_Memory_scrub := ok_Memory_scrub (P := l.prog) (w := w) (base := base) D_Memory_scrub c_Memory_word_at O_Memory T_Unm bt
  have c_Memory_scrub_all := ok_Memory_scrub_all (P := l.prog) (w := w) (base := base) D_Memory_scrub_all c_Memory_state_at c_Memory_scrub O_Memory T_Unm bt
  have c__law_checks := ok__law_checks (P := l.prog) (w := w) (base := base) D__law_checks O_Memory T_Unm bt
  have c__law_places := ok__law_places (P := l.prog) (w := w) (base := base) D__law_places c__law_checks O_Memory T_Unm bt
  have c__law_value := ok__law_value (P := l.prog) (w := w) (base := base) D__law_value O_Memory T_Unm bt
  have c__law_scrub := ok__law_scrub (P := l.prog) (w := w) (base := base) D__law_scrub c_Memory_scrub O_Memory T_Unm T_Far bt
  exact ok_law F0 c_state_of c_mended c_Memory___init__ c_Memory_row_at c_Memory_state_at c_Memory_scrub_all c_Memory_write c_Memory_flip c__law_numbers c__law_places c__law_value c__law_scrub O_Memory T_Unm T_Far bt
end
end K
open PySem PySem.W PyProof.Rows
set_option maxHeartbeats 0 in
theorem PySem.Challenge.cw_farword_k16_scrubbed_cells_holds : PySem.Challenge.rw_farword_k16_scrubbed_cells.Holds := by
  w_on; o_law; k_headL; (case hw => w_witness2)
  k_fill
  refine L2.walk_of (l := PySem.Challenge.rw_farword_k16_scrubbed_cells) (n := 63) (k := 8) (x := "_law_script") (CX := fun _ => L2.CX0) (sp := fun w => PL.spLaw _) rfl (by decide) rfl ⟨rfl, by decide, by decide⟩ (fun w h Y => PySem.W.kIn_of Y) ?F (fun _ H a ns hl _ hS => PL.law_sp hl hS) (fun _ _ _ _ _ h => h)
  case F =>
    intro w mg fa h KX G hmg
    refine' K.all_mk KX G hmg ?aC_Memory ?pg_Memory ?hd_Memory ?po_Memory ?sa_Memory ?mk_Memory ?kp_Memory ?na_Memory_cells ?na_Memory_bits ?na_Memory_held ?aC_Unmendable ?xL_Unmendable ?sa_Unmendable ?ga_Unmendable ?gg_Unmendable ?nb_Unmendable ?ai_Unmendable ?ti_Unmendable ?li_Unmendable ?ci_Unmendable ?ld_Unmendable ?lv_Unmendable ?lf_Unmendable ?lc_Unmendable ?kC_Unmendable ?eC_Unmendable ?vC_Unmendable ?tC_Unmendable ?hC_Unmendable ?iC_Unmendable ?sC_Unmendable ?su_Unmendable ?ei_Unmendable ?mr_Unmendable ?op_Unmendable ?gS_Unmendable ?tp_Unmendable ?aF ?hF1 ?hF2 ?hF3 ?hF4 ?hF5 ?a0 ?l0 ?c0 ?k0 ?a1 ?l1 ?c1 ?k1 ?a2 ?l2 ?c2 ?k2 ?a3 ?l3 ?c3 ?k3 ?a4 ?l4 ?c4 ?k4 ?a5 ?l5 ?c5 ?k5 ?a6 ?l6 ?c6 ?k6 ?a7 ?l7 ?c7 ?k7 ?a8 ?l8 ?c8 ?k8 ?a9 ?l9 ?c9 ?k9 ?a10 ?l10 ?c10 ?k10 ?a11 ?l11 ?c11 ?k11 ?a12 ?l12 ?c12 ?k12 ?a13 ?l13 ?c13 ?k13 ?j13 ?a14 ?l14 ?c14 ?k14 ?j14 ?a15 ?l15 ?c15 ?k15 ?j15 ?a16 ?l16 ?c16 ?k16 ?j16 ?a17 ?l17 ?c17 ?k17 ?j17 ?a18 ?l18 ?c18 ?k18 ?j18 ?a19 ?l19 ?c19 ?k19 ?j19 ?a20 ?l20 ?c20 ?k20 ?j20 ?a21 ?l21 ?c21 ?k21 ?j21 ?a22 ?l22 ?c22 ?k22 ?a23 ?l23 ?c23 ?k23 ?a24 ?l24 ?c24 ?k24 ?a25 ?l25 ?c25 ?k25 ?z0 ?z1 ?z2 ?z3 ?z4 ?z5 ?z6 ?z7 ?z8 ?z9 ?z10 ?z11 ?z12 ?z13 ?z14 ?z15 ?z16 ?z17
    (case aC_Memory => k_is)
    (case pg_Memory => k_is)
    (case hd_Memory => k_is)
    (case po_Memory => k_is)
    (case sa_Memory => k_is)
    (case mk_Memory => k_is)
    (case kp_Memory => k_is)
    (case na_Memory_cells => k_is)
    (case na_Memory_bits => k_is)
    (case na_Memory_held => k_is)
    (case aC_Unmendable => k_is)
    (case xL_Unmendable => k_is)
    (case sa_Unmendable => k_is)
    (case ga_Unmendable => k_is)
    (case gg_Unmendable => k_is)
    (case nb_Unmendable => k_is)
    (case ai_Unmendable => k_is)
    (case ti_Unmendable => k_is)
    (case li_Unmendable => k_is)
    (case ci_Unmendable => k_is)
    (case ld_Unmendable => k_is)
    (case lv_Unmendable => first | rfl | k_is)
    (case lf_Unmendable => first | rfl | decide +kernel)
    (case lc_Unmendable => k_is)
    (case kC_Unmendable => k_is)
    (case eC_Unmendable => k_is)
    (case vC_Unmendable => k_is)
    (case tC_Unmendable => k_is)
    (case hC_Unmendable => k_is)
    (case iC_Unmendable => k_is)
    (case sC_Unmendable => first | rfl | k_is)
    (case su_Unmendable => first | ks_is | k_is | rfl)
    (case ei_Unmendable => first | k_is | k_exc | rfl)
    (case mr_Unmendable => first | k_is | rfl)
    (case op_Unmendable => k_is)
    (case gS_Unmendable => k_is)
    (case tp_Unmendable => first | rfl | decide +kernel)
    (case aF => k_is)
    (case hF1 => k_is)
    (case hF2 => k_is)
    (case hF3 => k_is)
    (case hF4 => first | k_is | rfl)
    (case hF5 => first | k_is | rfl)
    (case a0 => k_is)
    (case l0 => k_is)
    (case c0 => k_is)
    (case k0 => k_is)
    (case a1 => k_is)
    (case l1 => k_is)
    (case c1 => k_is)
    (case k1 => k_is)
    (case a2 => k_is)
    (case l2 => k_is)
    (case c2 => k_is)
    (case k2 => k_is)
    (case a3 => k_is)
    (case l3 => k_is)
    (case c3 => k_is)
    (case k3 => k_is)
    (case a4 => k_is)
    (case l4 => k_is)
    (case c4 => k_is)
    (case k4 => k_is)
    (case a5 => k_is)
    (case l5 => k_is)
    (case c5 => k_is)
    (case k5 => k_is)
    (case a6 => k_is)
    (case l6 => k_is)
    (case c6 => k_is)
    (case k6 => k_is)
    (case a7 => k_is)
    (case l7 => k_is)
    (case c7 => k_is)
    (case k7 => k_is)
    (case a8 => k_is)
    (case l8 => k_is)
    (case c8 => k_is)
    (case k8 => k_is)
    (case a9 => k_is)
    (case l9 => k_is)
    (case c9 => k_is)
    (case k9 => k_is)
    (case a10 => k_is)
    (case l10 => k_is)
    (case c10 => k_is)
    (case k10 => k_is)
    (case a11 => k_is)
    (case l11 => k_is)
    (case c11 => k_is)
    (case k11 => k_is)
    (case a12 => k_is)
    (case l12 => k_is)
    (case c12 => k_is)
    (case k12 => k_is)
    (case a13 => k_is)
    (case l13 => k_is)
    (case c13 => k_is)
    (case k13 => k_is)
    (case j13 => first | k_is | rfl)
    (case a14 => k_is)
    (case l14 => k_is)
    (case c14 => k_is)
    (case k14 => k_is)
    (case j14 => first | k_is | rfl)
    (case a15 => k_is)
    (case l15 => k_is)
    (case c15 => k_is)
    (case k15 => k_is)
    (case j15 => first | k_is | rfl)
    (case a16 => k_is)
    (case l16 => k_is)
    (case c16 => k_is)
    (case k16 => k_is)
    (case j16 => first | k_is | rfl)
    (case a17 => k_is)
    (case l17 => k_is)
    (case c17 => k_is)
    (case k17 => k_is)
    (case j17 => first | k_is | rfl)
    (case a18 => k_is)
    (case l18 => k_is)
    (case c18 => k_is)
    (case k18 => k_is)
    (case j18 => first | k_is | rfl)
    (case a19 => k_is)
    (case l19 => k_is)
    (case c19 => k_is)
    (case k19 => k_is)
    (case j19 => first | k_is | rfl)
    (case a20 => k_is)
    (case l20 => k_is)
    (case c20 => k_is)
    (case k20 => k_is)
    (case j20 => first | k_is | rfl)
    (case a21 => k_is)
    (case l21 => k_is)
    (case c21 => k_is)
    (case k21 => k_is)
    (case j21 => first | k_is | rfl)
    (case a22 => k_is)
    (case l22 => k_is)
    (case c22 => k_is)
    (case k22 => k_is)
    (case a23 => k_is)
    (case l23 => k_is)
    (case c23 => k_is)
    (case k23 => k_is)
    (case a24 => k_is)
    (case l24 => k_is)
    (case c24 => k_is)
    (case k24 => k_is)
    (case a25 => k_is)
    (case l25 => k_is)
    (case c25 => k_is)
    (case k25 => k_is)
    (case z0 => k_is)
    (case z1 => k_is)
    (case z2 => k_is)
    (case z3 => k_is)
    (case z4 => k_is)
    (case z5 => k_is)
    (case z6 => k_is)
    (case z7 => k_is)
    (case z8 => k_is)
    (case z9 => k_is)
    (case z10 => k_is)
    (case z11 => k_is)
    (case z12 => k_is)
    (case z13 => k_is)
    (case z14 => k_is)
    (case z15 => k_is)
    (case z16 => k_is)
    (case z17 => k_is)


