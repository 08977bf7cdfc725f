import PyProof.Rows.All
import Wide.All
import OpenK.AllK
import Wide.FinOn
import HandS.ForMost
import HandS.Flow
import HandS.Style
import HandS.Wide
import HandS.WideBits
import HandS.Walk
import HandS.EndBits
import HandS.Deep
import HandS.IsInst
import HandS.TupAny
import HandS.Text
import HandS.Conv
import HandS.NoneIn
import HandS.SetFor
import HandS.SortInts
import HandS.ExcValue
import KE.SortData
import PyProof.TupleOfSeq
import HandS.Strs
import HandS.SetKeys
import HandS.ExcOwn
import HandS.WordsExc
import HandS.ExcField
import KE.KExcIs
import HandS.Dict
import HandS.RaiseMore
import HandS.DictComp
import HandS.ListItems
import HandS.ExcIs
import HandS.TryOnly
import HandS.Property
import KE.KTupSum
import KE.DataMinMax
import HandS.TupSets
import HandS.Zip
import HandS.TupLe
import KE.KAssignIn
import KE.SortKeyHeap
import KE.KSuperObj
import HandS.SortKw
import KE.OsRunLaw
import PySem.Challenge.RW_farword_k30_rest
set_option Elab.async false
set_option linter.all false
set_option maxRecDepth 100000
set_option maxHeartbeats 2000000
/-! PL: symbolic running of a def over plain data (PyData), on top of the hand layer. -/
namespace PL
open PySem PySem.Spec PyProof.Rows L2

abbrev D := PyData
/-- what was known stays known -/
def Ex (H H' : Hp) : Prop := ∀ a o, H a = some o → H' a = some o
theorem Ex.refl (H : Hp) : Ex H H := fun _ _ h => h
theorem Ex.trans {H H1 H2 : Hp} (a : Ex H H1) (b : Ex H1 H2) : Ex H H2 := fun x o h => b x o (a x o h)
theorem Ex.new {H : Hp} {p : Addr} {o : HO} (h : H p = none) : Ex H (upd H p o) := fun a u e => by
  rw [upd_ne (ne_of_none e h)]
  exact e
theorem Ex.rd {H H' : Hp} {a : Addr} {u : HO} (e : Ex H H') (h : Rd H a u) : Rd H' a u := by
  rcases h with h | ⟨o, h⟩
  · exact .inl (e a _ h)
  · exact .inr ⟨o, e a _ h⟩
theorem Ex.sl {K : PySem.W.Frag} {H H' : Hp} {a : Addr} {xs : List V} (e : Ex H H') (h : SqL K H a xs) : SqL K H' a xs := by
  rcases h with h | h
  · exact .inl (e.rd h)
  · exact .inr h
theorem Ex.st {K : PySem.W.Frag} {H H' : Hp} {a : Addr} {xs : List V} (e : Ex H H') (h : SqT K H a xs) : SqT K H' a xs := by
  rcases h with h | h
  · exact .inl (e.rd h)
  · exact .inr h
theorem Ex.none {H H' : Hp} (e : Ex H H') {a : Addr} (h : H' a = none) : H a = none := by
  cases q : H a with
  | none => rfl
  | some o =>
    rw [e a o q] at h
    cases h
mutual
theorem dpUp {K : PySem.W.Frag} {H H' : Hp} (e : Ex H H') {v : V} {d : D} : Dp K H v d → Dp K H' v d
  | .non => .non
  | .bl b => .bl b
  | .int i => .int i
  | .str x => .str x
  | .lst s h => .lst (e.sl s) (dpsUp e h)
  | .tup s h => .tup (e.st s) (dpsUp e h)
theorem dpsUp {K : PySem.W.Frag} {H H' : Hp} (e : Ex H H') {vs : List V} {ds : List D} : DpAll K H vs ds → DpAll K H' vs ds
  | .nil => .nil
  | .cons h t => .cons (dpUp e h) (dpsUp e t)
end
theorem dps_len {K : PySem.W.Frag} {H : Hp} : ∀ {vs : List V} {ds : List D}, DpAll K H vs ds → vs.length = ds.length
  | _, _, .nil => rfl
  | _, _, .cons _ t => by
    rw [List.length_cons, List.length_cons, dps_len t]
theorem dps_get {K : PySem.W.Frag} {H : Hp} : ∀ {vs : List V} {ds : List D} {i : Nat} {d : D}, DpAll K H vs ds → ds[i]? = some d → ∃ v, vs[i]? = some v ∧ Dp K H v d
  | _, _, _, _, .nil, e => by simp at e
  | _, _, 0, _, .cons h _, e => by
    simp only [List.getElem?_cons_zero, Option.some.injEq] at e
    subst e
    exact ⟨_, rfl, h⟩
  | _, _, i + 1, d, .cons _ t, e => by
    obtain ⟨v, h1, h2⟩ := dps_get (i := i) (d := d) t (by simpa using e)
    exact ⟨v, by simpa using h1, h2⟩
theorem dps_getv {K : PySem.W.Frag} {H : Hp} : ∀ {vs : List V} {ds : List D} {i : Nat} {v : V}, DpAll K H vs ds → vs[i]? = some v → ∃ d, ds[i]? = some d ∧ Dp K H v d
  | _, _, _, _, .nil, e => by simp at e
  | _, _, 0, _, .cons h _, e => by
    simp only [List.getElem?_cons_zero, Option.some.injEq] at e
    subst e
    exact ⟨_, rfl, h⟩
  | _, _, i + 1, v, .cons _ t, e => by
    obtain ⟨d, h1, h2⟩ := dps_getv (i := i) (v := v) t (by simpa using e)
    exact ⟨d, by simpa using h1, h2⟩
theorem dps_app {K : PySem.W.Frag} {H : Hp} : ∀ {vs us : List V} {ds es : List D}, DpAll K H vs ds → DpAll K H us es → DpAll K H (vs ++ us) (ds ++ es)
  | _, _, _, _, .nil, s => s
  | _, _, _, _, .cons h t, s => .cons h (dps_app t s)
theorem dps_take {K : PySem.W.Frag} {H : Hp} : ∀ {vs : List V} {ds : List D} (n : Nat), DpAll K H vs ds → DpAll K H (vs.take n) (ds.take n)
  | _, _, 0, _ => .nil
  | _, _, _ + 1, .nil => .nil
  | _, _, n + 1, .cons h t => .cons h (dps_take n t)
theorem dps_drop {K : PySem.W.Frag} {H : Hp} : ∀ {vs : List V} {ds : List D} (n : Nat), DpAll K H vs ds → DpAll K H (vs.drop n) (ds.drop n)
  | _, _, 0, r => r
  | _, _, _ + 1, .nil => .nil
  | _, _, n + 1, .cons _ t => dps_drop n t
theorem dps_ints {K : PySem.W.Frag} {H : Hp} : ∀ ns : List Int, DpAll K H (ns.map V.int) (ns.map PyData.int)
  | [] => .nil
  | n :: r => .cons (.int n) (dps_ints r)
theorem dps_strs_inv {K : PySem.W.Frag} {H : Hp} : ∀ {ns : List Str} {vs : List V}, DpAll K H vs (ns.map PyData.str) → vs = ns.map V.str
  | [], _, .nil => rfl
  | n :: r, _, .cons (.str _) t => by
    rw [dps_strs_inv t, List.map_cons]

/-! ### what a slot holds -/
/-- a thing that is not changed any more -/
structure Mn where
  p : PySem.W.Frag → Hp → V → Prop
  up : ∀ {K H H' v}, Ex H H' → p K H v → p K H' v
def datP (d : D) : Mn := ⟨fun K H v => Dp K H v d, fun e h => dpUp e h⟩
/-- a thing of our own, which may be changed: B what is not changed any more, H the heap, F its places -/
structure Ow where
  p : PySem.W.Frag → Hp → Hp → V → List Addr → Prop
  upB : ∀ {K B B' H v F}, Ex B B' → p K B H v F → p K B' H v F
  loc : ∀ {K B H H' v F}, (∀ a ∈ F, H' a = H a) → p K B H v F → p K B H' v F
  dom : ∀ {K B H v F}, p K B H v F → ∀ a ∈ F, H a ≠ none
def lstO (ds : List D) : Ow where
  p := fun K B H v F => ∃ a vs, v = .ref a ∧ F = [a] ∧ H a = some (.lst vs) ∧ DpAll K B vs ds
  upB := fun e ⟨a, vs, h1, h2, h3, h4⟩ => ⟨a, vs, h1, h2, h3, dpsUp e h4⟩
  loc := fun e ⟨a, vs, h1, h2, h3, h4⟩ => ⟨a, vs, h1, h2, (e a (by rw [h2]; exact List.mem_cons_self)).trans h3, h4⟩
  dom := fun ⟨a, vs, h1, h2, h3, h4⟩ b hb => by
    rw [h2] at hb
    rw [List.mem_singleton.mp hb, h3]
    exact fun z => nomatch z
inductive Sl
  | any
  | pr (P : Mn)
  | ob (P : Ow)
abbrev Sl.dat (d : D) : Sl := .pr (datP d)
abbrev Sl.own (ds : List D) : Sl := .ob (lstO ds)
def SlR (K : PySem.W.Frag) (B H : Hp) (o : Option (Option V)) (F : List Addr) : Sl → Prop
  | .any => True
  | .pr P => ∃ v, o = some (some v) ∧ P.p K B v
  | .ob P => ∃ v, o = some (some v) ∧ P.p K B H v F
abbrev Ga := List Sl
structure En (K : PySem.W.Frag) (B H : Hp) (σ : L2.St) (Γ : Ga) (Fs : Nat → List Addr) : Prop where
  bh : Ex B H
  len : σ.length = Γ.length
  at_ : ∀ i s, Γ[i]? = some s → SlR K B H σ[i]? (Fs i) s
  fre : ∀ i a, a ∈ Fs i → B a = none ∧ H a ≠ none
  dis : ∀ i j a, a ∈ Fs i → a ∈ Fs j → i = j
/-- behind an evaluation -/
structure Nw (B H B2 H2 : Hp) : Prop where
  bb : Ex B B2
  bh : Ex B2 H2
  hh : Ex H H2
  nu : ∀ a, B a = none → H a ≠ none → B2 a = none
theorem Nw.same {B H : Hp} (h : Ex B H) : Nw B H B H := ⟨.refl B, h, .refl H, fun _ h _ => h⟩
theorem Nw.trans {B H B1 H1 B2 H2 : Hp} (a : Nw B H B1 H1) (b : Nw B1 H1 B2 H2) : Nw B H B2 H2 where
  bb := a.bb.trans b.bb
  bh := b.bh
  hh := a.hh.trans b.hh
  nu := fun x h1 h2 => b.nu x (a.nu x h1 h2) fun z => h2 (a.hh.none z)
/-- a new object, frozen at once -/
theorem Nw.new {B H : Hp} {p : Addr} {o : HO} (h : Ex B H) (hp : H p = none) : Nw B H (upd B p o) (upd H p o) where
  bb := Ex.new (h.none hp)
  bh := fun a u e => by
    by_cases ha : a = p
    · subst ha
      rw [upd_same] at e ⊢
      exact e
    · rw [upd_ne ha] at e ⊢
      exact h a u e
  hh := Ex.new hp
  nu := fun a h1 h2 => by
    have : a ≠ p := fun z => h2 (by rw [z]; exact hp)
    rw [upd_ne this]
    exact h1
/-- a new object that is not frozen -/
theorem Nw.lay {B H : Hp} {p : Addr} {o : HO} (h : Ex B H) (hp : H p = none) : Nw B H B (upd H p o) where
  bb := .refl B
  bh := h.trans (Ex.new hp)
  hh := Ex.new hp
  nu := fun _ h1 _ => h1
/-- a thing that lies in the heap is frozen -/
theorem Nw.ice {B H : Hp} {p : Addr} {o : HO} (h : Ex B H) (hb : B p = none) (hp : H p = some o) : Ex B (upd B p o) ∧ Ex (upd B p o) H :=
  ⟨Ex.new hb, fun a u e => by
    by_cases ha : a = p
    · subst ha
      rw [upd_same] at e
      rw [hp]
      exact e
    · rw [upd_ne ha] at e
      exact h a u e⟩
section
variable {K : PySem.W.Frag} {B H B2 H2 : Hp} {σ : L2.St} {Γ : Ga} {Fs : Nat → List Addr}
theorem En.nw (E : En K B H σ Γ Fs) (n : Nw B H B2 H2) : En K B2 H2 σ Γ Fs where
  bh := n.bh
  len := E.len
  at_ := fun i s hs => by
    have := E.at_ i s hs
    cases s with
    | any => trivial
    | pr P =>
      obtain ⟨v, h1, h2⟩ := this
      exact ⟨v, h1, P.up n.bb h2⟩
    | ob P =>
      obtain ⟨v, h1, h2⟩ := this
      refine ⟨v, h1, P.loc (fun a ha => ?_) (P.upB n.bb h2)⟩
      cases q : H a with
      | none => exact absurd q (E.fre i a ha).2
      | some o => exact n.hh a o q
  fre := fun i a ha => ⟨n.nu a (E.fre i a ha).1 (E.fre i a ha).2, fun z => (E.fre i a ha).2 (n.hh.none z)⟩
  dis := E.dis
end
/-- the end of an evaluation -/
abbrev EQ (X : Cx) (B H : Hp) (P : Mn) (Q : VK) : Prop := ∀ v B2 H2, Nw B H B2 H2 → P.p X.K B2 v → Q v H2

/-! ### readings by what they are -/
def wpE (X : Cx) (e : Expr) : TE := fun σ H Q => ∀ pins s, Inv X pins σ H s → wpAny (model X.prog X.w) X.A (eval e X.env) (EP X pins σ Q) X.xe s
def wpT (X : Cx) (e : Expr) : TT := fun σ H Q => ∀ pins s, Inv X pins σ H s → wpAny (model X.prog X.w) X.A (isTrue e X.env (eval e X.env)) (TP X pins σ Q) X.xe s
def wpW (X : Cx) (e : Expr) : TT := fun σ H Q => ∀ whole pins s, Inv X pins σ H s → wpAny (model X.prog X.w) X.A (isTrue e X.env whole) (TP X pins σ Q) X.xe s
def wpA (X : Cx) (es : List Expr) : TA := fun σ H Q => ∀ pos pins s, Inv X pins σ H s → wpAny (model X.prog X.w) X.A (spliced (backTo pos (starEach es X.env))) (AP X pins σ Q) X.xe s
def wpS (X : Cx) (st : Stmt) : TS := fun D σ H => ∀ pins s, Inv X pins σ H s → wpAny (model X.prog X.w) X.A (exec st X.env) (SP X pins D) X.xe s
def wpSs (X : Cx) (st : List Stmt) : TS := fun D σ H => ∀ pins s, Inv X pins σ H s → wpAny (model X.prog X.w) X.A (execs st X.env) (SP X pins D) X.xe s
section
variable {X : Cx} {e : Expr} {es : List Expr} {st : Stmt} {sts : List Stmt}
theorem sE : PE X e (wpE X e) := ⟨fun pins s _ _ _ I h => h pins s I⟩
theorem sT : PT X e (wpT X e) := ⟨fun pins s _ _ _ I h => h pins s I⟩
theorem sW : PW X e (wpW X e) := ⟨fun wh pins s _ _ _ I h => h wh pins s I⟩
theorem sA : PA X es (wpA X es) := ⟨fun pos pins s _ _ _ I h => h pos pins s I⟩
theorem sS : PS X st (wpS X st) := ⟨fun pins s _ _ _ I h => h pins s I⟩
theorem sSs : PSs X sts (wpSs X sts) := ⟨fun pins s _ _ _ I h => h pins s I⟩
theorem toE {t : TE} {σ : L2.St} {H : Hp} {Q : VK} (p : PE X e t) (h : t σ H Q) : wpE X e σ H Q := fun pins s I => p.run pins s σ H Q I h
theorem toT {t : TT} {σ : L2.St} {H : Hp} {Q : Bool → Hp → Prop} (p : PT X e t) (h : t σ H Q) : wpT X e σ H Q := fun pins s I => p.run pins s σ H Q I h
theorem toW {t : TT} {σ : L2.St} {H : Hp} {Q : Bool → Hp → Prop} (p : PW X e t) (h : t σ H Q) : wpW X e σ H Q := fun wh pins s I => p.run wh pins s σ H Q I h
theorem toA {t : TA} {σ : L2.St} {H : Hp} {Q : List V → Hp → Prop} (p : PA X es t) (h : t σ H Q) : wpA X es σ H Q := fun pos pins s I => p.run pos pins s σ H Q I h
theorem toS {t : TS} {σ : L2.St} {H : Hp} {D : Ends} (p : PS X st t) (h : t D σ H) : wpS X st D σ H := fun pins s I => p.run pins s σ H D I h
theorem toSs {t : TS} {σ : L2.St} {H : Hp} {D : Ends} (p : PSs X sts t) (h : t D σ H) : wpSs X sts D σ H := fun pins s I => p.run pins s σ H D I h
end

/-! ### an expression over slots -/
structure GoP (X : Cx) (Γ : Ga) (e : Expr) (P : Mn) : Prop where
  run : ∀ σ B H Fs, En X.K B H σ Γ Fs → ∀ Q, EQ X B H P Q → wpE X e σ H Q
instance {X : Cx} {Γ : Ga} {e : Expr} {P : Mn} : CoeFun (GoP X Γ e P) fun _ => ∀ σ B H Fs, En X.K B H σ Γ Fs → ∀ Q, EQ X B H P Q → wpE X e σ H Q := ⟨GoP.run⟩
abbrev Go (X : Cx) (Γ : Ga) (e : Expr) (d : D) : Prop := GoP X Γ e (datP d)
/-- a new list -/
structure GoN (X : Cx) (Γ : Ga) (e : Expr) (ds : List D) : Prop where
  run : ∀ σ B H Fs, En X.K B H σ Γ Fs → ∀ Q : VK,
  (∀ p vs B2 H2, Nw B H B2 H2 → H p = none → B2 p = none → H2 p = some (.lst vs) → DpAll X.K B2 vs ds → Q (.ref p) H2) → wpE X e σ H Q
instance {X : Cx} {Γ : Ga} {e : Expr} {ds : List D} : CoeFun (GoN X Γ e ds) fun _ => ∀ σ B H Fs, En X.K B H σ Γ Fs → ∀ Q : VK,
    (∀ p vs B2 H2, Nw B H B2 H2 → H p = none → B2 p = none → H2 p = some (.lst vs) → DpAll X.K B2 vs ds → Q (.ref p) H2) → wpE X e σ H Q := ⟨GoN.run⟩
structure GoT (X : Cx) (Γ : Ga) (e : Expr) (b : Bool) : Prop where
  run : ∀ σ B H Fs, En X.K B H σ Γ Fs → ∀ Q : Bool → Hp → Prop, (∀ B2 H2, Nw B H B2 H2 → Q b H2) → wpT X e σ H Q
instance {X : Cx} {Γ : Ga} {e : Expr} {b : Bool} : CoeFun (GoT X Γ e b) fun _ => ∀ σ B H Fs, En X.K B H σ Γ Fs → ∀ Q : Bool → Hp → Prop, (∀ B2 H2, Nw B H B2 H2 → Q b H2) → wpT X e σ H Q := ⟨GoT.run⟩
structure GoW (X : Cx) (Γ : Ga) (e : Expr) (b : Bool) : Prop where
  run : ∀ σ B H Fs, En X.K B H σ Γ Fs → ∀ Q : Bool → Hp → Prop, (∀ B2 H2, Nw B H B2 H2 → Q b H2) → wpW X e σ H Q
instance {X : Cx} {Γ : Ga} {e : Expr} {b : Bool} : CoeFun (GoW X Γ e b) fun _ => ∀ σ B H Fs, En X.K B H σ Γ Fs → ∀ Q : Bool → Hp → Prop, (∀ B2 H2, Nw B H B2 H2 → Q b H2) → wpW X e σ H Q := ⟨GoW.run⟩
def wpC (X : Cx) (op : CmpOp) (a b : Expr) : TE := fun σ H Q => ∀ pins s, Inv X pins σ H s → wpAny (model X.prog X.w) X.A (eval a X.env) (fun v s₁ => wpAny (model X.prog X.w) X.A (eval b X.env) (fun u s₂ => wpAny (model X.prog X.w) X.A (compareOp op v u) (EP X pins σ Q) X.xe s₂) X.xe s₁) X.xe s
theorem sC {X : Cx} {op : CmpOp} {a b : Expr} : PC X op a b (wpC X op a b) := ⟨fun pins s _ _ _ I h => h pins s I⟩
theorem toC {X : Cx} {op : CmpOp} {a b : Expr} {t : TE} {σ : L2.St} {H : Hp} {Q : VK} (p : PC X op a b t) (h : t σ H Q) : wpC X op a b σ H Q := fun pins s I => p.run pins s σ H Q I h
theorem pc_op {X : Cx} {op : CmpOp} {a b : Expr} {r : V → V → Hp → VK → Prop} {ta tb : TE} (ho : OpR X (compareOp op) r) (ha : PE X a ta) (hb : PE X b tb) : PC X op a b (tOp r ta tb) :=
  ⟨fun pins s σ H Q I h => bin ha hb I h fun v u s2 x y H2 I2 rx ry q => ho pins s2 σ H2 x y v u Q I2 rx ry q⟩
structure GoC (X : Cx) (Γ : Ga) (op : CmpOp) (a b : Expr) (k : Bool) : Prop where
  run : ∀ σ B H Fs, En X.K B H σ Γ Fs → ∀ Q : VK, (∀ B2 H2, Nw B H B2 H2 → Q (.bl k) H2) → wpC X op a b σ H Q
instance {X : Cx} {Γ : Ga} {op : CmpOp} {a b : Expr} {k : Bool} : CoeFun (GoC X Γ op a b k) fun _ => ∀ σ B H Fs, En X.K B H σ Γ Fs → ∀ Q : VK, (∀ B2 H2, Nw B H B2 H2 → Q (.bl k) H2) → wpC X op a b σ H Q := ⟨GoC.run⟩
inductive MnAll (K : PySem.W.Frag) (B : Hp) : List V → List Mn → Prop
  | nil : MnAll K B [] []
  | cons {v : V} {vs : List V} {P : Mn} {Ps : List Mn} : P.p K B v → MnAll K B vs Ps → MnAll K B (v :: vs) (P :: Ps)
structure GoA (X : Cx) (Γ : Ga) (es : List Expr) (Ps : List Mn) : Prop where
  run : ∀ σ B H Fs, En X.K B H σ Γ Fs → ∀ Q : List V → Hp → Prop, (∀ vs B2 H2, Nw B H B2 H2 → MnAll X.K B2 vs Ps → Q vs H2) → wpA X es σ H Q
instance {X : Cx} {Γ : Ga} {es : List Expr} {Ps : List Mn} : CoeFun (GoA X Γ es Ps) fun _ => ∀ σ B H Fs, En X.K B H σ Γ Fs → ∀ Q : List V → Hp → Prop, (∀ vs B2 H2, Nw B H B2 H2 → MnAll X.K B2 vs Ps → Q vs H2) → wpA X es σ H Q := ⟨GoA.run⟩
theorem MnAll.up {K : PySem.W.Frag} {B B' : Hp} (e : Ex B B') : ∀ {vs : List V} {Ps : List Mn}, MnAll K B vs Ps → MnAll K B' vs Ps
  | _, _, .nil => .nil
  | _, _, .cons (P := P) h t => .cons (P.up e h) (MnAll.up e t)
theorem MnAll.dps {K : PySem.W.Frag} {B : Hp} : ∀ {ds : List D} {vs : List V}, MnAll K B vs (ds.map datP) → DpAll K B vs ds
  | [], _, .nil => .nil
  | _ :: _, _, .cons h t => .cons h (MnAll.dps t)
section
variable {X : Cx} {Γ : Ga} {e a b : Expr} {es : List Expr} {P : Mn} {d : D} {ds : List D} {pos : Pos}
theorem go_of_new (h : GoN X Γ e ds) : Go X Γ e (.list ds) := .mk fun σ B H Fs E Q q => h σ B H Fs E Q fun p vs B2 H2 n hp hb hH hd => by
  obtain ⟨e1, e2⟩ := Nw.ice n.bh hb hH
  refine q _ _ _ ⟨n.bb.trans e1, e2, n.hh, fun a h1 h2 => ?_⟩ (show Dp _ _ _ _ from .lst (.of upd_same) (dpsUp e1 hd))
  have : a ≠ p := fun z => h2 (by rw [z]; exact hp)
  rw [upd_ne this]
  exact n.nu a h1 h2
theorem go_is {d' : D} (h : Go X Γ e d) (he : d = d') : Go X Γ e d' := he ▸ h
theorem goT_is {b b' : Bool} (h : GoT X Γ e b) (he : b = b') : GoT X Γ e b' := he ▸ h
theorem goP_imp {P' : Mn} (h : GoP X Γ e P) (hp : ∀ K B v, P.p K B v → P'.p K B v) : GoP X Γ e P' := .mk fun σ B H Fs E Q q => h σ B H Fs E Q fun v B2 H2 n r => q v B2 H2 n (hp _ _ _ r)
theorem goA_nil : GoA X Γ [] [] := .mk fun σ B H Fs E Q q => toA pa_nil (q [] B H (.same E.bh) .nil)
theorem goA_cons {Ps : List Mn} (he : GoP X Γ e P) (ht : GoA X Γ es Ps) (hs : starEach (e :: es) X.env = (false, eval e X.env) :: starEach es X.env := by rfl) : GoA X Γ (e :: es) (P :: Ps) := .mk fun σ B H Fs E Q q =>
  toA (pa_cons sE sA hs) (he σ B H Fs E _ fun v B1 H1 n1 r1 => ht σ B1 H1 Fs (E.nw n1) _ fun vs B2 H2 n2 r2 => q (v :: vs) B2 H2 (n1.trans n2) (.cons (P.up n2.bb r1) r2))
theorem go_var (i : Nat) {x : Str} (hΓ : Γ[i]? = some (.pr P) := by rfl) (hN : X.N[i]? = some x := by rfl) (hv : Vis X.env.scope x := by first | exact Or.inl rfl | exact Or.inr (Or.inl rfl) | exact Or.inr (Or.inr rfl))
    (hd : (x == ("__debug__" : Str)) = false := by decide) (hcd : (x == ("__classdict__" : Str)) = false := by decide) : GoP X Γ (.Name x pos) P := .mk fun σ B H Fs E Q q => by
  obtain ⟨v, h1, h2⟩ := E.at_ i _ hΓ
  exact toE (pe_var hN hv hd hcd) ⟨v, h1, q v B H (.same E.bh) h2⟩
theorem go_int {i : Int} {j} : Go X Γ (.Constant (.int i) j pos) (.int i) := .mk fun σ B H Fs E Q q => toE pe_int (q _ B H (.same E.bh) (Dp.int i))
theorem go_bl {i : Bool} {j} : Go X Γ (.Constant (.bool i) j pos) (.bool i) := .mk fun σ B H Fs E Q q => toE pe_bl (q _ B H (.same E.bh) (Dp.bl i))
theorem go_non {j} : Go X Γ (.Constant .none j pos) .none := .mk fun σ B H Fs E Q q => toE pe_non (q _ B H (.same E.bh) Dp.non)
theorem go_str {x : Str} {j} : Go X Γ (.Constant (.str x) j pos) (.str x) := .mk fun σ B H Fs E Q q => toE pe_str (q _ B H (.same E.bh) (Dp.str x))
/-- an operator on flat values -/
theorem go_op2 {op : Operator} {r : V → V → Hp → VK → Prop} {x y : D} {P : Mn} (ho : OpR X (binaryOp op) r) (ha : Go X Γ a x) (hb : Go X Γ b y)
    (hr : ∀ v w B H, Ex B H → Dp X.K B v x → Dp X.K B w y → ∀ Q, EQ X B H P Q → r v w H Q) : GoP X Γ (.BinOp a op b pos) P := .mk fun σ B H Fs E Q q =>
  toE (pe_op ho sE sE) (ha σ B H Fs E _ fun v B1 H1 n1 r1 => hb σ B1 H1 Fs (E.nw n1) _ fun w B2 H2 n2 r2 =>
    hr v w B2 H2 n2.bh (dpUp n2.bb r1) r2 Q fun z B3 H3 n3 r3 => q z B3 H3 ((n1.trans n2).trans n3) r3)
theorem go_cmp2 {op : CmpOp} {r : V → V → Hp → VK → Prop} {x y : D} {c : Bool} (ho : OpR X (compareOp op) r) (ha : Go X Γ a x) (hb : Go X Γ b y)
    (hr : ∀ v w B H, Ex B H → Dp X.K B v x → Dp X.K B w y → ∀ Q : VK, Q (.bl c) H → r v w H Q) : GoC X Γ op a b c := .mk fun σ B H Fs E Q q =>
  toC (pc_op ho sE sE) (ha σ B H Fs E _ fun v B1 H1 n1 r1 => hb σ B1 H1 Fs (E.nw n1) _ fun w B2 H2 n2 r2 =>
    hr v w B2 H2 n2.bh (dpUp n2.bb r1) r2 Q (q B2 H2 (n1.trans n2)))
theorem goc {op : CmpOp} {k : Bool} (h : GoC X Γ op a b k) (hm : behindInMarks op b = false := by first | exact nobehind _ (by decide) (by decide) | rfl) : Go X Γ (.Compare a [op] [b] pos) (.bool k) := .mk fun σ B H Fs E Q q =>
  toE (pe_cmp sC hm) (h σ B H Fs E _ fun B2 H2 n => q _ B2 H2 n (Dp.bl k))
theorem gocT {op : CmpOp} {k : Bool} (h : GoC X Γ op a b k) (hm : behindInMarks op b = false := by first | exact nobehind _ (by decide) (by decide) | rfl) : GoT X Γ (.Compare a [op] [b] pos) k := .mk fun σ B H Fs E Q q =>
  toT (pt_cmp sC hm) (h σ B H Fs E _ fun B2 H2 n => ⟨k, rfl, q B2 H2 n⟩)
end

/-! ### arithmetic, comparisons -/
section
variable {X : Cx} {Γ : Ga} {e a b c : Expr} {es : List Expr} {P : Mn} {d : D} {ds : List D} {pos : Pos}
theorem dp_int {K : PySem.W.Frag} {H : Hp} {v : V} {i : Int} (h : Dp K H v (.int i)) : v = .int i := by
  cases h
  rfl
theorem dp_bl {K : PySem.W.Frag} {H : Hp} {v : V} {i : Bool} (h : Dp K H v (.bool i)) : v = .bl i := by
  cases h
  rfl
theorem dp_str {K : PySem.W.Frag} {H : Hp} {v : V} {i : Str} (h : Dp K H v (.str i)) : v = .str i := by
  cases h
  rfl
theorem dp_non {K : PySem.W.Frag} {H : Hp} {v : V} (h : Dp K H v .none) : v = .non := by
  cases h
  rfl
theorem dp_lst {K : PySem.W.Frag} {H : Hp} {v : V} (h : Dp K H v (.list ds)) : ∃ a vs, v = .ref a ∧ SqL K H a vs ∧ DpAll K H vs ds := by
  cases h with
  | lst h1 h2 => exact ⟨_, _, rfl, h1, h2⟩
theorem dp_tup {K : PySem.W.Frag} {H : Hp} {v : V} (h : Dp K H v (.tuple ds)) : ∃ a vs, v = .ref a ∧ SqT K H a vs ∧ DpAll K H vs ds := by
  cases h with
  | tup h1 h2 => exact ⟨_, _, rfl, h1, h2⟩
theorem go_ar {op : Operator} {C : Int → Int → Prop} {g : Int → Int → Int} {i j : Int} (ho : OpR X (binaryOp op) (rI C fun i j => .int (g i j))) (ha : Go X Γ a (.int i)) (hb : Go X Γ b (.int j)) (hc : C i j) :
    Go X Γ (.BinOp a op b pos) (.int (g i j)) := go_op2 ho ha hb fun v w B H hB r1 r2 Q q => by
  have e1 := dp_int r1
  have e2 := dp_int r2
  subst e1 e2
  exact ⟨i, j, rfl, rfl, hc, q _ B H (.same hB) (Dp.int _)⟩
theorem go_ar0 {op : Operator} {g : Int → Int → Int} {i j : Int} (ho : OpR X (binaryOp op) (rI0 fun i j => .int (g i j))) (ha : Go X Γ a (.int i)) (hb : Go X Γ b (.int j)) :
    Go X Γ (.BinOp a op b pos) (.int (g i j)) := go_op2 ho ha hb fun v w B H hB r1 r2 Q q => by
  have e1 := dp_int r1
  have e2 := dp_int r2
  subst e1 e2
  exact ⟨i, j, rfl, rfl, q _ B H (.same hB) (Dp.int _)⟩
theorem go_add {i j : Int} (ha : Go X Γ a (.int i)) (hb : Go X Γ b (.int j)) : Go X Γ (.BinOp a .Add b pos) (.int (i + j)) := go_ar0 op_add ha hb
theorem go_sub {i j : Int} (ha : Go X Γ a (.int i)) (hb : Go X Γ b (.int j)) : Go X Γ (.BinOp a .Sub b pos) (.int (i - j)) := go_ar0 op_sub ha hb
theorem go_mul {i j : Int} (ha : Go X Γ a (.int i)) (hb : Go X Γ b (.int j)) (hc : CMul i j) : Go X Γ (.BinOp a .Mult b pos) (.int (i * j)) := go_ar op_mul ha hb hc
theorem go_fdiv {i j : Int} (ha : Go X Γ a (.int i)) (hb : Go X Γ b (.int j)) (hc : CDiv i j) : Go X Γ (.BinOp a .FloorDiv b pos) (.int (i / j)) := go_ar op_fdiv ha hb hc
theorem go_mod {i j : Int} (ha : Go X Γ a (.int i)) (hb : Go X Γ b (.int j)) (hc : 0 < j) : Go X Γ (.BinOp a .Mod b pos) (.int (i % j)) := go_ar op_mod ha hb hc
theorem go_pow {i j : Int} (ha : Go X Γ a (.int i)) (hb : Go X Γ b (.int j)) (hc : CPow i j) : Go X Γ (.BinOp a .Pow b pos) (.int (i ^ j.toNat)) := go_ar op_pow ha hb hc
theorem go_shl {i j : Int} (ha : Go X Γ a (.int i)) (hb : Go X Γ b (.int j)) (hc : CPow i j) : Go X Γ (.BinOp a .LShift b pos) (.int (i * 2 ^ j.toNat)) := go_ar (g := fun i j => i * 2 ^ j.toNat) op_shl ha hb hc
theorem go_shr {i j : Int} (ha : Go X Γ a (.int i)) (hb : Go X Γ b (.int j)) (hc : 0 ≤ j) : Go X Γ (.BinOp a .RShift b pos) (.int (i / 2 ^ j.toNat)) := go_ar (g := fun i j => i / 2 ^ j.toNat) (C := fun _ j => 0 ≤ j) op_shr ha hb hc
theorem go_and {i j : Int} (ha : Go X Γ a (.int i)) (hb : Go X Γ b (.int j)) : Go X Γ (.BinOp a .BitAnd b pos) (.int (Builtin.bitAnd i j)) := go_ar0 op_and ha hb
theorem go_or {i j : Int} (ha : Go X Γ a (.int i)) (hb : Go X Γ b (.int j)) : Go X Γ (.BinOp a .BitOr b pos) (.int (Builtin.bitOr i j)) := go_ar0 op_or ha hb
theorem go_xor {i j : Int} (ha : Go X Γ a (.int i)) (hb : Go X Γ b (.int j)) : Go X Γ (.BinOp a .BitXor b pos) (.int (Builtin.bitXor i j)) := go_ar0 op_xor ha hb
theorem go_addS {i j : Str} (ha : Go X Γ a (.str i)) (hb : Go X Γ b (.str j)) (hl : i.length + j.length ≤ sizeLine) : Go X Γ (.BinOp a .Add b pos) (.str (i ++ j)) := go_op2 op_add_str ha hb fun v w B H hB r1 r2 Q q => by
  have e1 := dp_str r1
  have e2 := dp_str r2
  subst e1 e2
  exact ⟨i, j, rfl, rfl, hl, q _ B H (.same hB) (Dp.str _)⟩
theorem go_cmpI {op : CmpOp} {g : Int → Int → Bool} {i j : Int} (ho : OpR X (compareOp op) (rI0 fun i j => .bl (g i j))) (ha : Go X Γ a (.int i)) (hb : Go X Γ b (.int j)) :
    GoC X Γ op a b (g i j) := go_cmp2 ho ha hb (fun v w B H hB r1 r2 Q q => ⟨i, j, dp_int r1, dp_int r2, q⟩)
theorem gc_lt {i j : Int} (ha : Go X Γ a (.int i)) (hb : Go X Γ b (.int j)) : GoC X Γ .Lt a b (decide (i < j)) := go_cmpI op_lt ha hb
theorem gc_le {i j : Int} (ha : Go X Γ a (.int i)) (hb : Go X Γ b (.int j)) : GoC X Γ .LtE a b (decide (i ≤ j)) := go_cmpI op_le ha hb
theorem gc_gt {i j : Int} (ha : Go X Γ a (.int i)) (hb : Go X Γ b (.int j)) : GoC X Γ .Gt a b (decide (j < i)) := go_cmpI op_gt ha hb
theorem gc_ge {i j : Int} (ha : Go X Γ a (.int i)) (hb : Go X Γ b (.int j)) : GoC X Γ .GtE a b (decide (j ≤ i)) := go_cmpI op_ge ha hb
theorem gc_eqI {i j : Int} (ha : Go X Γ a (.int i)) (hb : Go X Γ b (.int j)) : GoC X Γ .Eq a b (decide (i = j)) := go_cmp2 op_eq ha hb (fun v w B H hB r1 r2 Q q => by
  rw [dp_int r1, dp_int r2]
  refine ⟨rfl, ?_⟩
  rw [show decide (V.int i = V.int j) = decide (i = j) from decide_eq_decide.mpr ⟨V.int.inj, congrArg _⟩]
  exact q)
theorem gc_neI {i j : Int} (ha : Go X Γ a (.int i)) (hb : Go X Γ b (.int j)) : GoC X Γ .NotEq a b (!decide (i = j)) := go_cmp2 op_ne ha hb (fun v w B H hB r1 r2 Q q => by
  rw [dp_int r1, dp_int r2]
  refine ⟨rfl, ?_⟩
  rw [show decide (V.int i = V.int j) = decide (i = j) from decide_eq_decide.mpr ⟨V.int.inj, congrArg _⟩]
  exact q)
theorem gc_eqS {i j : Str} (ha : Go X Γ a (.str i)) (hb : Go X Γ b (.str j)) : GoC X Γ .Eq a b (decide (i = j)) := go_cmp2 op_eq ha hb (fun v w B H hB r1 r2 Q q => by
  rw [dp_str r1, dp_str r2]
  refine ⟨rfl, ?_⟩
  rw [show decide (V.str i = V.str j) = decide (i = j) from decide_eq_decide.mpr ⟨V.str.inj, congrArg _⟩]
  exact q)
theorem gc_neS {i j : Str} (ha : Go X Γ a (.str i)) (hb : Go X Γ b (.str j)) : GoC X Γ .NotEq a b (!decide (i = j)) := go_cmp2 op_ne ha hb (fun v w B H hB r1 r2 Q q => by
  rw [dp_str r1, dp_str r2]
  refine ⟨rfl, ?_⟩
  rw [show decide (V.str i = V.str j) = decide (i = j) from decide_eq_decide.mpr ⟨V.str.inj, congrArg _⟩]
  exact q)
theorem gc_eqB {i j : Bool} (ha : Go X Γ a (.bool i)) (hb : Go X Γ b (.bool j)) : GoC X Γ .Eq a b (i == j) := go_cmp2 op_eq ha hb (fun v w B H hB r1 r2 Q q => by
  rw [dp_bl r1, dp_bl r2]
  refine ⟨rfl, ?_⟩
  rw [show decide (V.bl i = V.bl j) = (i == j) by cases i <;> cases j <;> rfl]
  exact q)
theorem gc_neB {i j : Bool} (ha : Go X Γ a (.bool i)) (hb : Go X Γ b (.bool j)) : GoC X Γ .NotEq a b (i != j) := go_cmp2 op_ne ha hb (fun v w B H hB r1 r2 Q q => by
  rw [dp_bl r1, dp_bl r2]
  refine ⟨rfl, ?_⟩
  rw [show (!decide (V.bl i = V.bl j)) = (i != j) by cases i <;> cases j <;> rfl]
  exact q)
/-- room for what runs below -/
def UOk (X : Cx) : Prop := X.A.units + 200 < cLine
theorem UOk.of {X : Cx} {k : Nat} (r : Room k X.A) : UOk X := by
  have := r.un
  show X.A.units + 200 < cLine
  omega
theorem UOk.u65 {X : Cx} (h : UOk X) : X.A.units + 65 < cLine := by
  have h' : X.A.units + 200 < cLine := h
  omega
theorem UOk.u64 {X : Cx} (h : UOk X) : X.A.units + 64 < cLine := by
  have h' : X.A.units + 200 < cLine := h
  omega
theorem UOk.u1 {X : Cx} (h : UOk X) : X.A.units + 1 < cLine := by
  have h' : X.A.units + 200 < cLine := h
  omega
theorem gc_eqD {x y : D} (hu : UOk X) (ha : Go X Γ a x) (hb : Go X Γ b y) (h1 : SeqAt.shaped x = true) (h2 : SeqAt.shaped y = true) : GoC X Γ .Eq a b (PyData.eqv x y) :=
  go_cmp2 (op_eqD hu.u64) ha hb (fun v w B H hB r1 r2 Q q => ⟨x, y, dpUp hB r1, dpUp hB r2, h1, h2, q⟩)
theorem gc_neD {x y : D} (hu : UOk X) (ha : Go X Γ a x) (hb : Go X Γ b y) (h1 : SeqAt.shaped x = true) (h2 : SeqAt.shaped y = true) : GoC X Γ .NotEq a b (!PyData.eqv x y) :=
  go_cmp2 (op_neD hu.u64) ha hb (fun v w B H hB r1 r2 Q q => ⟨x, y, dpUp hB r1, dpUp hB r2, h1, h2, q⟩)
/-- x in xs, by == of data of any depth -/
def hasD (ds : List D) (d : D) : Bool := ds.any fun z => PyData.eqv z d
end

/-! ### tests, truth, in -/
section
variable {X : Cx} {Γ : Ga} {e a b c : Expr} {es rest : List Expr} {P : Mn} {d : D} {ds : List D} {pos : Pos} {k l : Bool}
theorem goW_T (h : GoW X Γ e k) : GoT X Γ e k := .mk fun σ B H Fs E Q q pins s I => h σ B H Fs E Q q (eval e X.env) pins s I
/-- a test that is a value of its own -/
theorem goT_val (h : Go X Γ e (.bool k)) (he : ∀ whole, isTrue e X.env whole = (do let v ← whole; standAt e.pos; holding [v] (truthy v)) := by intro _; rfl) : GoT X Γ e k := .mk fun σ B H Fs E Q q =>
  toT (pt_val sE he) (h σ B H Fs E _ fun v B1 H1 n1 r1 => ⟨k, dp_bl r1, q B1 H1 n1⟩)
theorem goT_not (h : GoT X Γ a k) : GoT X Γ (.UnaryOp .Not a pos) (!k) := .mk fun σ B H Fs E Q q => toT (pt_not sT) (h σ B H Fs E _ fun B1 H1 n1 => q B1 H1 n1)
theorem goW_and1 (h : GoT X Γ a k) : GoW X Γ (.BoolOp .And [a] pos) k := .mk fun σ B H Fs E Q q => toW (pw_and1 sT) (h σ B H Fs E _ q)
theorem goW_or1 (h : GoT X Γ a k) : GoW X Γ (.BoolOp .Or [a] pos) k := .mk fun σ B H Fs E Q q => toW (pw_or1 sT) (h σ B H Fs E _ q)
theorem goW_and (h : GoT X Γ a k) (h2 : k = true → GoW X Γ (.BoolOp .And (b :: rest) pos) l) : GoW X Γ (.BoolOp .And (a :: b :: rest) pos) (k && l) := .mk fun σ B H Fs E Q q =>
  toW (pw_and sT sW) (h σ B H Fs E _ fun B1 H1 n1 => by
    cases k with
    | false => exact iteF (q B1 H1 n1)
    | true => exact iteT (h2 rfl σ B1 H1 Fs (E.nw n1) _ fun B2 H2 n2 => q B2 H2 (n1.trans n2)))
theorem goW_or (h : GoT X Γ a k) (h2 : k = false → GoW X Γ (.BoolOp .Or (b :: rest) pos) l) : GoW X Γ (.BoolOp .Or (a :: b :: rest) pos) (k || l) := .mk fun σ B H Fs E Q q =>
  toW (pw_or sT sW) (h σ B H Fs E _ fun B1 H1 n1 => by
    cases k with
    | true => exact iteT (q B1 H1 n1)
    | false => exact iteF (h2 rfl σ B1 H1 Fs (E.nw n1) _ fun B2 H2 n2 => q B2 H2 (n1.trans n2)))
/-! the same as values -/
theorem go_one {op} (h : GoP X Γ a P) : GoP X Γ (.BoolOp op [a] pos) P := .mk fun σ B H Fs E Q q => toE (pe_one sE) (h σ B H Fs E Q q)
theorem go_andV (h : Go X Γ a (.bool k)) (h2 : k = true → Go X Γ (.BoolOp .And (b :: rest) pos) (.bool l)) : Go X Γ (.BoolOp .And (a :: b :: rest) pos) (.bool (k && l)) := .mk fun σ B H Fs E Q q =>
  toE (pe_and sE sE) (h σ B H Fs E _ fun v B1 H1 n1 r1 => ⟨k, dp_bl r1, by
    cases k with
    | false => exact iteF (q _ B1 H1 n1 (Dp.bl _))
    | true => exact iteT (h2 rfl σ B1 H1 Fs (E.nw n1) _ fun v B2 H2 n2 r2 => q v B2 H2 (n1.trans n2) r2)⟩)
theorem go_orV (h : Go X Γ a (.bool k)) (h2 : k = false → Go X Γ (.BoolOp .Or (b :: rest) pos) (.bool l)) : Go X Γ (.BoolOp .Or (a :: b :: rest) pos) (.bool (k || l)) := .mk fun σ B H Fs E Q q =>
  toE (pe_or sE sE) (h σ B H Fs E _ fun v B1 H1 n1 r1 => ⟨k, dp_bl r1, by
    cases k with
    | true => exact iteT (q _ B1 H1 n1 (Dp.bl _))
    | false => exact iteF (h2 rfl σ B1 H1 Fs (E.nw n1) _ fun v B2 H2 n2 r2 => q v B2 H2 (n1.trans n2) r2)⟩)
theorem go_notV (h : Go X Γ a (.bool k)) : Go X Γ (.UnaryOp .Not a pos) (.bool (!k)) := .mk fun σ B H Fs E Q q =>
  toE (pe_not sE) (h σ B H Fs E _ fun v B1 H1 n1 r1 => ⟨k, dp_bl r1, q _ B1 H1 n1 (Dp.bl _)⟩)
theorem go_ifE (h : GoT X Γ c k) (h1 : k = true → GoP X Γ a P) (h2 : k = false → GoP X Γ b P) : GoP X Γ (.IfExp c a b pos) P := .mk fun σ B H Fs E Q q =>
  toE (pe_ifExp sT sE sE) (h σ B H Fs E _ fun B1 H1 n1 => by
    cases k with
    | true => exact iteT (h1 rfl σ B1 H1 Fs (E.nw n1) _ fun v B2 H2 n2 r2 => q v B2 H2 (n1.trans n2) r2)
    | false => exact iteF (h2 rfl σ B1 H1 Fs (E.nw n1) _ fun v B2 H2 n2 r2 => q v B2 H2 (n1.trans n2) r2))
def isNonD : D → Bool
  | .none => true
  | _ => false
theorem gc_isN {j pos'} (h : Go X Γ a d) : GoC X Γ .Is a (.Constant .none j pos') (isNonD d) := .mk fun σ B H Fs E Q q =>
  toC (pc_isN sE) (h σ B H Fs E _ fun v B1 H1 n1 r1 => by
    have : decide (v = V.non) = isNonD d := by
      cases r1 <;> rfl
    show Q (.bl (decide (v = V.non))) H1
    rw [this]
    exact q B1 H1 n1)
theorem gc_notN {j pos'} (h : Go X Γ a d) : GoC X Γ .IsNot a (.Constant .none j pos') (!isNonD d) := .mk fun σ B H Fs E Q q =>
  toC (pc_notN sE) (h σ B H Fs E _ fun v B1 H1 n1 r1 => by
    have : decide (v = V.non) = isNonD d := by
      cases r1 <;> rfl
    show Q (.bl (!decide (v = V.non))) H1
    rw [this]
    exact q B1 H1 n1)
/-- the truth of a value -/
def truD : D → Bool
  | .none => false
  | .bool b => b
  | .int i => i != 0
  | .str y => (y.length : Int) != 0
  | .list xs => (xs.length : Int) != 0
  | .tuple xs => (xs.length : Int) != 0
  | .dict _ => false
theorem goT_tru (h : Go X Γ a d) (hd : ∀ y, d = .str y → y.length ≤ sizeLine) (hn : ∀ z, d ≠ .dict z) (he : ∀ whole, isTrue a X.env whole = (do let v ← whole; standAt a.pos; holding [v] (truthy v)) := by intro _; rfl) : GoT X Γ a (truD d) := .mk fun σ B H Fs E Q q =>
  toT (pt_truth sE he) (h σ B H Fs E _ fun v B1 H1 n1 r1 => by
    have e1 := n1.bh
    cases r1 with
    | non => exact ⟨_, rfl, q B1 H1 n1⟩
    | bl b => exact ⟨_, rfl, q B1 H1 n1⟩
    | int b => exact ⟨_, rfl, q B1 H1 n1⟩
    | str y => exact ⟨_, ⟨hd y rfl, rfl⟩, q B1 H1 n1⟩
    | lst h1 h2 =>
      refine ⟨_, .inl ⟨_, e1.sl h1, rfl⟩, ?_⟩
      cases h2 <;> exact q B1 H1 n1
    | tup h1 h2 =>
      refine ⟨_, .inr (.inl ⟨_, e1.st h1, rfl⟩), ?_⟩
      cases h2 <;> exact q B1 H1 n1)
theorem gc_in {x : D} (hu : UOk X) (ha : Go X Γ a x) (hb : Go X Γ b (.list ds)) (h1 : SeqAt.shaped x = true) (h2 : SeqAt.shaped (.list ds) = true) : GoC X Γ .In a b (hasD ds x) :=
  go_cmp2 (op_inD hu.u65) ha hb (fun v w B H hB r1 r2 Q q => ⟨x, ds, dpUp hB r1, dpUp hB r2, h1, h2, q⟩)
theorem gc_notIn {x : D} (hu : UOk X) (ha : Go X Γ a x) (hb : Go X Γ b (.list ds)) (h1 : SeqAt.shaped x = true) (h2 : SeqAt.shaped (.list ds) = true) : GoC X Γ .NotIn a b (!hasD ds x) :=
  go_cmp2 (op_notInD hu.u65) ha hb (fun v w B H hB r1 r2 Q q => ⟨x, ds, dpUp hB r1, dpUp hB r2, h1, h2, q⟩)
end

/-! ### displays, subscripts, slices -/
abbrev GoDs (X : Cx) (Γ : Ga) (es : List Expr) (ds : List D) : Prop := GoA X Γ es (ds.map datP)
def slD (ds : List D) (lo hi : Option Int) : List D := (ds.drop (HT.sIx ds.length 0 lo)).take (HT.sIx ds.length ds.length hi - HT.sIx ds.length 0 lo)
theorem dps_cut {K : PySem.W.Frag} {H : Hp} {vs : List V} {ds : List D} (h : DpAll K H vs ds) (lo hi : Option Int) : DpAll K H (cutV vs lo hi) (slD ds lo hi) := by
  unfold cutV slD
  rw [dps_len h]
  exact dps_take _ (dps_drop _ h)
theorem dps_atI {K : PySem.W.Frag} {H : Hp} {vs : List V} {ds : List D} {i : Int} {d : D} (h : DpAll K H vs ds) (e : atI ds i = some d) : ∃ v, atI vs i = some v ∧ Dp K H v d := by
  unfold atI at e ⊢
  rw [dps_len h]
  cases q : ixN ds.length i with
  | none =>
    rw [q] at e
    cases e
  | some j =>
    rw [q] at e
    exact dps_get h e
def GoO (X : Cx) (Γ : Ga) : Option Expr → Option Int → Prop
  | none, o => o = none
  | some e, o => ∃ i, o = some i ∧ Go X Γ e (.int i)
section
variable {X : Cx} {Γ : Ga} {e a b c : Expr} {es rest : List Expr} {P : Mn} {d : D} {ds : List D} {pos : Pos} {k l : Bool}
theorem god_nil : GoDs X Γ [] [] := goA_nil
theorem god_cons (he : Go X Γ e d) (ht : GoDs X Γ es ds) (hs : starEach (e :: es) X.env = (false, eval e X.env) :: starEach es X.env := by rfl) : GoDs X Γ (e :: es) (d :: ds) := goA_cons he ht hs
theorem goN_lst (h : GoDs X Γ es ds) (hl : ds.length ≤ sizeLine := by show _ ≤ _; simp only [List.length]; decide) : GoN X Γ (.List es pos) ds := .mk fun σ B H Fs E Q q =>
  toE (pe_lst sA) (h σ B H Fs E _ fun vs B1 H1 n1 r1 => by
    have r2 := r1.dps
    refine ⟨by rw [dps_len r2]; exact hl, fun p hp => ?_⟩
    exact q p vs B1 _ (n1.trans (.lay n1.bh hp)) (n1.hh.none hp) (n1.bh.none hp) upd_same r2)
theorem go_lst (h : GoDs X Γ es ds) (hl : ds.length ≤ sizeLine := by show _ ≤ _; simp only [List.length]; decide) : Go X Γ (.List es pos) (.list ds) := go_of_new (goN_lst h hl)
theorem go_tup {j} (h : GoDs X Γ es ds) (hl : ds.length ≤ sizeLine := by show _ ≤ _; simp only [List.length]; decide) : Go X Γ (.Tuple es j pos) (.tuple ds) := .mk fun σ B H Fs E Q q =>
  toE (pe_tup sA) (h σ B H Fs E _ fun vs B1 H1 n1 r1 => by
    have r2 := r1.dps
    refine ⟨by rw [dps_len r2]; exact hl, fun p hp => ?_⟩
    have n2 := Nw.new (o := .tup vs) n1.bh hp
    exact q _ _ _ (n1.trans n2) (Dp.tup (.of upd_same) (dpsUp n2.bb r2)))
theorem go_ixL {i : Int} (ha : Go X Γ a (.list ds)) (hb : Go X Γ b (.int i)) (hi : atI ds i = some d) (hs : PlainIx b := by exact fun _ _ => rfl) : Go X Γ (.Subscript a b pos) d := .mk fun σ B H Fs E Q q =>
  toE (pe_ix ix_list sE sE hs) (ha σ B H Fs E _ fun v B1 H1 n1 r1 => hb σ B1 H1 Fs (E.nw n1) _ fun w B2 H2 n2 r2 => by
    obtain ⟨p, vs, e1, e2, e3⟩ := dp_lst (dpUp n2.bb r1)
    obtain ⟨u, e4, e5⟩ := dps_atI e3 hi
    exact ⟨p, vs, i, u, e1, dp_int r2, n2.bh.sl e2, e4, q u B2 H2 (n1.trans n2) e5⟩)
theorem go_ixT {i : Int} (ha : Go X Γ a (.tuple ds)) (hb : Go X Γ b (.int i)) (hi : atI ds i = some d) (hs : PlainIx b := by exact fun _ _ => rfl) : Go X Γ (.Subscript a b pos) d := .mk fun σ B H Fs E Q q =>
  toE (pe_ix ix_tup sE sE hs) (ha σ B H Fs E _ fun v B1 H1 n1 r1 => hb σ B1 H1 Fs (E.nw n1) _ fun w B2 H2 n2 r2 => by
    obtain ⟨p, vs, e1, e2, e3⟩ := dp_tup (dpUp n2.bb r1)
    obtain ⟨u, e4, e5⟩ := dps_atI e3 hi
    exact ⟨p, vs, i, u, e1, dp_int r2, n2.bh.st e2, e4, q u B2 H2 (n1.trans n2) e5⟩)
theorem go_ixS {i : Int} {z : Str} {m : Nat} (ha : Go X Γ a (.str z)) (hb : Go X Γ b (.int i)) (hl : z.length ≤ sizeLine) (hi : atI z.cps.toList i = some m) (hs : PlainIx b := by exact fun _ _ => rfl) : Go X Γ (.Subscript a b pos) (.str ⟨#[m]⟩) := .mk fun σ B H Fs E Q q =>
  toE (pe_ix ix_str sE sE hs) (ha σ B H Fs E _ fun v B1 H1 n1 r1 => hb σ B1 H1 Fs (E.nw n1) _ fun w B2 H2 n2 r2 =>
    ⟨z, i, m, dp_str r1, dp_int r2, hl, hi, q _ B2 H2 (n1.trans n2) (Dp.str _)⟩)
def wpO (X : Cx) : Option Expr → TO
  | none => tNoPart
  | some e => tPart (wpE X e)
theorem sO : ∀ {o : Option Expr}, PO X o (wpO X o)
  | none => po_none
  | some _ => po_some sE
theorem goO_run {oe : Option Expr} {o : Option Int} (h : GoO X Γ oe o) {σ B H Fs} (E : En X.K B H σ Γ Fs) {Q : Option Int → Hp → Prop} (q : ∀ B2 H2, Nw B H B2 H2 → Q o H2) : wpO X oe σ H Q := by
  cases oe with
  | none =>
    have e : o = none := h
    subst e
    exact q B H (.same E.bh)
  | some e =>
    obtain ⟨i, rfl, h⟩ := h
    exact h σ B H Fs E _ fun v B1 H1 n1 r1 => ⟨i, dp_int r1, q B1 H1 n1⟩
theorem goO_none : GoO X Γ none none := rfl
theorem goO_some {i : Int} (h : Go X Γ e (.int i)) : GoO X Γ (some e) (some i) := ⟨i, rfl, h⟩
theorem goN_sl {lo hi : Option Expr} {x y : Option Int} {p2 : Pos} (ha : Go X Γ a (.list ds)) (hl : GoO X Γ lo x) (hh : GoO X Γ hi y) : GoN X Γ (.Subscript a (.Slice lo hi none p2) pos) (slD ds x y) := .mk fun σ B H Fs E Q q =>
  toE (pe_slice sl_list sE sO sO) (ha σ B H Fs E _ fun v B1 H1 n1 r1 => goO_run hl (E.nw n1) fun B2 H2 n2 => goO_run hh ((E.nw n1).nw n2) fun B3 H3 n3 => by
    obtain ⟨p, vs, e1, e2, e3⟩ := dp_lst (dpUp (n2.bb.trans n3.bb) r1)
    refine ⟨p, vs, e1, n3.bh.sl e2, fun l hl => ?_⟩
    have n := (n1.trans n2).trans n3
    exact q l _ B3 _ (n.trans (.lay n.bh hl)) (n.hh.none hl) (n.bh.none hl) upd_same (dps_cut e3 x y))
/-! ### calls of built-in functions -/
theorem go_callB {x : Str} {id : String} {r : List V → Hp → VK → Prop} {Ps : List Mn} {p : Pos} (hc : CallR X (.builtin id) r) (hg : Gl X x) (hm : X.mg x = none) (hv : bootBuiltins x = some (.builtin id)) (ha : GoA X Γ (e :: es) Ps)
    (hr : ∀ vs B H, Ex B H → MnAll X.K B vs Ps → ∀ Q, EQ X B H P Q → r vs H Q) (hn : x ≠ "__name__" := by decide) (hdb : (x == ("__debug__" : Str)) = false := by decide)
    (he : starEach (e :: es) X.env = (false, eval e X.env) :: starEach es X.env := by rfl) (hpl : (backTo pos (starEach es X.env)).any (·.1) = false := by rfl) : GoP X Γ (.Call (.Name x p) (e :: es) [] pos) P := .mk fun σ B H Fs E Q q =>
  toE (pe_callB hc hg hm hv sA hn hdb he hpl) (ha σ B H Fs E _ fun vs B1 H1 n1 r1 => hr vs B1 H1 n1.bh r1 Q fun v B2 H2 n2 r2 => q v B2 H2 (n1.trans n2) r2)
theorem go_callTy {x : Str} {id : String} {r : List V → Hp → VK → Prop} {Ps : List Mn} {p : Pos} (hc : CallR X (.type id) r) (hg : Gl X x) (hm : X.mg x = none) (hv : bootBuiltins x = some (.type id)) (ha : GoA X Γ (e :: es) Ps)
    (hr : ∀ vs B H, Ex B H → MnAll X.K B vs Ps → ∀ Q, EQ X B H P Q → r vs H Q) (hn : x ≠ "__name__" := by decide) (hdb : (x == ("__debug__" : Str)) = false := by decide)
    (he : starEach (e :: es) X.env = (false, eval e X.env) :: starEach es X.env := by rfl) (hpl : (backTo pos (starEach es X.env)).any (·.1) = false := by rfl) : GoP X Γ (.Call (.Name x p) (e :: es) [] pos) P := .mk fun σ B H Fs E Q q =>
  toE (pe_callTy hc hg hm hv sA hn hdb he hpl) (ha σ B H Fs E _ fun vs B1 H1 n1 r1 => hr vs B1 H1 n1.bh r1 Q fun v B2 H2 n2 r2 => q v B2 H2 (n1.trans n2) r2)
/-- a new list by a built-in function -/
theorem goN_callTy {x : Str} {id : String} {r : List V → Hp → VK → Prop} {Ps : List Mn} {p : Pos} (hc : CallR X (.type id) r) (hg : Gl X x) (hm : X.mg x = none) (hv : bootBuiltins x = some (.type id)) (ha : GoA X Γ (e :: es) Ps)
    (hr : ∀ vs B H, Ex B H → MnAll X.K B vs Ps → ∀ Q : VK, (∀ p us, H p = none → DpAll X.K B us ds → Q (.ref p) (upd H p (.lst us))) → r vs H Q) (hn : x ≠ "__name__" := by decide) (hdb : (x == ("__debug__" : Str)) = false := by decide)
    (he : starEach (e :: es) X.env = (false, eval e X.env) :: starEach es X.env := by rfl) (hpl : (backTo pos (starEach es X.env)).any (·.1) = false := by rfl) : GoN X Γ (.Call (.Name x p) (e :: es) [] pos) ds := .mk fun σ B H Fs E Q q =>
  toE (pe_callTy hc hg hm hv sA hn hdb he hpl) (ha σ B H Fs E _ fun vs B1 H1 n1 r1 => hr vs B1 H1 n1.bh r1 Q fun p us hp hd =>
    q p us B1 _ (n1.trans (.lay n1.bh hp)) (n1.hh.none hp) (n1.bh.none hp) upd_same hd)
theorem goN_callB {x : Str} {id : String} {r : List V → Hp → VK → Prop} {Ps : List Mn} {p : Pos} (hc : CallR X (.builtin id) r) (hg : Gl X x) (hm : X.mg x = none) (hv : bootBuiltins x = some (.builtin id)) (ha : GoA X Γ (e :: es) Ps)
    (hr : ∀ vs B H, Ex B H → MnAll X.K B vs Ps → ∀ Q : VK, (∀ p us, H p = none → DpAll X.K B us ds → Q (.ref p) (upd H p (.lst us))) → r vs H Q) (hn : x ≠ "__name__" := by decide) (hdb : (x == ("__debug__" : Str)) = false := by decide)
    (he : starEach (e :: es) X.env = (false, eval e X.env) :: starEach es X.env := by rfl) (hpl : (backTo pos (starEach es X.env)).any (·.1) = false := by rfl) : GoN X Γ (.Call (.Name x p) (e :: es) [] pos) ds := .mk fun σ B H Fs E Q q =>
  toE (pe_callB hc hg hm hv sA hn hdb he hpl) (ha σ B H Fs E _ fun vs B1 H1 n1 r1 => hr vs B1 H1 n1.bh r1 Q fun p us hp hd =>
    q p us B1 _ (n1.trans (.lay n1.bh hp)) (n1.hh.none hp) (n1.bh.none hp) upd_same hd)
theorem mn1 {K : PySem.W.Frag} {B : Hp} {vs : List V} {P : Mn} (h : MnAll K B vs [P]) : ∃ v, vs = [v] ∧ P.p K B v := by
  cases h with
  | cons h t =>
    cases t
    exact ⟨_, rfl, h⟩
theorem mn2 {K : PySem.W.Frag} {B : Hp} {vs : List V} {P P' : Mn} (h : MnAll K B vs [P, P']) : ∃ v w, vs = [v, w] ∧ P.p K B v ∧ P'.p K B w := by
  cases h with
  | cons h t =>
    obtain ⟨w, rfl, h2⟩ := mn1 t
    exact ⟨_, w, rfl, h, h2⟩
variable {p : Pos}
theorem go_len (ha : Go X Γ e (.list ds)) (hm : X.mg "len" = none) (hg : Gl X "len" := by rfl) (he : starEach [e] X.env = (false, eval e X.env) :: starEach [] X.env := by rfl) : Go X Γ (.Call (.Name "len" p) [e] [] pos) (.int ds.length) :=
  go_callB call_len_seq hg hm PySem.boot_len (goA_cons ha goA_nil he) (fun vs B H hB r Q q => by
    obtain ⟨v, rfl, h⟩ := mn1 r
    obtain ⟨p, us, rfl, h2, h3⟩ := dp_lst h
    refine ⟨p, us, rfl, .inl (hB.sl h2), ?_⟩
    rw [dps_len h3]
    exact q _ B H (.same hB) (Dp.int _)) (by decide) (by decide) he rfl
theorem go_lenT (ha : Go X Γ e (.tuple ds)) (hm : X.mg "len" = none) (hg : Gl X "len" := by rfl) (he : starEach [e] X.env = (false, eval e X.env) :: starEach [] X.env := by rfl) : Go X Γ (.Call (.Name "len" p) [e] [] pos) (.int ds.length) :=
  go_callB call_len_seq hg hm PySem.boot_len (goA_cons ha goA_nil he) (fun vs B H hB r Q q => by
    obtain ⟨v, rfl, h⟩ := mn1 r
    obtain ⟨p, us, rfl, h2, h3⟩ := dp_tup h
    refine ⟨p, us, rfl, .inr (hB.st h2), ?_⟩
    rw [dps_len h3]
    exact q _ B H (.same hB) (Dp.int _)) (by decide) (by decide) he rfl
theorem go_lenS {z : Str} (ha : Go X Γ e (.str z)) (hl : z.length ≤ sizeLine) (hm : X.mg "len" = none) (hg : Gl X "len" := by rfl) (he : starEach [e] X.env = (false, eval e X.env) :: starEach [] X.env := by rfl) : Go X Γ (.Call (.Name "len" p) [e] [] pos) (.int z.length) :=
  go_callB call_len_str hg hm PySem.boot_len (goA_cons ha goA_nil he) (fun vs B H hB r Q q => by
    obtain ⟨v, rfl, h⟩ := mn1 r
    have e1 := dp_str h
    subst e1
    exact ⟨z, rfl, hl, q _ B H (.same hB) (Dp.int _)⟩) (by decide) (by decide) he rfl
theorem boot_abs : bootBuiltins "abs" = some (.builtin "abs") := by decide +kernel
theorem go_abs {i : Int} (ha : Go X Γ e (.int i)) (hm : X.mg "abs" = none) (hg : Gl X "abs" := by rfl) (he : starEach [e] X.env = (false, eval e X.env) :: starEach [] X.env := by rfl) : Go X Γ (.Call (.Name "abs" p) [e] [] pos) (.int (if i < 0 then -i else i)) :=
  go_callB call_abs hg hm boot_abs (goA_cons ha goA_nil he) (fun vs B H hB r Q q => by
    obtain ⟨v, rfl, h⟩ := mn1 r
    have e1 := dp_int h
    subst e1
    exact ⟨i, rfl, q _ B H (.same hB) (Dp.int _)⟩) (by decide) (by decide) he rfl
theorem go_intI {i : Int} (ha : Go X Γ e (.int i)) (hm : X.mg "int" = none) (hg : Gl X "int" := by rfl) (he : starEach [e] X.env = (false, eval e X.env) :: starEach [] X.env := by rfl) : Go X Γ (.Call (.Name "int" p) [e] [] pos) (.int i) :=
  go_callTy call_int1 hg hm PyProof.Rows.boot_int (goA_cons ha goA_nil he) (fun vs B H hB r Q q => by
    obtain ⟨v, rfl, h⟩ := mn1 r
    have e1 := dp_int h
    subst e1
    exact .inl ⟨i, rfl, q _ B H (.same hB) (Dp.int _)⟩) (by decide) (by decide) he rfl
theorem go_intB (ha : Go X Γ e (.bool k)) (hm : X.mg "int" = none) (hg : Gl X "int" := by rfl) (he : starEach [e] X.env = (false, eval e X.env) :: starEach [] X.env := by rfl) : Go X Γ (.Call (.Name "int" p) [e] [] pos) (.int (if k then 1 else 0)) :=
  go_callTy call_int1 hg hm PyProof.Rows.boot_int (goA_cons ha goA_nil he) (fun vs B H hB r Q q => by
    obtain ⟨v, rfl, h⟩ := mn1 r
    have e1 := dp_bl h
    subst e1
    exact .inr ⟨k, rfl, q _ B H (.same hB) (Dp.int _)⟩) (by decide) (by decide) he rfl
theorem go_max2 {i j : Int} (hc : X.calm = true) (ha : Go X Γ a (.int i)) (hb : Go X Γ b (.int j)) (hm : X.mg "max" = none) (hg : Gl X "max" := by rfl) (he : starEach [a, b] X.env = (false, eval a X.env) :: starEach [b] X.env := by rfl) (he2 : starEach [b] X.env = (false, eval b X.env) :: starEach [] X.env := by rfl) :
    Go X Γ (.Call (.Name "max" p) [a, b] [] pos) (.int (if j > i then j else i)) :=
  go_callB (call_max2 hc) hg hm PyProof.Rows.boot_max (goA_cons ha (goA_cons hb goA_nil he2) he) (fun vs B H hB r Q q => by
    obtain ⟨v, w, rfl, h, h2⟩ := mn2 r
    have e1 := dp_int h
    have e2 := dp_int h2
    subst e1 e2
    exact ⟨i, j, rfl, q _ B H (.same hB) (Dp.int _)⟩) (by decide) (by decide) he (by rw [he2]; rfl)
theorem dps_bools_inv {K : PySem.W.Frag} {H : Hp} : ∀ {ns : List Bool} {vs : List V}, DpAll K H vs (ns.map PyData.bool) → vs = ns.map V.bl
  | [], _, .nil => rfl
  | n :: r, _, .cons (.bl _) t => by
    rw [dps_bools_inv t, List.map_cons]
theorem boot_all : bootBuiltins "all" = some (.builtin "all") := by decide +kernel
theorem boot_any : bootBuiltins "any" = some (.builtin "any") := by decide +kernel
theorem go_all {ns : List Bool} (hc : X.calm = true) (ha : Go X Γ e (.list (ns.map .bool))) (hm : X.mg "all" = none) (hg : Gl X "all" := by rfl) (he : starEach [e] X.env = (false, eval e X.env) :: starEach [] X.env := by rfl) : Go X Γ (.Call (.Name "all" p) [e] [] pos) (.bool (ns.all id)) :=
  go_callB (cr_all hc) hg hm boot_all (goA_cons ha goA_nil he) (fun vs B H hB r Q q => by
    obtain ⟨v, rfl, h⟩ := mn1 r
    obtain ⟨p, us, rfl, h2, h3⟩ := dp_lst h
    rw [dps_bools_inv h3] at h2
    exact ⟨p, ns, rfl, hB.sl h2, q _ B H (.same hB) (Dp.bl _)⟩) (by decide) (by decide) he rfl
theorem go_any {ns : List Bool} (hc : X.calm = true) (ha : Go X Γ e (.list (ns.map .bool))) (hm : X.mg "any" = none) (hg : Gl X "any" := by rfl) (he : starEach [e] X.env = (false, eval e X.env) :: starEach [] X.env := by rfl) : Go X Γ (.Call (.Name "any" p) [e] [] pos) (.bool (ns.any id)) :=
  go_callB (cr_any hc) hg hm boot_any (goA_cons ha goA_nil he) (fun vs B H hB r Q q => by
    obtain ⟨v, rfl, h⟩ := mn1 r
    obtain ⟨p, us, rfl, h2, h3⟩ := dp_lst h
    rw [dps_bools_inv h3] at h2
    exact ⟨p, ns, rfl, hB.sl h2, q _ B H (.same hB) (Dp.bl _)⟩) (by decide) (by decide) he rfl
theorem goN_list (ha : Go X Γ e (.list ds)) (hm : X.mg "list" = none) (hg : Gl X "list" := by rfl) (he : starEach [e] X.env = (false, eval e X.env) :: starEach [] X.env := by rfl) : GoN X Γ (.Call (.Name "list" p) [e] [] pos) ds :=
  goN_callTy call_list_of hg hm PyProof.Rows.boot_list (goA_cons ha goA_nil he) (fun vs B H hB r Q q => by
    obtain ⟨v, rfl, h⟩ := mn1 r
    obtain ⟨p, us, rfl, h2, h3⟩ := dp_lst h
    exact ⟨p, us, rfl, .inl (hB.sl h2), fun l hl => q l us hl h3⟩) (by decide) (by decide) he rfl
theorem goN_listT (ha : Go X Γ e (.tuple ds)) (hm : X.mg "list" = none) (hg : Gl X "list" := by rfl) (he : starEach [e] X.env = (false, eval e X.env) :: starEach [] X.env := by rfl) : GoN X Γ (.Call (.Name "list" p) [e] [] pos) ds :=
  goN_callTy call_list_of hg hm PyProof.Rows.boot_list (goA_cons ha goA_nil he) (fun vs B H hB r Q q => by
    obtain ⟨v, rfl, h⟩ := mn1 r
    obtain ⟨p, us, rfl, h2, h3⟩ := dp_tup h
    exact ⟨p, us, rfl, .inr (hB.st h2), fun l hl => q l us hl h3⟩) (by decide) (by decide) he rfl
theorem go_tupleL (ha : Go X Γ e (.list ds)) (hm : X.mg "tuple" = none) (hg : Gl X "tuple" := by rfl) (he : starEach [e] X.env = (false, eval e X.env) :: starEach [] X.env := by rfl) : Go X Γ (.Call (.Name "tuple" p) [e] [] pos) (.tuple ds) :=
  go_callTy call_tuple_of hg hm PyProof.Rows.boot_tuple (goA_cons ha goA_nil he) (fun vs B H hB r Q q => by
    obtain ⟨v, rfl, h⟩ := mn1 r
    obtain ⟨p, us, rfl, h2, h3⟩ := dp_lst h
    refine ⟨p, us, rfl, .inl ⟨hB.sl h2, fun l hl => ?_⟩⟩
    have n := Nw.new (o := .tup us) hB hl
    exact q _ _ _ n (Dp.tup (.of upd_same) (dpsUp n.bb h3))) (by decide) (by decide) he rfl
end
end PL

set_option maxHeartbeats 2000000
namespace PL
open PySem PySem.Spec PyProof.Rows L2

/-! ### slots changed -/
section
variable {K : PySem.W.Frag} {B H B2 H2 : Hp} {σ : L2.St} {Γ : Ga} {Fs : Nat → List Addr}
/-- the places of the slot i are let go -/
def off (Fs : Nat → List Addr) (i : Nat) (F : List Addr) : Nat → List Addr := fun j => if j = i then F else Fs j
theorem off_same {i : Nat} {F : List Addr} : off Fs i F i = F := if_pos rfl
theorem off_ne {i j : Nat} {F : List Addr} (h : j ≠ i) : off Fs i F j = Fs j := if_neg h
theorem off_sub {i j : Nat} {a : Addr} (h : a ∈ off Fs i [] j) : a ∈ Fs j := by
  by_cases e : j = i
  · subst e
    rw [off_same] at h
    cases h
  · rw [off_ne e] at h
    exact h
theorem En.setP {P : Mn} {v : V} (E : En K B H σ Γ Fs) (i : Nat) (h : P.p K B v) : En K B H (σ.set i (some v)) (Γ.set i (.pr P)) (off Fs i []) where
  bh := E.bh
  len := by rw [List.length_set, List.length_set, E.len]
  at_ := fun j s hs => by
    by_cases e : j = i
    · subst e
      have hl : j < Γ.length := by
        by_cases hl : j < Γ.length
        · exact hl
        · rw [List.getElem?_eq_none (by rw [List.length_set]; omega)] at hs
          cases hs
      rw [List.getElem?_set_self hl] at hs
      cases hs
      exact ⟨v, List.getElem?_set_self (by rw [E.len]; exact hl), h⟩
    · rw [List.getElem?_set_ne (Ne.symm e)] at hs
      rw [List.getElem?_set_ne (Ne.symm e), off_ne e]
      exact E.at_ j s hs
  fre := fun j a ha => E.fre j a (off_sub ha)
  dis := fun j k a h1 h2 => E.dis j k a (off_sub h1) (off_sub h2)
theorem En.setO {P : Ow} {v : V} {F : List Addr} (E : En K B H σ Γ Fs) (i : Nat) (h : P.p K B H v F) (hb : ∀ a ∈ F, B a = none) (hd : ∀ j a, a ∈ Fs j → a ∉ F) : En K B H (σ.set i (some v)) (Γ.set i (.ob P)) (off Fs i F) where
  bh := E.bh
  len := by rw [List.length_set, List.length_set, E.len]
  at_ := fun j s hs => by
    by_cases e : j = i
    · subst e
      have hl : j < Γ.length := by
        by_cases hl : j < Γ.length
        · exact hl
        · rw [List.getElem?_eq_none (by rw [List.length_set]; omega)] at hs
          cases hs
      rw [List.getElem?_set_self hl] at hs
      cases hs
      rw [off_same]
      exact ⟨v, List.getElem?_set_self (by rw [E.len]; exact hl), h⟩
    · rw [List.getElem?_set_ne (Ne.symm e)] at hs
      rw [List.getElem?_set_ne (Ne.symm e), off_ne e]
      exact E.at_ j s hs
  fre := fun j a ha => by
    by_cases e : j = i
    · subst e
      rw [off_same] at ha
      exact ⟨hb a ha, P.dom h a ha⟩
    · rw [off_ne e] at ha
      exact E.fre j a ha
  dis := fun j k a h1 h2 => by
    by_cases e : j = i
    · by_cases e2 : k = i
      · rw [e, e2]
      · rw [e, off_same] at h1
        rw [off_ne e2] at h2
        exact absurd h1 (hd k a h2)
    · rw [off_ne e] at h1
      by_cases e2 : k = i
      · rw [e2, off_same] at h2
        exact absurd h2 (hd j a h1)
      · rw [off_ne e2] at h2
        exact E.dis j k a h1 h2
/-- an object that no slot has is laid or changed -/
theorem En.upd {p : Addr} {o : HO} (E : En K B H σ Γ Fs) (hb : B p = none) (hf : ∀ j, p ∉ Fs j) : En K B (upd H p o) σ Γ Fs where
  bh := fun a u e => by
    rw [upd_ne (ne_of_none e hb)]
    exact E.bh a u e
  len := E.len
  at_ := fun j s hs => by
    have := E.at_ j s hs
    cases s with
    | any => trivial
    | pr P => exact this
    | ob P =>
      obtain ⟨v, h1, h2⟩ := this
      exact ⟨v, h1, P.loc (fun a ha => upd_ne fun z => hf j (z ▸ ha)) h2⟩
  fre := fun j a ha => ⟨(E.fre j a ha).1, fun z => by
    have ne : a ≠ p := fun z => hf j (z ▸ ha)
    rw [upd_ne ne] at z
    exact (E.fre j a ha).2 z⟩
  dis := E.dis
/-- the list in the slot i is changed -/
theorem En.mutL {i : Nat} {a : Addr} {vs us : List V} {ds es : List D} (E : En K B H σ Γ Fs) (hΓ : Γ[i]? = some (.own ds)) (hσ : σ[i]? = some (some (.ref a))) (hH : H a = some (.lst vs)) (hF : Fs i = [a]) (hd : DpAll K B us es) :
    En K B (L2.upd H a (.lst us)) σ (Γ.set i (.own es)) Fs := by
  have hb : B a = none := (E.fre i a (by rw [hF]; exact List.mem_cons_self)).1
  have nf : ∀ j, j ≠ i → a ∉ Fs j := fun j hj ha => hj (E.dis j i a ha (by rw [hF]; exact List.mem_cons_self))
  refine ⟨fun b u e => ?_, ?_, fun j s hs => ?_, fun j b hb' => ⟨(E.fre j b hb').1, fun z => ?_⟩, E.dis⟩
  · rw [upd_ne (ne_of_none e hb)]
    exact E.bh b u e
  · rw [List.length_set, E.len]
  · by_cases e : j = i
    · subst e
      have hl : j < Γ.length := by
        by_cases hl : j < Γ.length
        · exact hl
        · rw [List.getElem?_eq_none (by omega)] at hΓ
          cases hΓ
      rw [List.getElem?_set_self hl] at hs
      cases hs
      exact ⟨.ref a, hσ, a, us, rfl, hF, upd_same, hd⟩
    · rw [List.getElem?_set_ne (Ne.symm e)] at hs
      have := E.at_ j s hs
      cases s with
      | any => trivial
      | pr P => exact this
      | ob P =>
        obtain ⟨v, h1, h2⟩ := this
        exact ⟨v, h1, P.loc (fun b hb' => upd_ne fun z => nf j e (z ▸ hb')) h2⟩
  · by_cases e : b = a
    · rw [e, upd_same] at z
      cases z
    · rw [upd_ne e] at z
      exact (E.fre j b hb').2 z
/-- .. is frozen -/
theorem En.ice {i : Nat} {a : Addr} {vs : List V} {ds : List D} (E : En K B H σ Γ Fs) (hΓ : Γ[i]? = some (.own ds)) (hσ : σ[i]? = some (some (.ref a))) (hH : H a = some (.lst vs)) (hF : Fs i = [a]) (hd : DpAll K B vs ds) :
    En K (L2.upd B a (.lst vs)) H σ (Γ.set i (.dat (.list ds))) (off Fs i []) ∧ Ex B (L2.upd B a (.lst vs)) := by
  have hb : B a = none := (E.fre i a (by rw [hF]; exact List.mem_cons_self)).1
  obtain ⟨e1, e2⟩ := Nw.ice E.bh hb hH
  have nf : ∀ j, j ≠ i → a ∉ Fs j := fun j hj ha => hj (E.dis j i a ha (by rw [hF]; exact List.mem_cons_self))
  refine ⟨⟨e2, by rw [List.length_set, E.len], fun j s hs => ?_, fun j b hb' => ?_, fun j k b h1 h2 => E.dis j k b (off_sub h1) (off_sub h2)⟩, e1⟩
  · by_cases e : j = i
    · subst e
      have hl : j < Γ.length := by
        by_cases hl : j < Γ.length
        · exact hl
        · rw [List.getElem?_eq_none (by omega)] at hΓ
          cases hΓ
      rw [List.getElem?_set_self hl] at hs
      cases hs
      exact ⟨.ref a, hσ, show Dp _ _ _ _ from .lst (.of upd_same) (dpsUp e1 hd)⟩
    · rw [List.getElem?_set_ne (Ne.symm e)] at hs
      rw [off_ne e]
      have := E.at_ j s hs
      cases s with
      | any => trivial
      | pr P =>
        obtain ⟨v, h1, h2⟩ := this
        exact ⟨v, h1, P.up e1 h2⟩
      | ob P =>
        obtain ⟨v, h1, h2⟩ := this
        exact ⟨v, h1, P.upB e1 h2⟩
  · have hj : j ≠ i := fun e => by
      rw [e, off_same] at hb'
      cases hb'
    rw [off_ne hj] at hb'
    refine ⟨?_, (E.fre j b hb').2⟩
    have ne : b ≠ a := fun z => nf j hj (z ▸ hb')
    rw [upd_ne ne]
    exact (E.fre j b hb').1
theorem En.own {i : Nat} {ds : List D} (E : En K B H σ Γ Fs) (hΓ : Γ[i]? = some (.own ds)) : ∃ a vs, σ[i]? = some (some (.ref a)) ∧ H a = some (.lst vs) ∧ Fs i = [a] ∧ DpAll K B vs ds ∧ B a = none := by
  obtain ⟨v, h1, a, vs, rfl, h3, h4, h5⟩ := E.at_ i _ hΓ
  exact ⟨a, vs, h1, h4, h3, h5, (E.fre i a (by rw [h3]; exact List.mem_cons_self)).1⟩
def wipeG (Γ : Ga) : List Nat → Ga
  | [] => Γ
  | v :: vs => (wipeG Γ vs).set v .any
theorem En.setN (E : En K B H σ Γ Fs) (i : Nat) (o : Option V) : En K B H (σ.set i o) (Γ.set i .any) Fs where
  bh := E.bh
  len := by rw [List.length_set, List.length_set, E.len]
  at_ := fun j s hs => by
    by_cases e : j = i
    · subst e
      by_cases hl : j < Γ.length
      · rw [List.getElem?_set_self hl] at hs
        cases hs
        trivial
      · rw [List.getElem?_eq_none (by rw [List.length_set]; omega)] at hs
        cases hs
    · rw [List.getElem?_set_ne (Ne.symm e)] at hs
      rw [List.getElem?_set_ne (Ne.symm e)]
      exact E.at_ j s hs
  fre := E.fre
  dis := E.dis
theorem En.wipe (E : En K B H σ Γ Fs) : ∀ vs : List Nat, En K B H (wipe σ vs) (wipeG Γ vs) Fs
  | [] => E
  | v :: vs => (En.wipe E vs).setN v none
/-- less is known -/
inductive Wk : Ga → Ga → Prop
  | nil : Wk [] []
  | same {s : Sl} {a b : Ga} : Wk a b → Wk (s :: a) (s :: b)
  | any {s : Sl} {a b : Ga} : Wk a b → Wk (s :: a) (.any :: b)
theorem Wk.refl : ∀ a : Ga, Wk a a
  | [] => .nil
  | _ :: r => .same (Wk.refl r)
theorem Wk.len : ∀ {a b : Ga}, Wk a b → a.length = b.length
  | _, _, .nil => rfl
  | _, _, .same h => by rw [List.length_cons, List.length_cons, h.len]
  | _, _, .any h => by rw [List.length_cons, List.length_cons, h.len]
theorem Wk.get : ∀ {a b : Ga} {i : Nat} {s : Sl}, Wk a b → b[i]? = some s → s = .any ∨ a[i]? = some s
  | _, _, _, _, .nil, h => by simp at h
  | _, _, 0, _, .same _, h => .inr (by simpa using h)
  | _, _, 0, _, .any _, h => by
    simp only [List.getElem?_cons_zero, Option.some.injEq] at h
    exact .inl h.symm
  | _, _, i + 1, s, .same t, h => by
    have := Wk.get (i := i) (s := s) t (by simpa using h)
    simpa using this
  | _, _, i + 1, s, .any t, h => by
    have := Wk.get (i := i) (s := s) t (by simpa using h)
    simpa using this
end

/-! ### the def's own story: what stood at its entry -/
structure Jd where
  H : Hp
  M : List Addr
  S : List Nat
structure Jn (J : Jd) (B0 B H : Hp) (Fs : Nat → List Addr) : Prop where
  b0 : Ex B0 B
  nb : ∀ a, B a ≠ none → B0 a = none → J.H a = none
  h0 : ∀ a o, J.H a = some o → a ∉ J.M → H a = some o
  h1 : ∀ a, J.H a ≠ none → H a ≠ none
  fm : ∀ i a, a ∈ Fs i → J.H a = none ∨ (a ∈ J.M ∧ i ∈ J.S)
section
variable {J : Jd} {B0 B H B2 H2 : Hp} {Fs Fs2 : Nat → List Addr}
theorem Jn.nw (j : Jn J B0 B H Fs) (n : Nw B H B2 H2) : Jn J B0 B2 H2 Fs where
  b0 := j.b0.trans n.bb
  nb := fun a h1 h2 => by
    cases q : B a with
    | some o => exact j.nb a (by rw [q]; exact fun z => nomatch z) h2
    | none =>
      cases r : J.H a with
      | none => rfl
      | some o => exact absurd (n.nu a q (j.h1 a (by rw [r]; exact fun z => nomatch z))) h1
  h0 := fun a o h1 h2 => n.hh a o (j.h0 a o h1 h2)
  h1 := fun a h => fun z => j.h1 a h (n.hh.none z)
  fm := j.fm
theorem Jn.trans {B' H' : Hp} {Fs' : Nat → List Addr} (j : Jn J B0 B H Fs) (j2 : Jn J B B' H' Fs') : Jn J B0 B' H' Fs' := ⟨j.b0.trans j2.b0, fun a h1 h2 => by
  cases q : B a with
  | none => exact j2.nb a h1 q
  | some o => exact j.nb a (by rw [q]; exact fun z => nomatch z) h2, j2.h0, j2.h1, j2.fm⟩
theorem Jn.fresh (j : Jn J B0 B H Fs) : Jn J B B H Fs := ⟨.refl _, fun a h1 h2 => absurd h2 h1, j.h0, j.h1, j.fm⟩
theorem Jn.sub (j : Jn J B0 B H Fs) (h : ∀ i a, a ∈ Fs2 i → a ∈ Fs i) : Jn J B0 B H Fs2 := ⟨j.b0, j.nb, j.h0, j.h1, fun i a ha => j.fm i a (h i a ha)⟩
/-- a new place -/
theorem Jn.lay {i : Nat} {F : List Addr} (j : Jn J B0 B H Fs) (h : ∀ a ∈ F, J.H a = none) : Jn J B0 B H (off Fs i F) := ⟨j.b0, j.nb, j.h0, j.h1, fun k a ha => by
  by_cases e : k = i
  · subst e
    rw [off_same] at ha
    exact .inl (h a ha)
  · rw [off_ne e] at ha
    exact j.fm k a ha⟩
theorem Jn.upd {p : Addr} {o : HO} (j : Jn J B0 B H Fs) (h : J.H p = none ∨ p ∈ J.M) : Jn J B0 B (L2.upd H p o) Fs := ⟨j.b0, j.nb, fun a u h1 h2 => by
  have : a ≠ p := fun z => by
    rcases h with h | h
    · rw [z, h] at h1
      cases h1
    · exact h2 (z ▸ h)
  rw [upd_ne this]
  exact j.h0 a u h1 h2, fun a h1 z => by
  by_cases e : a = p
  · rw [e, upd_same] at z
    cases z
  · rw [upd_ne e] at z
    exact j.h1 a h1 z, j.fm⟩
theorem Jn.ice {i : Nat} {a : Addr} {o : HO} (j : Jn J B0 B H Fs) (hb : B a = none) (h : J.H a = none) : Jn J B0 (L2.upd B a o) H Fs where
  b0 := j.b0.trans (Ex.new hb)
  nb := fun b h1 h2 => by
    by_cases q : b = a
    · rw [q]
      exact h
    · rw [upd_ne q] at h1
      exact j.nb b h1 h2
  h0 := j.h0
  h1 := j.h1
  fm := j.fm
end
/-- what a block is to reach -/
structure Nd where
  nx : Ga → Prop
  rt : Mn
  bk : Ga → Prop := fun _ => False
  ct : Ga → Prop := fun _ => False
  rG : Ga → Prop := fun _ => True
  rn : Option Ow := none
/-- what is handed back: a thing that is not changed any more, or a new one of the caller's own -/
def Rt (K : PySem.W.Frag) (J : Jd) (B H : Hp) (v : V) (P : Mn) (Fs : Nat → List Addr) : Option Ow → Prop
  | none => P.p K B v
  | some W => ∃ F, W.p K B H v F ∧ (∀ a ∈ F, J.H a = none ∧ B a = none) ∧ ∀ i ∈ J.S, ∀ a ∈ F, a ∉ Fs i
def At (X : Cx) (J : Jd) (B0 : Hp) (N : Ga → Prop) : L2.St → Hp → Prop := fun σ' H' => ∃ B' Γ' Fs', En X.K B' H' σ' Γ' Fs' ∧ Jn J B0 B' H' Fs' ∧ N Γ'
def Nd.ends (X : Cx) (J : Jd) (B0 : Hp) (N : Nd) : Ends where
  nx := At X J B0 N.nx
  bk := At X J B0 N.bk
  ct := At X J B0 N.ct
  rt := fun v H' => ∃ σ' B' Γ' Fs', En X.K B' H' σ' Γ' Fs' ∧ Jn J B0 B' H' Fs' ∧ N.rG Γ' ∧ Rt X.K J B' H' v N.rt Fs' N.rn
/-- a block (a statement) runs from the slots Γ to what is wanted -/
structure Rn (X : Cx) (J : Jd) (N : Nd) (Γ : Ga) (sts : List Stmt) : Prop where
  run : ∀ B0 σ B H Fs, En X.K B H σ Γ Fs → Jn J B0 B H Fs → wpSs X sts (N.ends X J B0) σ H
instance {X : Cx} {J : Jd} {N : Nd} {Γ : Ga} {sts : List Stmt} : CoeFun (Rn X J N Γ sts) fun _ => ∀ B0 σ B H Fs, En X.K B H σ Γ Fs → Jn J B0 B H Fs → wpSs X sts (N.ends X J B0) σ H := ⟨Rn.run⟩
structure RnS (X : Cx) (J : Jd) (N : Nd) (Γ : Ga) (st : Stmt) : Prop where
  run : ∀ B0 σ B H Fs, En X.K B H σ Γ Fs → Jn J B0 B H Fs → wpS X st (N.ends X J B0) σ H
instance {X : Cx} {J : Jd} {N : Nd} {Γ : Ga} {st : Stmt} : CoeFun (RnS X J N Γ st) fun _ => ∀ B0 σ B H Fs, En X.K B H σ Γ Fs → Jn J B0 B H Fs → wpS X st (N.ends X J B0) σ H := ⟨RnS.run⟩
abbrev Nd.thn (N : Nd) (X : Cx) (J : Jd) (rest : List Stmt) : Nd := { N with nx := fun Γ' => Rn X J N Γ' rest }
section
variable {X : Cx} {J : Jd} {N : Nd} {Γ : Ga} {e a b c : Expr} {st : Stmt} {sts rest body : List Stmt} {P : Mn} {d : D} {ds : List D} {pos : Pos} {k : Bool}
theorem wpS_mono {D1 D2 : Ends} {σ : L2.St} {H : Hp} (h : wpS X st D1 σ H) (h1 : ∀ σ H, D1.nx σ H → D2.nx σ H) (h2 : ∀ v H, D1.rt v H → D2.rt v H) (h3 : ∀ σ H, D1.bk σ H → D2.bk σ H) (h4 : ∀ σ H, D1.ct σ H → D2.ct σ H) : wpS X st D2 σ H := fun pins s I =>
  thn (h pins s I) fun f s1 q => by
    cases f with
    | next =>
      obtain ⟨σ', H', I', q⟩ := q
      exact ⟨σ', H', I', h1 _ _ q⟩
    | ret v =>
      obtain ⟨v, σ', H', I', r, q⟩ := q
      exact ⟨v, σ', H', I', r, h2 _ _ q⟩
    | brk =>
      obtain ⟨σ', H', I', q⟩ := q
      exact ⟨σ', H', I', h3 _ _ q⟩
    | cont =>
      obtain ⟨σ', H', I', q⟩ := q
      exact ⟨σ', H', I', h4 _ _ q⟩
theorem wpSs_mono {D1 D2 : Ends} {σ : L2.St} {H : Hp} (h : wpSs X sts D1 σ H) (h1 : ∀ σ H, D1.nx σ H → D2.nx σ H) (h2 : ∀ v H, D1.rt v H → D2.rt v H) (h3 : ∀ σ H, D1.bk σ H → D2.bk σ H) (h4 : ∀ σ H, D1.ct σ H → D2.ct σ H) : wpSs X sts D2 σ H := fun pins s I =>
  thn (h pins s I) fun f s1 q => by
    cases f with
    | next =>
      obtain ⟨σ', H', I', q⟩ := q
      exact ⟨σ', H', I', h1 _ _ q⟩
    | ret v =>
      obtain ⟨v, σ', H', I', r, q⟩ := q
      exact ⟨v, σ', H', I', r, h2 _ _ q⟩
    | brk =>
      obtain ⟨σ', H', I', q⟩ := q
      exact ⟨σ', H', I', h3 _ _ q⟩
    | cont =>
      obtain ⟨σ', H', I', q⟩ := q
      exact ⟨σ', H', I', h4 _ _ q⟩
theorem rn_cons (h : RnS X J (N.thn X J rest) Γ st) : Rn X J N Γ (st :: rest) := .mk fun B0 σ B H Fs E j =>
  toSs (pss_cons sS sSs) (wpS_mono (h B0 σ B H Fs E j) (fun σ' H' ⟨B', Γ', Fs', e1, e2, e3⟩ => e3 B0 σ' B' H' Fs' e1 e2) (fun _ _ z => z) (fun _ _ z => z) fun _ _ z => z)
theorem rn_nil (h : N.nx Γ) : Rn X J N Γ [] := .mk fun B0 σ B H Fs E j => toSs pss_nil ⟨B, Γ, Fs, E, j, h⟩
/-- an own list is not changed any more -/
theorem rn_ice (i : Nat) (hΓ : Γ[i]? = some (.own ds)) (hi : i ∉ J.S) (h : Rn X J N (Γ.set i (.dat (.list ds))) sts) : Rn X J N Γ sts := .mk fun B0 σ B H Fs E j => by
  obtain ⟨a, vs, h1, h2, h3, h4, h5⟩ := E.own hΓ
  obtain ⟨E2, _⟩ := E.ice hΓ h1 h2 h3 h4
  have ja : J.H a = none := by
    rcases j.fm i a (by rw [h3]; exact List.mem_cons_self) with z | z
    · exact z
    · exact absurd z.2 hi
  exact h B0 σ _ H _ E2 ((j.ice (i := i) h5 ja).sub fun _ _ z => off_sub z)
theorem rs_ret (h : GoP X Γ e N.rt) (hG : N.rG Γ := by exact trivial) (hn : N.rn = none := by rfl) : RnS X J N Γ (.Return (some e) pos) := .mk fun B0 σ B H Fs E j =>
  toS (ps_ret sE) (h σ B H Fs E _ fun v B2 H2 n r => ⟨σ, B2, Γ, Fs, E.nw n, j.nw n, hG, by rw [hn]; exact r⟩)
theorem rs_set (i : Nat) {x : Str} {p' : Pos} (he : GoP X Γ e P) (h : N.nx (Γ.set i (.pr P))) (hN : X.N.Nodup) (hi : X.N[i]? = some x := by rfl) (hx : Loc X.env.scope x := by first | exact .inl rfl | exact .inr rfl)
    (hs : swapsWith e (some (.Name x p')) pos.line X.env = pure false := by rfl) (hf : X.fn x = true ∨ X.env.scope.names.lookup x = some .local := by first | exact .inl rfl | exact .inr rfl) : RnS X J N Γ (.Assign [.Name x p'] e pos) := .mk fun B0 σ B H Fs E j =>
  toS (ps_set hN hi hx sE hs hf) (he σ B H Fs E _ fun v B2 H2 n r => ⟨B2, _, _, (E.nw n).setP i r, (j.nw n).sub fun _ _ z => off_sub z, h⟩)
/-- a new list of our own -/
theorem rs_own (i : Nat) {x : Str} {p' : Pos} (he : GoN X Γ e ds) (h : N.nx (Γ.set i (.own ds))) (hN : X.N.Nodup) (hi : X.N[i]? = some x := by rfl) (hx : Loc X.env.scope x := by first | exact .inl rfl | exact .inr rfl)
    (hs : swapsWith e (some (.Name x p')) pos.line X.env = pure false := by rfl) (hf : X.fn x = true ∨ X.env.scope.names.lookup x = some .local := by first | exact .inl rfl | exact .inr rfl) : RnS X J N Γ (.Assign [.Name x p'] e pos) := .mk fun B0 σ B H Fs E j =>
  toS (ps_set hN hi hx sE hs hf) (he σ B H Fs E _ fun p vs B2 H2 n hp hb hH hd => ⟨B2, _, _, (E.nw n).setO (P := lstO ds) (F := [p]) i ⟨p, vs, rfl, rfl, hH, hd⟩ (fun a ha => by rw [List.mem_singleton.mp ha]; exact hb)
    (fun k a ha hm => (E.fre k a ha).2 (by rw [List.mem_singleton.mp hm]; exact hp)), (j.nw n).lay fun a ha => by
      rw [List.mem_singleton.mp ha]
      cases q : J.H p with
      | none => rfl
      | some o => exact absurd hp (j.h1 p (by rw [q]; exact fun z => nomatch z)), h⟩)
theorem rs_expr (he : GoP X Γ e P) (h : N.nx Γ) (hs : swapsWith e none pos.line X.env = pure false := by rfl) : RnS X J N Γ (.Expr e pos) := .mk fun B0 σ B H Fs E j =>
  toS (ps_expr sE hs) (he σ B H Fs E _ fun v B2 H2 n r => ⟨B2, Γ, Fs, E.nw n, j.nw n, h⟩)
theorem rs_if {th el : List Stmt} (hc : GoT X Γ c k) (h1 : k = true → Rn X J N Γ th) (h2 : k = false → Rn X J N Γ el) : RnS X J N Γ (.If c th el pos) := .mk fun B0 σ B H Fs E j =>
  toS (ps_if sT sSs sSs) (hc σ B H Fs E _ fun B2 H2 n => by
    cases k with
    | true => exact iteT (h1 rfl B0 σ B2 H2 Fs (E.nw n) (j.nw n))
    | false => exact iteF (h2 rfl B0 σ B2 H2 Fs (E.nw n) (j.nw n)))
/-- x += e, by an operator on ints -/
theorem rs_aug (i : Nat) {x : Str} {p' : Pos} {op : Operator} {ti : TIp} {d d' d2 : D} (hΓ : Γ[i]? = some (.dat d)) (he : Go X Γ e d') (ho : PIp X op ti)
    (hr : ∀ v w B H, Ex B H → Dp X.K B v d → Dp X.K B w d' → ∀ Q, EQ X B H (datP d2) Q → ti v w H Q) (h : N.nx (Γ.set i (.dat d2))) (hN : X.N.Nodup) (hi : X.N[i]? = some x := by rfl) (hx : Loc X.env.scope x := by first | exact .inl rfl | exact .inr rfl)
    (hf : X.fn x = true ∨ X.env.scope.names.lookup x = some .local := by first | exact .inl rfl | exact .inr rfl) : RnS X J N Γ (.AugAssign (.Name x p') op e pos) := .mk fun B0 σ B H Fs E j => by
  obtain ⟨v, h1, h2⟩ := E.at_ i _ hΓ
  refine toS (ps_aug hN hi hx sE ho hf) ⟨v, h1, he σ B H Fs E _ fun w B2 H2 n r => hr v w B2 H2 n.bh (dpUp n.bb h2) r _ fun z B3 H3 n3 r3 => ?_⟩
  have n' := n.trans n3
  exact ⟨B3, _, _, (E.nw n').setP i r3, (j.nw n').sub fun _ _ z => off_sub z, h⟩
/-- x.append(e) -/
theorem rs_app (i : Nat) {x : Str} {p' ap cp : Pos} (hΓ : Γ[i]? = some (.own ds)) (he : Go X Γ e d) (hl : ds.length < sizeLine) (h : N.nx (Γ.set i (.own (ds ++ [d])))) (hN : X.N[i]? = some x := by rfl) (hv : Vis X.env.scope x := by first | exact Or.inl rfl | exact Or.inr (Or.inl rfl) | exact Or.inr (Or.inr rfl))
    (hd : (x == ("__debug__" : Str)) = false := by decide) (hcd : (x == ("__classdict__" : Str)) = false := by decide)
    (hbase : attributeBase (.Name x p') "append" X.env (eval (.Name x p') X.env) = eval (.Name x p') X.env := by rfl)
    (hfew : ((backTo cp (starEach [e] X.env)).all (fun x => !x.1) && (backToKw cp (keywordEach [] X.env)).all (fun x => x.1.isSome)
      && decide ([e].length + ([] : List Keyword).length + (if ([] : List Keyword).isEmpty then 0 else 1) < 30)) = true := by rfl)
    (hline : (ap.endLine == cp.line) = true := by rfl) (hs : starEach [e] X.env = (false, eval e X.env) :: starEach [] X.env := by rfl) (hplain : (backTo cp (starEach [] X.env)).any (·.1) = false := by rfl)
    (hsw : swapsWith (.Call (.Attribute (.Name x p') "append" ap) [e] [] cp) none pos.line X.env = pure false := by rfl) : RnS X J N Γ (.Expr (.Call (.Attribute (.Name x p') "append" ap) [e] [] cp) pos) := .mk fun B0 σ B H Fs E j => by
  obtain ⟨a, vs, h1, h2, h3, h4, h5⟩ := E.own hΓ
  refine toS (ps_expr (pe_bm PySem.F.plainAttrs_list PySem.F.slot_list_append PySem.F.type_list_append mt_append (pe_var hN hv hd hcd) (pa_cons sE pa_nil hs) hbase hfew hline hs hplain) hsw) ⟨.ref a, h1, .inl ⟨rfl, vs, .of h2⟩, he σ B H Fs E _ fun v B2 H2 n r => ?_⟩
  have E2 := E.nw n
  have e2 : H2 a = some (.lst vs) := n.hh a _ h2
  refine ⟨a, vs, v, rfl, rfl, e2, by rw [dps_len h4]; exact hl, B2, _, _, E2.mutL hΓ h1 e2 h3 (dps_app (dpsUp n.bb h4) (.cons r .nil)), (j.nw n).upd ?_, h⟩
  rcases j.fm i a (by rw [h3]; exact List.mem_cons_self) with z | z
  · exact .inl z
  · exact .inr z.1
end
end PL

set_option maxHeartbeats 2000000
namespace PL
open PySem PySem.Spec PyProof.Rows L2

/-! ### targets -/
def wpG (X : Cx) (tg : Expr) : TG := fun v σ H Q => ∀ pins s u, Inv X pins σ H s → RelV v u → wpAny (model X.prog X.w) X.A (assign tg X.env u) (fun _ s' => ∃ σ' H', Inv X pins σ' H' s' ∧ Q σ' H') X.xe s
def wpGs (X : Cx) (ts : List Expr) : TGs := fun vs σ H Q => ∀ pins s us, Inv X pins σ H s → Vals vs us → wpAny (model X.prog X.w) X.A (assignInOrder ((assignEach ts X.env).map (·.2)) us) (fun _ s' => ∃ σ' H', Inv X pins σ' H' s' ∧ Q σ' H') X.xe s
/-- the target tg takes d: the slots are then Γ'; ts are its places -/
structure GoG (X : Cx) (Γ : Ga) (tg : Expr) (d : D) (Γ' : Ga) (ts : List Nat) : Prop where
  run : ∀ σ B H Fs v, En X.K B H σ Γ Fs → Dp X.K B v d → ∀ Q : L2.St → Hp → Prop,
  (∀ σ' Fs', En X.K B H σ' Γ' Fs' → (∀ i a, a ∈ Fs' i → a ∈ Fs i) → (∀ vs, (∀ t ∈ ts, t ∈ vs) → wipe σ' vs = wipe σ vs) → Q σ' H) → wpG X tg v σ H Q
instance {X : Cx} {Γ : Ga} {tg : Expr} {d : D} {Γ' : Ga} {ts : List Nat} : CoeFun (GoG X Γ tg d Γ' ts) fun _ => ∀ σ B H Fs v, En X.K B H σ Γ Fs → Dp X.K B v d → ∀ Q : L2.St → Hp → Prop,
    (∀ σ' Fs', En X.K B H σ' Γ' Fs' → (∀ i a, a ∈ Fs' i → a ∈ Fs i) → (∀ vs, (∀ t ∈ ts, t ∈ vs) → wipe σ' vs = wipe σ vs) → Q σ' H) → wpG X tg v σ H Q := ⟨GoG.run⟩
structure GoGs (X : Cx) (Γ : Ga) (tg : List Expr) (ds : List D) (Γ' : Ga) (ts : List Nat) : Prop where
  run : ∀ σ B H Fs vs, En X.K B H σ Γ Fs → DpAll X.K B vs ds → ∀ Q : L2.St → Hp → Prop,
  (∀ σ' Fs', En X.K B H σ' Γ' Fs' → (∀ i a, a ∈ Fs' i → a ∈ Fs i) → (∀ vs, (∀ t ∈ ts, t ∈ vs) → wipe σ' vs = wipe σ vs) → Q σ' H) → wpGs X tg vs σ H Q
instance {X : Cx} {Γ : Ga} {tg : List Expr} {ds : List D} {Γ' : Ga} {ts : List Nat} : CoeFun (GoGs X Γ tg ds Γ' ts) fun _ => ∀ σ B H Fs vs, En X.K B H σ Γ Fs → DpAll X.K B vs ds → ∀ Q : L2.St → Hp → Prop,
    (∀ σ' Fs', En X.K B H σ' Γ' Fs' → (∀ i a, a ∈ Fs' i → a ∈ Fs i) → (∀ vs, (∀ t ∈ ts, t ∈ vs) → wipe σ' vs = wipe σ vs) → Q σ' H) → wpGs X tg vs σ H Q := ⟨GoGs.run⟩
theorem wipe_set {σ : L2.St} {i : Nat} {o : Option V} : ∀ {vs : List Nat}, i ∈ vs → wipe (σ.set i o) vs = wipe σ vs
  | v :: vs, h => by
    have com : ∀ (vs : List Nat), (wipe (σ.set i o) vs).set i none = (wipe σ vs).set i none := fun vs => by
      induction vs with
      | nil => exact List.set_set o
      | cons w ws ih =>
        show ((wipe (σ.set i o) ws).set w none).set i none = ((wipe σ ws).set w none).set i none
        by_cases e : w = i
        · rw [e, List.set_set, List.set_set]
          exact ih
        · rw [List.set_comm _ _ e, ih, List.set_comm _ _ (Ne.symm e)]
    show (wipe (σ.set i o) vs).set v none = (wipe σ vs).set v none
    rcases List.mem_cons.mp h with e | e
    · rw [← e]
      exact com vs
    · rw [wipe_set e]
section
variable {X : Cx} {J : Jd} {N : Nd} {Γ Γ1 Γ2 : Ga} {e a b c tg iter : Expr} {es : List Expr} {st : Stmt} {sts rest body : List Stmt} {P : Mn} {d : D} {ds : List D} {pos : Pos} {k : Bool} {ts us : List Nat}
theorem sG : PG X tg (wpG X tg) := ⟨fun pins s _ _ _ u _ I r h => h pins s u I r⟩
theorem sGs : PGs X es (wpGs X es) := ⟨fun pins s _ _ _ u _ I r h => h pins s u I r⟩
theorem toG {t : TG} {v : V} {σ : L2.St} {H : Hp} {Q : L2.St → Hp → Prop} (p : PG X tg t) (h : t v σ H Q) : wpG X tg v σ H Q := fun pins s u I r => p.run pins s σ H v u Q I r h
theorem toGs {t : TGs} {v : List V} {σ : L2.St} {H : Hp} {Q : L2.St → Hp → Prop} (p : PGs X es t) (h : t v σ H Q) : wpGs X es v σ H Q := fun pins s u I r => p.run pins s σ H v u Q I r h
theorem gog_name (i : Nat) {x : Str} (hN : X.N.Nodup) (hi : X.N[i]? = some x := by rfl) (hx : Loc X.env.scope x := by first | exact .inl rfl | exact .inr rfl) (hf : X.fn x = true ∨ X.env.scope.names.lookup x = some .local := by first | exact .inl rfl | exact .inr rfl) :
    GoG X Γ (.Name x pos) d (Γ.set i (.dat d)) [i] := .mk fun σ B H Fs v E r Q q =>
  toG (pg_name hN hi hx hf) (q _ _ (E.setP (P := datP d) i r) (fun _ _ z => off_sub z) fun vs hv => wipe_set (hv i List.mem_cons_self))
theorem gogs_nil : GoGs X Γ [] [] Γ [] := .mk fun σ B H Fs vs E r Q q => by
  cases r
  exact toGs pgs_nil ⟨rfl, q σ Fs E (fun _ _ z => z) fun _ _ => rfl⟩
theorem gogs_cons (h1 : GoG X Γ e d Γ1 ts) (h2 : GoGs X Γ1 es ds Γ2 us) (hs : (assignEach (e :: es) X.env).map (·.2) = assign e X.env :: (assignEach es X.env).map (·.2) := by rfl) : GoGs X Γ (e :: es) (d :: ds) Γ2 (ts ++ us) := .mk fun σ B H Fs vs E r Q q => by
  cases r with
  | cons r rr =>
    refine toGs (pgs_cons sG sGs hs) ⟨_, _, rfl, h1 σ B H Fs _ E r _ fun σ1 F1 E1 s1 w1 => h2 σ1 B H F1 _ E1 rr _ fun σ2 F2 E2 s2 w2 => q σ2 F2 E2 (fun i a z => s1 i a (s2 i a z)) fun vs hv => ?_⟩
    rw [w2 vs fun t ht => hv t (List.mem_append_right _ ht), w1 vs fun t ht => hv t (List.mem_append_left _ ht)]
theorem gog_tup {j : Nat} {n : Nat} (hc : X.calm = true) (h : GoGs X Γ es ds Γ2 ts) (hl : ds.length = n := by rfl) (hn : (assignEach es X.env).length = n := by rfl) (hst : (assignEach es X.env).findIdx? (·.1) = none := by rfl) : GoG X Γ (.Tuple es j pos) (.tuple ds) Γ2 ts := .mk fun σ B H Fs v E r Q q => by
  obtain ⟨a, vs, rfl, h2, h3⟩ := dp_tup r
  exact toG (pg_tup hc sGs hn hst) ⟨a, vs, rfl, E.bh.st h2, by rw [dps_len h3]; exact hl, h σ B H Fs vs E h3 Q q⟩
/-- a, b = e -/
theorem rs_unp (he : Go X Γ e d) (hg : GoG X Γ tg d Γ2 ts) (h : N.nx Γ2) (hs : swapsWithSole [tg] e pos.line X.env = pure false := by rfl) (hw : swappedStores [tg] e X.env = pure none := by rfl)
    (h1 : (assignEach [tg] X.env).map (·.2) = [assign tg X.env] := by rfl) : RnS X J N Γ (.Assign [tg] e pos) := .mk fun B0 σ B H Fs E j =>
  toS (ps_asg sE sG hs hw h1) (he σ B H Fs E _ fun v B2 H2 n r => hg σ B2 H2 Fs v (E.nw n) r _ fun σ' Fs' E' sb _ => ⟨B2, Γ2, Fs', E', (j.nw n).sub sb, h⟩)

/-! ### what is walked -/
structure IsIt (K : PySem.W.Frag) (I : It) (B : Hp) (ds : List D) : Prop where
  go : ∀ i H, i < ds.length → Ex B H → I.go i H
  stop : ∀ H, Ex B H → I.stop ds.length H
  yld : ∀ i H x H' Bc d, ds[i]? = some d → Ex B Bc → Ex Bc H → I.yld i H x H' → ∃ B', Nw Bc H B' H' ∧ Dp K B' x d
def wpI (X : Cx) (tg iter : Expr) : TI := fun σ H R => ∀ pins s, Inv X pins σ H s → wpAny (model X.prog X.w) X.A (eval iter X.env) (fun v s1 => wpAny (model X.prog X.w) X.A (pyIter v) (PIE X pins σ tg R) X.xe s1) X.xe s
theorem sI : PI X tg iter (wpI X tg iter) := ⟨fun pins s _ _ _ I h => h pins s I⟩
theorem toI {t : TI} {σ : L2.St} {H : Hp} {R : It → Hp → Prop} (p : PI X tg iter t) (h : t σ H R) : wpI X tg iter σ H R := fun pins s I => p.run pins s σ H R I h
structure GoI (X : Cx) (Γ : Ga) (tg iter : Expr) (ds : List D) : Prop where
  run : ∀ σ B H Fs, En X.K B H σ Γ Fs → ∀ R : It → Hp → Prop, (∀ I B2 H2, Nw B H B2 H2 → IsIt X.K I B2 ds → R I H2) → wpI X tg iter σ H R
instance {X : Cx} {Γ : Ga} {tg iter : Expr} {ds : List D} : CoeFun (GoI X Γ tg iter ds) fun _ => ∀ σ B H Fs, En X.K B H σ Γ Fs → ∀ R : It → Hp → Prop, (∀ I B2 H2, Nw B H B2 H2 → IsIt X.K I B2 ds → R I H2) → wpI X tg iter σ H R := ⟨GoI.run⟩
theorem goi_list (h : Go X Γ iter (.list ds)) : GoI X Γ tg iter ds := .mk fun σ B H Fs E R q =>
  toI (pi_list sE) (h σ B H Fs E _ fun v B2 H2 n r => by
    obtain ⟨a, vs, rfl, h2, h3⟩ := dp_lst r
    refine ⟨a, rfl, ⟨vs, n.bh.sl h2⟩, q _ B2 H2 n ⟨fun i H' hi hB => ?_, fun H' hB => ⟨vs, hB.sl h2, by rw [dps_len h3]; exact Nat.le_refl _⟩, fun i H' x H2 Bc d hd hB hC y => ?_⟩⟩
    · obtain ⟨u, e1, _⟩ := dps_get h3 (List.getElem?_eq_getElem hi)
      exact ⟨vs, u, hB.sl h2, e1⟩
    · obtain ⟨e1, y⟩ := y
      subst e1
      obtain ⟨d', e3, e4⟩ := dps_getv h3 (y vs ((hB.trans hC).sl h2))
      rw [hd] at e3
      cases e3
      exact ⟨Bc, .same hC, dpUp hB e4⟩)
theorem goi_tup (h : Go X Γ iter (.tuple ds)) : GoI X Γ tg iter ds := .mk fun σ B H Fs E R q =>
  toI (pi_tup sE) (h σ B H Fs E _ fun v B2 H2 n r => by
    obtain ⟨a, vs, rfl, h2, h3⟩ := dp_tup r
    refine ⟨a, rfl, ⟨vs, n.bh.st h2⟩, q _ B2 H2 n ⟨fun i H' hi hB => ?_, fun H' hB => ⟨vs, hB.st h2, by rw [dps_len h3]; exact Nat.le_refl _⟩, fun i H' x H2 Bc d hd hB hC y => ?_⟩⟩
    · obtain ⟨u, e1, _⟩ := dps_get h3 (List.getElem?_eq_getElem hi)
      exact ⟨vs, u, hB.st h2, e1⟩
    · obtain ⟨e1, y⟩ := y
      subst e1
      obtain ⟨d', e3, e4⟩ := dps_getv h3 (y vs ((hB.trans hC).st h2))
      rw [hd] at e3
      cases e3
      exact ⟨Bc, .same hC, dpUp hB e4⟩)
/-- lo, lo + 1, .. -/
def rngI (lo hi : Int) : List Int := (List.range (hi - lo).toNat).map fun i => lo + (i : Nat)
theorem isIt_rng {K : PySem.W.Frag} {B : Hp} {lo : Int} {n : Nat} : IsIt K (Itr lo n) B (((List.range n).map fun i => lo + (i : Nat)).map PyData.int) := by
  have hl : (((List.range n).map fun i => lo + (i : Nat)).map PyData.int).length = n := by
    rw [List.length_map, List.length_map, List.length_range]
  refine ⟨fun i H hi _ => ?_, fun H _ => ?_, fun i H x H' Bc d hd _ hC y => ?_⟩
  · rw [hl] at hi
    exact hi
  · show n ≤ _
    rw [hl]
    exact Nat.le_refl _
  · obtain ⟨e1, e2⟩ := y
    subst e1 e2
    refine ⟨Bc, .same hC, ?_⟩
    have hi : i < n := by
      by_cases hi : i < n
      · exact hi
      · rw [List.getElem?_eq_none (by omega)] at hd
        cases hd
    simp only [List.map_map, List.getElem?_map, List.getElem?_range hi, Option.map_some, Option.some.injEq, Function.comp] at hd
    subst hd
    exact Dp.int _
theorem goi_rng1 {j : Int} {p : Pos} (ha : Go X Γ a (.int j)) (h1 : -(2 ^ 62) ≤ j) (h2 : j < 2 ^ 62) (hm : X.mg "range" = none) (hg : Gl X "range" := by rfl) (hs : starEach [a] X.env = [(false, eval a X.env)] := by rfl) :
    GoI X Γ tg (.Call (.Name "range" p) [a] [] pos) ((rngI 0 j).map PyData.int) := .mk fun σ B H Fs E R q =>
  toI (pi_range1 hg hm (pa_cons sE pa_nil hs) hs) (ha σ B H Fs E _ fun v B2 H2 n r => ⟨j, by rw [dp_int r], h1, h2, q _ B2 H2 n (by
    unfold rngI
    rw [show j - 0 = j by omega]
    exact isIt_rng)⟩)
/-- the pairs of enumerate -/
def enumD (ds : List D) : List D := ds.zipIdx.map fun p => .tuple [.int (p.2 : Nat), p.1]
/-- the pairs of zip -/
def zipD (ds es : List D) : List D := (ds.zip es).map fun p => .tuple [p.1, p.2]
def signsD (z : Str) : List D := z.cps.toList.map fun c => .str ⟨#[c]⟩
theorem goi_str {z : Str} (h : Go X Γ iter (.str z)) : GoI X Γ tg iter (signsD z) := .mk fun σ B H Fs E R q =>
  toI (pi_str sE) (h σ B H Fs E _ fun v B2 H2 n r => by
    have hl : (signsD z).length = z.cps.size := by
      unfold signsD
      rw [List.length_map, Array.length_toList]
    refine ⟨z, dp_str r, q _ B2 H2 n ⟨fun i H' hi hB => by rw [hl] at hi; exact hi, fun H' hB => by rw [hl]; exact Nat.le_refl _, fun i H' x H2 Bc d hd hB hC y => ?_⟩⟩
    obtain ⟨e1, c, e2, e3⟩ := y
    subst e1 e3
    have hd2 : d = .str ⟨#[c]⟩ := by
      unfold signsD at hd
      rw [List.getElem?_map, Array.getElem?_toList, e2] at hd
      simpa using hd.symm
    subst hd2
    exact ⟨Bc, .same hC, .str _⟩)

/-! ### loops -/
structure GoIx (X : Cx) (Γ : Ga) (tg iter : Expr) (p : List D → Prop) : Prop where
  run : ∀ σ B H Fs, En X.K B H σ Γ Fs → ∀ R : It → Hp → Prop, (∀ I B2 H2 ds, p ds → Nw B H B2 H2 → IsIt X.K I B2 ds → R I H2) → wpI X tg iter σ H R
instance {X : Cx} {Γ : Ga} {tg iter : Expr} {p : List D → Prop} : CoeFun (GoIx X Γ tg iter p) fun _ => ∀ σ B H Fs, En X.K B H σ Γ Fs → ∀ R : It → Hp → Prop, (∀ I B2 H2 ds, p ds → Nw B H B2 H2 → IsIt X.K I B2 ds → R I H2) → wpI X tg iter σ H R := ⟨GoIx.run⟩
/-- for: Iv by the turn -/
theorem rs_forX {p : List D → Prop} (Iw : List D → Nat → Ga → Prop) (hi : GoIx X Γ tg iter p) (h0 : ∀ ds, p ds → Iw ds 0 Γ)
    (hb : ∀ ds, p ds → ∀ k d Γ', ds[k]? = some d → Iw ds k Γ' → ∃ Γ2 ts, GoG X Γ' tg d Γ2 ts ∧ Rn X J { N with nx := Iw ds (k + 1), ct := Iw ds (k + 1), bk := N.nx } Γ2 body)
    (hd : ∀ ds, p ds → ∀ Γ', Iw ds ds.length Γ' → N.nx Γ') (hc : X.calm = true) (hp : PassesOwn (model X.prog X.w) X.A X.env X.xe := by exact PassesOwn.never) (hs : ∀ x, foldedSetIterable iter X.env x = pure x := by intro _; rfl) :
    RnS X J N Γ (.For tg iter body [] pos) := .mk fun B0 σ B H Fs E j =>
  toS (ps_for hp hc sI sG sSs hs) (hi σ B H Fs E _ fun I B2 H2 ds pd n it => by
    have h0 := h0 ds pd
    have hb := hb ds pd
    have hd := hd ds pd
    revert h0 hb hd
    generalize Iw ds = Iv
    intro h0 hb hd
    refine ⟨fun i m σ' H' => m = ds.length - i ∧ i ≤ ds.length ∧ ∃ B' Γ' Fs', Ex B2 B' ∧ En X.K B' H' σ' Γ' Fs' ∧ Jn J B0 B' H' Fs' ∧ Iv i Γ', ⟨ds.length, by omega, Nat.zero_le _, B2, Γ, Fs, .refl _, E.nw n, j.nw n, h0⟩, ?_⟩
    rintro i m σ' H' ⟨rfl, hi, B', Γ', Fs', e1, E', j', v⟩
    by_cases hlt : i < ds.length
    · refine .inr ⟨it.go i H' hlt (e1.trans E'.bh), fun σ' H' => ∃ B' Γ' Fs', Ex B2 B' ∧ En X.K B' H' σ' Γ' Fs' ∧ Jn J B0 B' H' Fs' ∧ Iv (i + 1) Γ', fun σ' H' p => ⟨ds.length - (i + 1), by omega, rfl, hlt, p⟩, fun x H'' y => ?_⟩
      obtain ⟨B'', n2, r2⟩ := it.yld i H' x H'' B' _ (List.getElem?_eq_getElem hlt) e1 E'.bh y
      obtain ⟨Γ2, ts, g, rb⟩ := hb i _ Γ' (List.getElem?_eq_getElem hlt) v
      refine g σ' B'' H'' Fs' x (E'.nw n2) r2 _ fun σ2 F2 E2 sb _ => ?_
      have j2 : Jn J B0 B'' H'' F2 := (j'.nw n2).sub sb
      have e2 : Ex B2 B'' := e1.trans n2.bb
      refine wpSs_mono (rb B'' σ2 B'' H'' F2 E2 j2.fresh) ?_ ?_ ?_ ?_
      · exact fun σ3 H3 ⟨B3, Γ3, F3, p1, p2, p3⟩ => ⟨B3, Γ3, F3, e2.trans p2.b0, p1, j2.trans p2, p3⟩
      · exact fun v H3 ⟨σ3, B3, Γ3, F3, p1, p2, p3⟩ => ⟨σ3, B3, Γ3, F3, p1, j2.trans p2, p3⟩
      · exact fun σ3 H3 ⟨B3, Γ3, F3, p1, p2, p3⟩ => ⟨B3, Γ3, F3, p1, j2.trans p2, p3⟩
      · exact fun σ3 H3 ⟨B3, Γ3, F3, p1, p2, p3⟩ => ⟨B3, Γ3, F3, e2.trans p2.b0, p1, j2.trans p2, p3⟩
    · have e : i = ds.length := by omega
      subst e
      exact .inl ⟨it.stop H' (e1.trans E'.bh), B', Γ', Fs', E', j', hd Γ' v⟩)
theorem rs_for (Iv : Nat → Ga → Prop) (hi : GoI X Γ tg iter ds) (h0 : Iv 0 Γ)
    (hb : ∀ k d Γ', ds[k]? = some d → Iv k Γ' → ∃ Γ2 ts, GoG X Γ' tg d Γ2 ts ∧ Rn X J { N with nx := Iv (k + 1), ct := Iv (k + 1), bk := N.nx } Γ2 body)
    (hd : ∀ Γ', Iv ds.length Γ' → N.nx Γ') (hc : X.calm = true) (hp : PassesOwn (model X.prog X.w) X.A X.env X.xe := by exact PassesOwn.never) (hs : ∀ x, foldedSetIterable iter X.env x = pure x := by intro _; rfl) :
    RnS X J N Γ (.For tg iter body [] pos) :=
  rs_forX (p := fun es => es = ds) (fun _ => Iv) (.mk fun σ B H Fs E R q => hi σ B H Fs E R fun I B2 H2 n it => q I B2 H2 ds rfl n it) (fun _ _ => h0) (fun es e k d Γ' g v => hb k d Γ' (e ▸ g) v) (fun es e Γ' v => hd Γ' (e ▸ v)) hc hp hs
/-- while: Iv by a number that falls -/
theorem rs_while (Iv : Nat → Ga → Prop) (m : Nat) (h0 : Iv m Γ)
    (hb : ∀ m Γ', Iv m Γ' → ∃ k, GoT X Γ' c k ∧ (k = true → Rn X J { N with nx := fun Γ2 => ∃ m', m' < m ∧ Iv m' Γ2, ct := fun Γ2 => ∃ m', m' < m ∧ Iv m' Γ2, bk := N.nx } Γ' body) ∧ (k = false → N.nx Γ'))
    (hp : PassesOwn (model X.prog X.w) X.A X.env X.xe := by exact PassesOwn.never) : RnS X J N Γ (.While c body [] pos) := .mk fun B0 σ B H Fs E j =>
  toS (ps_while hp sT sSs) (by
    refine ⟨fun m σ' H' => ∃ B' Γ' Fs', En X.K B' H' σ' Γ' Fs' ∧ Jn J B0 B' H' Fs' ∧ Iv m Γ', ⟨m, B, Γ, Fs, E, j, h0⟩, ?_⟩
    rintro m σ' H' ⟨B', Γ', Fs', E', j', v⟩
    obtain ⟨k, ht, h1, h2⟩ := hb m Γ' v
    refine ht σ' B' H' Fs' E' _ fun B2 H2 n => ?_
    cases k with
    | true =>
      refine iteT ⟨fun σ' H' => ∃ m', m' < m ∧ ∃ B' Γ' Fs', En X.K B' H' σ' Γ' Fs' ∧ Jn J B0 B' H' Fs' ∧ Iv m' Γ', fun σ' H' ⟨m', q1, q2⟩ => ⟨m', q1, q2⟩, ?_⟩
      refine wpSs_mono (h1 rfl B0 σ' B2 H2 Fs' (E'.nw n) (j'.nw n)) ?_ ?_ ?_ ?_
      · exact fun σ3 H3 ⟨B3, Γ3, F3, p1, p2, m', p3, p4⟩ => ⟨m', p3, B3, Γ3, F3, p1, p2, p4⟩
      · exact fun v H3 p => p
      · exact fun σ3 H3 p => p
      · exact fun σ3 H3 ⟨B3, Γ3, F3, p1, p2, m', p3, p4⟩ => ⟨m', p3, B3, Γ3, F3, p1, p2, p4⟩
    | false => exact iteF ⟨B2, Γ', Fs', E'.nw n, j'.nw n, h2 rfl⟩)
end
end PL

set_option maxHeartbeats 2000000
namespace PL
open PySem PySem.Spec PyProof.Rows L2

/-! ### an own list read on the way -/
section
variable {X : Cx} {J : Jd} {N : Nd} {Γ Γ1 Γ2 : Ga} {e a b c tg iter : Expr} {es : List Expr} {st : Stmt} {sts rest body : List Stmt} {P : Mn} {d : D} {ds : List D} {pos : Pos} {k : Bool}
theorem thaw_run {i : Nat} (hΓ : Γ[i]? = some (.own ds)) {σ B H Fs} (E : En X.K B H σ Γ Fs) : ∃ B' Fs', En X.K B' H σ (Γ.set i (.dat (.list ds))) Fs' := by
  obtain ⟨a, vs, h1, h2, h3, h4, h5⟩ := E.own hΓ
  exact ⟨_, _, (E.ice hΓ h1 h2 h3 h4).1⟩
theorem go_thawI (i : Nat) {n : Int} (h : Go X (Γ.set i (.dat (.list ds))) e (.int n)) (hΓ : Γ[i]? = some (.own ds) := by rfl) : Go X Γ e (.int n) := .mk fun σ B H Fs E Q q => by
  obtain ⟨B', Fs', E'⟩ := thaw_run hΓ E
  exact h σ B' H Fs' E' Q fun v B2 H2 n r => by
    rw [dp_int r]
    exact q _ B H2 ⟨.refl _, E.bh.trans n.hh, n.hh, fun _ h _ => h⟩ (Dp.int _)
theorem goT_thaw (i : Nat) (h : GoT X (Γ.set i (.dat (.list ds))) e k) (hΓ : Γ[i]? = some (.own ds) := by rfl) : GoT X Γ e k := .mk fun σ B H Fs E Q q => by
  obtain ⟨B', Fs', E'⟩ := thaw_run hΓ E
  exact h σ B' H Fs' E' Q fun B2 H2 n => q B H2 ⟨.refl _, E.bh.trans n.hh, n.hh, fun _ h _ => h⟩

/-! ### comprehensions -/
def wpTs (X : Cx) (ifs : List Expr) : TT := fun σ H Q => ∀ pins s, Inv X pins σ H s → wpAny (model X.prog X.w) X.A (forIn ifs true fun c r => if r = true then do let ok ← isTrue c X.env (eval c X.env); pure (ForInStep.yield ok) else pure (ForInStep.yield r)) (TP X pins σ Q) X.xe s
theorem toTs {ifs : List Expr} {t : TT} {σ : L2.St} {H : Hp} {Q : Bool → Hp → Prop} (p : PTs X ifs t) (h : t σ H Q) : wpTs X ifs σ H Q := fun pins s I => p.run pins s σ H Q I h
structure GoTs (X : Cx) (Γ : Ga) (ifs : List Expr) (b : Bool) : Prop where
  run : ∀ σ B H Fs, En X.K B H σ Γ Fs → ∀ Q : Bool → Hp → Prop, (∀ B2 H2, Nw B H B2 H2 → Q b H2) → wpTs X ifs σ H Q
instance {X : Cx} {Γ : Ga} {ifs : List Expr} {b : Bool} : CoeFun (GoTs X Γ ifs b) fun _ => ∀ σ B H Fs, En X.K B H σ Γ Fs → ∀ Q : Bool → Hp → Prop, (∀ B2 H2, Nw B H B2 H2 → Q b H2) → wpTs X ifs σ H Q := ⟨GoTs.run⟩
theorem goTs_nil : GoTs X Γ [] true := .mk fun σ B H Fs E Q q => toTs pts_nil (q B H (.same E.bh))
theorem goTs_one (h : GoT X Γ c k) : GoTs X Γ [c] k := .mk fun σ B H Fs E Q q => toTs (pts_one sT) (h σ B H Fs E Q q)
/-- in every block -/
def Blk (X : Cx) (scope : Scope) (R : Cx → Prop) : Prop := ∀ (s : Shared) (H : Hp) (C : Addr) (cl : List (Str × Addr)) (fp : List Addr), R (X.blk s H scope (compEnvC scope cl C X.env) fp)
/-- what the reading of a comprehension asks -/
abbrev lcRd (X : Cx) (scope : Scope) (tg : Expr) (ifs : List Expr) (elt : Expr) (iter : Expr) (vs : List Nat) : TE :=
  tLc (wpI X tg iter) (fun v σ H Q => Blk X scope fun X' => wpG X' tg v σ H Q) (fun σ H Q => Blk X scope fun X' => wpTs X' ifs σ H Q) (fun σ H Q => Blk X scope fun X' => wpE X' elt σ H Q) vs
theorem wipe_wipe {σ : L2.St} : ∀ vs : List Nat, wipe (wipe σ vs) vs = wipe σ vs := fun vs => by
  have sw : ∀ (ws : List Nat) (τ : L2.St), (∀ w ∈ ws, w ∈ vs) → wipe (wipe τ ws) vs = wipe τ vs := fun ws => by
    induction ws with
    | nil => intro τ _; rfl
    | cons w ws ih =>
      intro τ h
      show wipe ((wipe τ ws).set w none) vs = wipe τ vs
      rw [wipe_set (h w List.mem_cons_self)]
      exact ih τ fun x hx => h x (List.mem_cons_of_mem _ hx)
  exact sw vs σ fun _ h => h
theorem lc_run {elt : Expr} {ifs : List Expr} {scope : Scope} {vs : List Nat} {α : Type} {xs : List α} {enc : α → D} (p : α → Bool) (f : α → D) (hi : GoI X Γ tg iter (xs.map enc)) (hz : xs.length < sizeLine)
    (body : ∀ (k : Nat) x, xs[k]? = some x → ∃ Γ' ts, (∀ t ∈ ts, t ∈ vs) ∧ (Blk X scope fun X' => GoG X' (wipeG Γ vs) tg (enc x) Γ' ts) ∧ (Blk X scope fun X' => GoTs X' Γ' ifs (p x)) ∧ (p x = true → Blk X scope fun X' => Go X' Γ' elt (f x)))
    {σ B H Fs} (E : En X.K B H σ Γ Fs) (Q : VK)
    (q : ∀ l us B2 H2, Nw B H B2 H2 → H l = none → B2 l = none → H2 l = some (.lst us) → DpAll X.K B2 us ((xs.filter p).map f) → Q (.ref l) H2) : lcRd X scope tg ifs elt iter vs σ H Q := by
  refine hi σ B H Fs E _ fun I B1 H1 n1 it => ?_
  intro Dl hDl
  have E1 := E.nw n1
  have hl : (xs.map enc).length = xs.length := List.length_map _
  refine ⟨fun i m H' => m = xs.length - i ∧ i ≤ xs.length ∧ ∃ B' acc, Nw B1 H1 B' H' ∧ B' Dl = none ∧ H' Dl = some (.lst acc) ∧ DpAll X.K B' acc (((xs.take i).filter p).map f),
    ⟨xs.length, by omega, Nat.zero_le _, B1, [], .lay n1.bh hDl, n1.bh.none hDl, upd_same, by rw [List.take_zero]; exact .nil⟩, ?_⟩
  rintro i m H' ⟨rfl, hi', B', acc, n', hb, hH, hd⟩
  have nDl : ∀ {j : Nat}, Dl ∉ Fs j := fun {j} ha => (E1.fre j Dl ha).2 hDl
  by_cases hlt : i < xs.length
  · refine .inr ⟨it.go i H' (by rw [hl]; exact hlt) (n'.bb.trans n'.bh), fun H' => i + 1 ≤ xs.length ∧ ∃ B' acc, Nw B1 H1 B' H' ∧ B' Dl = none ∧ H' Dl = some (.lst acc) ∧ DpAll X.K B' acc (((xs.take (i + 1)).filter p).map f), fun H' pp => ⟨xs.length - (i + 1), by omega, rfl, pp⟩, fun x H'' y => ?_⟩
    have ge : (xs.map enc)[i]? = some (enc xs[i]) := by
      rw [List.getElem?_map, List.getElem?_eq_getElem hlt]
      rfl
    obtain ⟨B2, n2, r2⟩ := it.yld i H' x H'' B' _ ge n'.bb n'.bh y
    obtain ⟨Γ', ts, hts, hg, ht, he⟩ := body i xs[i] (List.getElem?_eq_getElem hlt)
    have E2 : En X.K B2 H'' (wipe σ vs) (wipeG Γ vs) Fs := ((E1.nw n').nw n2).wipe vs
    have acl : acc.length ≤ xs.length := by
      rw [dps_len hd, List.length_map]
      refine Nat.le_trans (List.length_filter_le _ _) ?_
      rw [List.length_take]
      omega
    have eT : xs.take (i + 1) = xs.take i ++ [xs[i]] := by rw [List.take_succ_eq_append_getElem hlt]
    intro s0 H0 C0 cl0 fp0
    refine hg s0 H0 C0 cl0 fp0 (wipe σ vs) B2 H'' Fs x E2 r2 _ fun σ2 F2 E3 sb hw => ⟨(hw vs hts).trans (wipe_wipe vs), ?_⟩
    intro s1 H1' C1 cl1 fp1
    refine ht s1 H1' C1 cl1 fp1 σ2 B2 H'' F2 E3 _ fun B4 H4 n4 => ?_
    have dk : B4 Dl = none := n4.nu Dl (n2.nu Dl hb (by rw [hH]; exact fun z => nomatch z)) (by rw [n2.hh Dl _ hH]; exact fun z => nomatch z)
    have dH : H4 Dl = some (.lst acc) := n4.hh Dl _ (n2.hh Dl _ hH)
    have nAll := (n'.trans n2).trans n4
    cases hp : p xs[i] with
    | false =>
      refine iteF ⟨hlt, B4, acc, nAll, dk, dH, ?_⟩
      rw [eT, List.filter_append, List.filter_cons_of_neg (by rw [hp]; exact Bool.false_ne_true), List.filter_nil, List.append_nil]
      exact dpsUp (n2.bb.trans n4.bb) hd
    | true =>
      refine iteT ?_
      intro s2 H2' C2 cl2 fp2
      refine he hp s2 H2' C2 cl2 fp2 σ2 B4 H4 F2 (E3.nw n4) _ fun y' B5 H5 n5 r5 => ?_
      have d5 : B5 Dl = none := n5.nu Dl dk (by rw [dH]; exact fun z => nomatch z)
      have dH5 : H5 Dl = some (.lst acc) := n5.hh Dl _ dH
      have n6 := nAll.trans n5
      refine ⟨acc, dH5, Nat.lt_of_le_of_lt acl hz, hlt, B5, acc ++ [y'], ⟨n6.bb, fun a u e => ?_, fun a u e => ?_, n6.nu⟩, d5, upd_same, ?_⟩
      · rw [upd_ne (ne_of_none e d5)]
        exact n6.bh a u e
      · rw [upd_ne (ne_of_none e hDl)]
        exact n6.hh a u e
      · rw [eT, List.filter_append, List.filter_cons_of_pos hp, List.filter_nil, List.map_append]
        exact dps_app (dpsUp ((n2.bb.trans n4.bb).trans n5.bb) hd) (.cons r5 .nil)
  · have e : i = xs.length := by omega
    subst e
    rw [List.take_length] at hd
    refine .inl ⟨by rw [← hl]; exact it.stop H' (n'.bb.trans n'.bh), q Dl acc B' H' (n1.trans n') (n1.hh.none hDl) hb hH hd⟩
theorem goN_lc {elt : Expr} {ifs : List Expr} {scope : Scope} {own : List (Str × Nat)} {α : Type} {xs : List α} {enc : α → D} (p : α → Bool) (f : α → D) (hi : GoI X Γ tg iter (xs.map enc)) (hz : xs.length < sizeLine)
    (body : ∀ (k : Nat) x, xs[k]? = some x → ∃ Γ' ts, (∀ t ∈ ts, t ∈ own.map (·.2)) ∧ (Blk X scope fun X' => GoG X' (wipeG Γ (own.map (·.2))) tg (enc x) Γ' ts) ∧ (Blk X scope fun X' => GoTs X' Γ' ifs (p x)) ∧ (p x = true → Blk X scope fun X' => Go X' Γ' elt (f x)))
    (hc : X.calm = true) (hN : X.N.Nodup) (ok : BlkOk X.N X.env.scope scope own) (hs : ∀ x, foldedSetIterable iter X.env x = pure x := by intro _; rfl) :
    GoN X Γ (.ListComp elt [⟨tg, iter, ifs, 0⟩] scope pos) ((xs.filter p).map f) := .mk fun σ B H Fs E Q q =>
  toE (pe_lc (own := own) hc hN sI ok (fun s H C cl fp => ⟨fun pins s' σ H v u Q I r h => (h s _ C cl fp) pins s' u I r⟩) (fun s H C cl fp => ⟨fun pins s' σ H Q I h => (h s _ C cl fp) pins s' I⟩) (fun s H C cl fp => ⟨fun pins s' σ H Q I h => (h s _ C cl fp) pins s' I⟩) hs) (lc_run p f hi hz body E Q q)
/-- name = [..] in one line -/
theorem rs_ownLc (i : Nat) {x : Str} {p' : Pos} {elt : Expr} {ifs : List Expr} {scope : Scope} {own : List (Str × Nat)} {lpos : Pos} {α : Type} {xs : List α} {enc : α → D} (p : α → Bool) (f : α → D) (hi : GoI X Γ tg iter (xs.map enc)) (hz : xs.length < sizeLine)
    (body : ∀ (k : Nat) x, xs[k]? = some x → ∃ Γ' ts, (∀ t ∈ ts, t ∈ own.map (·.2)) ∧ (Blk X scope fun X' => GoG X' (wipeG Γ (own.map (·.2))) tg (enc x) Γ' ts) ∧ (Blk X scope fun X' => GoTs X' Γ' ifs (p x)) ∧ (p x = true → Blk X scope fun X' => Go X' Γ' elt (f x)))
    (h : N.nx (Γ.set i (.own ((xs.filter p).map f)))) (hc : X.calm = true) (hN : X.N.Nodup) (ok : BlkOk X.N X.env.scope scope own) (hx : X.N[i]? = some x := by rfl) (hyl : X.env.scope.names.lookup x = some .local := by rfl)
    (hsw : swapsWith (.ListComp elt [⟨tg, iter, ifs, 0⟩] scope lpos) (some (.Name x p')) pos.line X.env = pure true) (hs : ∀ x, foldedSetIterable iter X.env x = pure x := by intro _; rfl) :
    RnS X J N Γ (.Assign [.Name x p'] (.ListComp elt [⟨tg, iter, ifs, 0⟩] scope lpos) pos) := .mk fun B0 σ B H Fs E j =>
  toS (ps_setLc (own := own) hc hN hx hyl hsw sI ok (fun s H C cl fp => ⟨fun pins s' σ H v u Q I r h => (h s _ C cl fp) pins s' u I r⟩) (fun s H C cl fp => ⟨fun pins s' σ H Q I h => (h s _ C cl fp) pins s' I⟩) (fun s H C cl fp => ⟨fun pins s' σ H Q I h => (h s _ C cl fp) pins s' I⟩) hs)
    (lc_run p f hi hz body E (fun x H1 => gName i x σ H1 (N.ends X J B0).nx) fun l us B2 H2 n hl hb hH hd => ⟨B2, _, _, (E.nw n).setO (P := lstO ((xs.filter p).map f)) (F := [l]) i ⟨l, us, rfl, rfl, hH, hd⟩ (fun a ha => by rw [List.mem_singleton.mp ha]; exact hb)
    (fun k a ha hm => (E.fre k a ha).2 (by rw [List.mem_singleton.mp hm]; exact hl)), (j.nw n).lay fun a ha => by
      rw [List.mem_singleton.mp ha]
      cases q : J.H l with
      | none => rfl
      | some o => exact absurd hl (j.h1 l (by rw [q]; exact fun z => nomatch z)), h⟩)

/-! ### defs -/
/-- a def of data: from ar i it gives rs i, nothing that stood is changed -/
def spF {ι : Type} (K : PySem.W.Frag) (pre : ι → Prop) (ar : ι → List Mn) (rs : ι → Mn) : Sp := fun vs H Q _ => ∃ (i : ι) (B : Hp), pre i ∧ Ex B H ∧ MnAll K B vs (ar i) ∧ ∀ v B2 H2, Nw B H B2 H2 → (rs i).p K B2 v → Q v H2
theorem mn_len {K : PySem.W.Frag} {B : Hp} : ∀ {vs : List V} {Ps : List Mn}, MnAll K B vs Ps → vs.length = Ps.length
  | _, _, .nil => rfl
  | _, _, .cons _ t => by rw [List.length_cons, List.length_cons, mn_len t]
theorem mn_get {K : PySem.W.Frag} {B : Hp} : ∀ {vs : List V} {Ps : List Mn} {i : Nat} {P : Mn}, MnAll K B vs Ps → Ps[i]? = some P → ∃ v, vs[i]? = some v ∧ P.p K B v
  | _, _, _, _, .nil, e => by simp at e
  | _, _, 0, _, .cons h _, e => by
    simp only [List.getElem?_cons_zero, Option.some.injEq] at e
    subst e
    exact ⟨_, rfl, h⟩
  | _, _, i + 1, P, .cons _ t, e => by
    obtain ⟨v, h1, h2⟩ := mn_get (i := i) (P := P) t (by simpa using e)
    exact ⟨v, by simpa using h1, h2⟩
/-- the slots at a def's entry: n of them -/
def entry (Ps : List Mn) (n : Nat) : Ga := Ps.map Sl.pr ++ List.replicate (n - Ps.length) .any
theorem en_entry {K : PySem.W.Frag} {B H : Hp} {vs : List V} {Ps : List Mn} {L : List Str} (hB : Ex B H) (h : MnAll K B vs Ps) : En K B H (L2.start L vs) (entry Ps L.length) fun _ => [] where
  bh := hB
  len := by
    unfold L2.start entry
    rw [List.length_append, List.length_append, List.length_map, List.length_map, List.length_replicate, List.length_replicate, mn_len h]
  at_ := fun i s hs => by
    unfold L2.start
    unfold entry at hs
    by_cases hi : i < Ps.length
    · rw [List.getElem?_append_left (by rw [List.length_map]; exact hi), List.getElem?_map, List.getElem?_eq_getElem hi] at hs
      cases hs
      obtain ⟨v, e1, e2⟩ := mn_get h (List.getElem?_eq_getElem hi)
      refine ⟨v, ?_, e2⟩
      rw [List.getElem?_append_left (by rw [List.length_map, mn_len h]; exact hi), List.getElem?_map, e1]
      rfl
    · rw [List.getElem?_append_right (by rw [List.length_map]; omega), List.getElem?_replicate] at hs
      split at hs
      · cases hs
        trivial
      · cases hs
  fre := fun _ _ z => nomatch z
  dis := fun _ _ _ z _ => nomatch z
end
section
variable {P : Program} {w : World} {K : PySem.W.Frag} {mg : Str → Option Value} {base : Heap}
/-- THE RULE for a def of data -/
theorem def_ok {x qual : Str} {st : Stmt} {f : Addr} {fd : FuncData} {L ps : List Str} {k : Nat} {ι : Type} {pre : ι → Prop} {ar : ι → List Mn} {rs : ι → Mn} (F : Fun K x qual st f fd) (S : FnScope L ps (defScope st)) (hl : ∀ i, (ar i).length = ps.length)
    (body : ∀ (i : ι), pre i → ∀ (cdv : Value) (A : Around) (outer : List Env) (s : Shared) (H : Hp) (E : XK), Room k (A.deeper (envOfC qual (defScope st) s.heap.objs.size f cdv)) → ∀ J : Jd, J.S = [] →
      Rn (cxOf CX0 P w K mg base L qual (defScope st) f cdv A outer s H E).nox J { nx := fun _ => ∀ K B, (rs i).p K B .non, rt := rs i } (entry (ar i) L.length) (defBody st)) :
    FnOk P w K mg base CX0 (k + 1) f fd ps (spF K pre ar rs) := by
  refine F.ok S (fun vs H Q E h => ?_) fun cdv A outer s H vs Q E hr h => ?_
  · obtain ⟨i, B, _, _, h, _⟩ := h
    rw [mn_len h, hl]
  · obtain ⟨i, B, hp, hB, hv, q⟩ := h
    refine ⟨_, sSs, wpSs_mono (body i hp cdv A outer s H E hr ⟨H, [], []⟩ rfl B (L2.start L vs) B H (fun _ => []) (en_entry hB hv) ⟨.refl _, fun a h1 h2 => absurd h2 h1, fun a o h _ => h, fun a h => h, fun _ _ z => nomatch z⟩) ?_ ?_ ?_ ?_⟩
    · exact fun σ' H' ⟨B', Γ', Fs', e, j, n⟩ => q _ B' H' ⟨j.b0, e.bh, fun a o h => j.h0 a o h (by simp), fun a h1 h2 => by
        cases r : B' a with
        | none => rfl
        | some o => exact absurd (j.nb a (by rw [r]; exact fun z => nomatch z) h1) h2⟩ (n K B')
    · exact fun v H' ⟨σ', B', Γ', Fs', e, j, _, r⟩ => q v B' H' ⟨j.b0, e.bh, fun a o h => j.h0 a o h (by simp), fun a h1 h2 => by
        cases r : B' a with
        | none => rfl
        | some o => exact absurd (j.nb a (by rw [r]; exact fun z => nomatch z) h1) h2⟩ r
    · exact fun σ' H' ⟨B', Γ', Fs', e, j, n⟩ => n.elim
    · exact fun σ' H' ⟨B', Γ', Fs', e, j, n⟩ => n.elim
end
section
variable {X : Cx} {Γ : Ga} {e : Expr} {es : List Expr} {pos p : Pos}
end
end PL

set_option maxHeartbeats 2000000
namespace PL
open PySem PySem.Spec PyProof.Rows L2
/-! ### list + list, list * int -/
section
variable {X : Cx} {Γ : Ga} {a b : Expr} {ds es : List D} {pos : Pos}
def rCatL (K : PySem.W.Frag) : V → V → Hp → VK → Prop := fun x y H Q => ∃ l b xs zs, x = .ref l ∧ y = .ref b ∧ SqL K H l xs ∧ SqL K H b zs ∧ xs.length + zs.length ≤ sizeLine ∧ ∀ p, H p = none → Q (.ref p) (upd H p (.lst (xs ++ zs)))
theorem op_catL : OpR X (binaryOp .Add) (rCatL X.K) := by
  intro pins s σ H x y v u Q I rx ry h
  obtain ⟨l, b, xs, zs, rfl, rfl, hH, hB, hz, q⟩ := h
  cases rx
  cases ry
  obtain ⟨its, r, ⟨⟨cls, dd, data, sl⟩, n, ho, hc, _, hd⟩, _⟩ := I.list hH
  obtain ⟨its2, r2, ⟨⟨cls2, dd2, data2, sl2⟩, n2, ho2, hc2, _, hd2⟩, _⟩ := I.list hB
  simp only at hc hd hc2 hd2
  subst hc hd hc2 hd2
  have l1 := r.length
  have l2 := r2.length
  have ea : its.toArray ++ its2.toArray = (its ++ its2).toArray := by simp
  refine PySem.concat_meets ⟨_, ho, rfl⟩ ⟨_, ho2, rfl⟩ PySem.noFill_list_add PySem.seq_list_add PySem.F.slot_list_add PySem.F.entry_list_add (PySem.F.args_list_add_2 _ _) (PyProof.Rows.list_addW l b its.toArray its2.toArray n n2 dd dd2 sl sl2 (by rw [List.size_toArray, List.size_toArray]; omega)) ⟨ho, ho2, ?_⟩
  rw [ea]
  exact ⟨.ref _, _, I.lnew (t' := s.toks) (r.append r2) (by rw [List.length_append]; omega), rfl, q _ I.fresh⟩
theorem goN_cat (ha : Go X Γ a (.list ds)) (hb : Go X Γ b (.list es)) (hl : ds.length + es.length ≤ sizeLine) : GoN X Γ (.BinOp a .Add b pos) (ds ++ es) := .mk fun σ B H Fs E Q q =>
  toE (pe_op op_catL sE sE) (ha σ B H Fs E _ fun v B1 H1 n1 r1 => hb σ B1 H1 Fs (E.nw n1) _ fun w B2 H2 n2 r2 => by
    obtain ⟨l, vs, rfl, h2, h3⟩ := dp_lst (dpUp n2.bb r1)
    obtain ⟨m, ws, rfl, h4, h5⟩ := dp_lst r2
    have n := n1.trans n2
    exact ⟨l, m, vs, ws, rfl, rfl, n2.bh.sl h2, n2.bh.sl h4, by rw [dps_len h3, dps_len h5]; exact hl, fun p hp => q p _ B2 _ (n.trans (.lay n.bh hp)) (n.hh.none hp) (n.bh.none hp) upd_same (dps_app h3 h5)⟩)
end
/-! ### some x -/
def exP {α : Type} (p : α → Prop) (R : α → Mn) : Mn := ⟨fun K H v => ∃ x, p x ∧ (R x).p K H v, fun e ⟨x, h, r⟩ => ⟨x, h, (R x).up e r⟩⟩
section
variable {X : Cx} {J : Jd} {N : Nd} {Γ Γ1 Γ2 : Ga} {e a b c tg iter : Expr} {es : List Expr} {st : Stmt} {sts rest body : List Stmt} {P : Mn} {d : D} {ds : List D} {pos : Pos} {k : Bool}
theorem go_ex {α : Type} {p : α → Prop} {R : α → Mn} (x : α) (hx : p x) (h : GoP X Γ e (R x)) : GoP X Γ e (exP p R) := goP_imp h fun _ _ _ r => ⟨x, hx, r⟩
theorem goix_list {α : Type} {p : α → Prop} {enc : α → List D} (h : GoP X Γ iter (exP p fun x => datP (.list (enc x)))) : GoIx X Γ tg iter fun ds => ∃ x, p x ∧ ds = enc x := .mk fun σ B H Fs E R q =>
  toI (pi_list sE) (h σ B H Fs E _ fun v B2 H2 n r => by
    obtain ⟨x, hx, r⟩ := r
    obtain ⟨a, vs, rfl, h2, h3⟩ := dp_lst r
    refine ⟨a, rfl, ⟨vs, n.bh.sl h2⟩, q _ B2 H2 _ ⟨x, hx, rfl⟩ n ⟨fun i H' hi hB => ?_, fun H' hB => ⟨vs, hB.sl h2, by rw [dps_len h3]; exact Nat.le_refl _⟩, fun i H' x H2 Bc d hd hB hC y => ?_⟩⟩
    · obtain ⟨u, e1, _⟩ := dps_get h3 (List.getElem?_eq_getElem hi)
      exact ⟨vs, u, hB.sl h2, e1⟩
    · obtain ⟨e1, y⟩ := y
      subst e1
      obtain ⟨d', e3, e4⟩ := dps_getv h3 (y vs ((hB.trans hC).sl h2))
      rw [hd] at e3
      cases e3
      exact ⟨Bc, .same hC, dpUp hB e4⟩)
theorem goix_list' {p : List D → Prop} (h : GoP X Γ iter (exP p fun ds => datP (.list ds))) : GoIx X Γ tg iter p := .mk fun σ B H Fs E R q =>
  goix_list (enc := id) h σ B H Fs E R fun I B2 H2 ds ⟨x, hx, e⟩ n it => q I B2 H2 ds (e ▸ hx) n it
theorem en_ex {α : Type} {p : α → Prop} {R : α → Mn} {K B H σ Fs} {i : Nat} (hΓ : Γ[i]? = some (.pr (exP p R))) (E : En K B H σ Γ Fs) : ∃ x, p x ∧ En K B H σ (Γ.set i (.pr (R x))) Fs := by
  obtain ⟨v, h1, x, hx, r⟩ := E.at_ i _ hΓ
  refine ⟨x, hx, E.bh, by rw [List.length_set]; exact E.len, fun j s hs => ?_, E.fre, E.dis⟩
  by_cases e : j = i
  · subst e
    have hl : j < Γ.length := by
      by_cases hl : j < Γ.length
      · exact hl
      · rw [List.getElem?_eq_none (by omega)] at hΓ
        cases hΓ
    rw [List.getElem?_set_self hl] at hs
    cases hs
    exact ⟨v, h1, r⟩
  · rw [List.getElem?_set_ne (Ne.symm e)] at hs
    exact E.at_ j s hs
theorem rn_ex {α : Type} {p : α → Prop} {R : α → Mn} (i : Nat) (hΓ : Γ[i]? = some (.pr (exP p R))) (h : ∀ x, p x → Rn X J N (Γ.set i (.pr (R x))) sts) : Rn X J N Γ sts := .mk fun B0 σ B H Fs E j => by
  obtain ⟨x, hx, E'⟩ := en_ex hΓ E
  exact h x hx B0 σ B H Fs E' j
/-- a set of slots between two statements -/
theorem rs_cut (M : Ga → Prop) (h : RnS X J { N with nx := M } Γ st) (h2 : ∀ Γ', M Γ' → N.nx Γ') : RnS X J N Γ st := .mk fun B0 σ B H Fs E j =>
  wpS_mono (h B0 σ B H Fs E j) (fun σ' H' ⟨B', Γ', Fs', p1, p2, p3⟩ => ⟨B', Γ', Fs', p1, p2, h2 Γ' p3⟩) (fun _ _ z => z) (fun _ _ z => z) fun _ _ z => z
theorem rng_get {lo hi : Int} {k : Nat} {d : D} (h : ((rngI lo hi).map PyData.int)[k]? = some d) : k < (hi - lo).toNat ∧ d = .int (lo + (k : Nat)) := by
  unfold rngI at h
  by_cases hk : k < (hi - lo).toNat
  · simp only [List.map_map, List.getElem?_map, List.getElem?_range hk, Option.map_some, Option.some.injEq, Function.comp] at h
    exact ⟨hk, h.symm⟩
  · rw [List.getElem?_eq_none (by rw [List.length_map, List.length_map, List.length_range]; omega)] at h
    cases h
theorem rng_len {lo hi : Int} : ((rngI lo hi).map PyData.int).length = (hi - lo).toNat := by
  unfold rngI
  rw [List.length_map, List.length_map, List.length_range]
theorem ltZ {n : Nat} (h : n < 1000000) : n < sizeLine := Nat.lt_of_lt_of_le h (by decide)
theorem leZ {n : Nat} (h : n ≤ 1000000) : n ≤ sizeLine := Nat.le_trans h (by decide)
theorem cut63 (ns : List Int) : slD (ns.map PyData.int) none (some 63) = (ns.take 63).map .int := by
  have h : HT.sIx (ns.map PyData.int).length (ns.map PyData.int).length (some 63) = min 63 (ns.map PyData.int).length := HT.sIx_nat _ _ 63
  unfold slD
  rw [h, HT.sIx_none, List.drop_zero, Nat.sub_zero, List.map_take, List.take_eq_take_iff]
  omega
theorem cutHi (ns : List D) (n : Nat) : slD ns none (some (n : Int)) = ns.take n := by
  have h : HT.sIx ns.length ns.length (some (n : Int)) = min n ns.length := HT.sIx_nat _ _ n
  unfold slD
  rw [h, HT.sIx_none, List.drop_zero, Nat.sub_zero, List.take_eq_take_iff]
  omega
/-- the list ds is of k ints that p has -/
def IntsD (p : Int → Prop) (k : Nat) (ds : List D) : Prop := ∃ ns : List Int, ds = ns.map .int ∧ ns.length = k ∧ ∀ x ∈ ns, p x
theorem IntsD.nil {p : Int → Prop} : IntsD p 0 [] := ⟨[], rfl, rfl, fun _ h => nomatch h⟩
theorem IntsD.len {p : Int → Prop} {k : Nat} {ds : List D} (h : IntsD p k ds) : ds.length = k := by
  obtain ⟨ns, h1, h2, _⟩ := h
  rw [h1, List.length_map, h2]
theorem IntsD.push {p : Int → Prop} {k : Nat} {ds : List D} {z : Int} (h : IntsD p k ds) (hz : p z) : IntsD p (k + 1) (ds ++ [.int z]) := by
  obtain ⟨ns, h1, h2, h3⟩ := h
  refine ⟨ns ++ [z], by rw [h1, List.map_append]; rfl, by rw [List.length_append, h2, List.length_singleton], fun x hx => ?_⟩
  rcases List.mem_append.mp hx with hx | hx
  · exact h3 x hx
  · rw [List.mem_singleton.mp hx]
    exact hz
theorem IntsD.get {p : Int → Prop} {k i : Nat} {ds : List D} {d : D} (h : IntsD p k ds) (hd : ds[i]? = some d) : ∃ z, d = .int z ∧ p z ∧ i < k := by
  obtain ⟨ns, h1, h2, h3⟩ := h
  rw [h1, List.getElem?_map] at hd
  cases q : ns[i]? with
  | none =>
    rw [q] at hd
    cases hd
  | some z =>
    rw [q] at hd
    cases hd
    exact ⟨z, rfl, h3 z (List.mem_of_getElem? q), by
      rw [← h2]
      exact (List.getElem?_eq_some_iff.mp q).1⟩
/-- calm: which built-in names are still the built-in ones -/
structure Bt (mg : Str → Option Value) : Prop where
  abs : mg "abs" = none
  int : mg "int" = none
  len : mg "len" = none
  max : mg "max" = none
  range : mg "range" = none
  list : mg "list" = none
  all : mg "all" = none
  any : mg "any" = none
  sum : mg "sum" = none
  tuple : mg "tuple" = none
  sorted : mg "sorted" = none
  set : mg "set" = none
  enumerate : mg "enumerate" = none
  zip : mg "zip" = none
  isinstance : mg "isinstance" = none
  str : mg "str" = none
  bool : mg "bool" = none
  min : mg "min" = none
end
end PL

set_option maxHeartbeats 2000000
namespace PL
open PySem PySem.Spec PyProof.Rows L2
/-! ### the shape of data -/
def Shp (n : Nat) (d : D) : Prop := d.canLay0 = true ∧ d.depth ≤ n
theorem Shp.ok {n : Nat} {d : D} (h : Shp n d) (hn : n ≤ 64 := by decide) : SeqAt.shaped d = true := by
  unfold SeqAt.shaped
  rw [h.1, Bool.true_and]
  exact decide_eq_true (Nat.le_trans h.2 hn)
theorem Shp.up {n m : Nat} {d : D} (h : Shp n d) (hm : n ≤ m) : Shp m d := ⟨h.1, Nat.le_trans h.2 hm⟩
theorem Shp.int (i : Int) (n : Nat) : Shp n (.int i) := ⟨rfl, Nat.zero_le _⟩
theorem Shp.bool (i : Bool) (n : Nat) : Shp n (.bool i) := ⟨rfl, Nat.zero_le _⟩
theorem Shp.non (n : Nat) : Shp n .none := ⟨rfl, Nat.zero_le _⟩
theorem shp_all {n : Nat} : ∀ {ds : List D}, (∀ d ∈ ds, Shp n d) → PyData.canLayAll0 ds = true ∧ PyData.depthAll ds ≤ n
  | [], _ => ⟨rfl, Nat.zero_le _⟩
  | d :: r, h => by
    have h1 := h d List.mem_cons_self
    have h2 := shp_all fun x hx => h x (List.mem_cons_of_mem _ hx)
    refine ⟨?_, ?_⟩
    · show (d.canLay0 && PyData.canLayAll0 r) = true
      rw [h1.1, h2.1]
      rfl
    · show max d.depth (PyData.depthAll r) ≤ n
      exact Nat.max_le.mpr ⟨h1.2, h2.2⟩
theorem Shp.list {n : Nat} {ds : List D} (h : ∀ d ∈ ds, Shp n d) : Shp (n + 1) (.list ds) := ⟨(shp_all h).1, Nat.succ_le_succ (shp_all h).2⟩
theorem Shp.tup {n : Nat} {ds : List D} (h : ∀ d ∈ ds, Shp n d) : Shp (n + 1) (.tuple ds) := ⟨(shp_all h).1, Nat.succ_le_succ (shp_all h).2⟩
theorem Shp.ints (ns : List Int) (n : Nat) : Shp (n + 1) (.list (ns.map .int)) := Shp.list fun d hd => by
  obtain ⟨i, _, rfl⟩ := List.mem_map.mp hd
  exact Shp.int i n
/-! ### == of data -/
theorem eqv_str (i j : Str) : PyData.eqv (.str i) (.str j) = (i == j) := by simp [PyData.eqv]
theorem eqv_tup (xs ys : List D) : PyData.eqv (.tuple xs) (.tuple ys) = PyData.eqvAll xs ys := by simp [PyData.eqv]
theorem eqvAll_nil : PyData.eqvAll [] [] = true := by simp [PyData.eqvAll]
theorem eqvAll_cons (x y : D) (xs ys : List D) : PyData.eqvAll (x :: xs) (y :: ys) = (PyData.eqv x y && PyData.eqvAll xs ys) := by simp [PyData.eqvAll]
theorem atI_get' {ds : List D} {k : Nat} {d : D} (h : ds[k]? = some d) {i : Int} (hi : i = (k : Int)) : atI ds i = some d := by
  rw [hi]
  exact atI_nat h
end PL

set_option maxHeartbeats 2000000
namespace PL
open PySem PySem.Spec PyProof.Rows L2
/-! ### things of our own, at large -/
def ovl (B H : Hp) (F : List Addr) : Hp := fun a => if a ∈ F then H a else B a
theorem ovl_in {B H : Hp} {F : List Addr} {a : Addr} (h : a ∈ F) : ovl B H F a = H a := if_pos h
theorem ovl_out {B H : Hp} {F : List Addr} {a : Addr} (h : a ∉ F) : ovl B H F a = B a := if_neg h
theorem ovl_ex {B H : Hp} {F : List Addr} (hF : ∀ a ∈ F, B a = none) : Ex B (ovl B H F) := fun a o e => by
  rw [ovl_out fun z => by rw [hF a z] at e; cases e]
  exact e
theorem ovl_exH {B H : Hp} {F : List Addr} (hB : Ex B H) : Ex (ovl B H F) H := fun a o e => by
  by_cases h : a ∈ F
  · rw [ovl_in h] at e
    exact e
  · rw [ovl_out h] at e
    exact hB a o e
/-- P frozen is the data d -/
def Fz (P : Ow) (d : D) : Prop := ∀ K B H v F, P.p K B H v F → (∀ a ∈ F, B a = none) → Dp K (ovl B H F) v d
theorem fz_lst (ds : List D) : Fz (lstO ds) (.list ds) := fun K B H v F h hF => by
  obtain ⟨a, vs, rfl, h2, h3, h4⟩ := h
  exact .lst (.of (by rw [ovl_in (by rw [h2]; exact List.mem_cons_self)]; exact h3)) (dpsUp (ovl_ex hF) h4)
section
variable {K : PySem.W.Frag} {B H B2 H2 : Hp} {σ : L2.St} {Γ : Ga} {Fs : Nat → List Addr} {P : Ow} {d : D}
theorem En.iceO {i : Nat} (E : En K B H σ Γ Fs) (hΓ : Γ[i]? = some (.ob P)) (hz : Fz P d) : En K (ovl B H (Fs i)) H σ (Γ.set i (.dat d)) (off Fs i []) := by
  obtain ⟨v, h1, h2⟩ := E.at_ i _ hΓ
  have e1 : Ex B (ovl B H (Fs i)) := ovl_ex fun a ha => (E.fre i a ha).1
  refine ⟨ovl_exH E.bh, by rw [List.length_set, E.len], fun j s hs => ?_, fun j b hb' => ?_, fun j k b h1 h2 => E.dis j k b (off_sub h1) (off_sub h2)⟩
  · by_cases e : j = i
    · subst e
      have hl : j < Γ.length := by
        by_cases hl : j < Γ.length
        · exact hl
        · rw [List.getElem?_eq_none (by omega)] at hΓ
          cases hΓ
      rw [List.getElem?_set_self hl] at hs
      cases hs
      exact ⟨v, h1, hz _ _ _ _ _ h2 fun a ha => (E.fre j a ha).1⟩
    · rw [List.getElem?_set_ne (Ne.symm e)] at hs
      rw [off_ne e]
      have := E.at_ j s hs
      cases s with
      | any => trivial
      | pr P =>
        obtain ⟨v, h1, h2⟩ := this
        exact ⟨v, h1, P.up e1 h2⟩
      | ob P =>
        obtain ⟨v, h1, h2⟩ := this
        exact ⟨v, h1, P.upB e1 h2⟩
  · have hj : j ≠ i := fun e => by
      rw [e, off_same] at hb'
      cases hb'
    rw [off_ne hj] at hb'
    refine ⟨?_, (E.fre j b hb').2⟩
    have ne : b ∉ Fs i := fun z => hj (E.dis j i b hb' z)
    rw [ovl_out ne]
    exact (E.fre j b hb').1
end
/-- an expression that gives a new thing -/
structure GoU (X : Cx) (Γ : Ga) (e : Expr) (P : Ow) : Prop where
  run : ∀ σ B H Fs, En X.K B H σ Γ Fs → ∀ Q : VK,
  (∀ v F B2 H2, Nw B H B2 H2 → P.p X.K B2 H2 v F → (∀ a ∈ F, H a = none ∧ B2 a = none) → Q v H2) → wpE X e σ H Q
instance {X : Cx} {Γ : Ga} {e : Expr} {P : Ow} : CoeFun (GoU X Γ e P) fun _ => ∀ σ B H Fs, En X.K B H σ Γ Fs → ∀ Q : VK,
    (∀ v F B2 H2, Nw B H B2 H2 → P.p X.K B2 H2 v F → (∀ a ∈ F, H a = none ∧ B2 a = none) → Q v H2) → wpE X e σ H Q := ⟨GoU.run⟩
section
variable {X : Cx} {J : Jd} {N : Nd} {Γ Γ1 Γ2 : Ga} {e a b c tg iter : Expr} {es : List Expr} {st : Stmt} {sts rest body : List Stmt} {P : Ow} {d : D} {ds : List D} {pos : Pos} {k : Bool}
theorem goU_of_N (h : GoN X Γ e ds) : GoU X Γ e (lstO ds) := .mk fun σ B H Fs E Q q => h σ B H Fs E Q fun p vs B2 H2 n hp hb hH hd => q _ [p] B2 H2 n ⟨p, vs, rfl, rfl, hH, hd⟩ fun a ha => by
  rw [List.mem_singleton.mp ha]
  exact ⟨hp, hb⟩
theorem go_of_U (h : GoU X Γ e P) (hz : Fz P d) : Go X Γ e d := .mk fun σ B H Fs E Q q => h σ B H Fs E Q fun v F B2 H2 n hv hF => by
  refine q v (ovl B2 H2 F) H2 ⟨n.bb.trans (ovl_ex fun a ha => (hF a ha).2), ovl_exH n.bh, n.hh, fun a h1 h2 => ?_⟩ (hz _ _ _ _ _ hv fun a ha => (hF a ha).2)
  rw [ovl_out fun z => h2 (hF a z).1]
  exact n.nu a h1 h2
theorem rs_ownU (i : Nat) {x : Str} {p' : Pos} (he : GoU X Γ e P) (h : N.nx (Γ.set i (.ob P))) (hN : X.N.Nodup) (hi : X.N[i]? = some x := by rfl) (hx : Loc X.env.scope x := by first | exact .inl rfl | exact .inr rfl)
    (hs : swapsWith e (some (.Name x p')) pos.line X.env = pure false := by rfl) (hf : X.fn x = true ∨ X.env.scope.names.lookup x = some .local := by first | exact .inl rfl | exact .inr rfl) : RnS X J N Γ (.Assign [.Name x p'] e pos) := .mk fun B0 σ B H Fs E j =>
  toS (ps_set hN hi hx sE hs hf) (he σ B H Fs E _ fun v F B2 H2 n hv hF => ⟨B2, _, _, (E.nw n).setO (P := P) (F := F) i hv (fun a ha => (hF a ha).2)
    (fun k a ha hm => (E.fre k a ha).2 (hF a hm).1), (j.nw n).lay fun a ha => by
      cases q : J.H a with
      | none => rfl
      | some o => exact absurd (hF a ha).1 (j.h1 a (by rw [q]; exact fun z => nomatch z)), h⟩)
theorem rn_iceO (i : Nat) (hΓ : Γ[i]? = some (.ob P)) (hz : Fz P d) (hi : i ∉ J.S) (h : Rn X J N (Γ.set i (.dat d)) sts) : Rn X J N Γ sts := .mk fun B0 σ B H Fs E j => by
  have E2 := E.iceO hΓ hz
  have e1 : Ex B (ovl B H (Fs i)) := ovl_ex fun a ha => (E.fre i a ha).1
  refine h B0 σ _ H _ E2 ⟨j.b0.trans e1, fun b h1 h2 => ?_, j.h0, j.h1, fun k a ha => j.fm k a (off_sub ha)⟩
  by_cases q : b ∈ Fs i
  · rcases j.fm i b q with z | z
    · exact z
    · exact absurd z.2 hi
  · rw [ovl_out q] at h1
    exact j.nb b h1 h2
/-- handed back: a new thing -/
theorem rs_retU (h : GoU X Γ e P) (hn : N.rn = some P := by rfl) (hG : N.rG Γ := by exact trivial) : RnS X J N Γ (.Return (some e) pos) := .mk fun B0 σ B H Fs E j =>
  toS (ps_ret sE) (h σ B H Fs E _ fun v F B2 H2 n hv hF => ⟨σ, B2, Γ, Fs, E.nw n, j.nw n, hG, by
    rw [hn]
    refine ⟨F, hv, fun a ha => ⟨?_, (hF a ha).2⟩, fun m _ a ha hb => (E.fre m a hb).2 (hF a ha).1⟩
    cases q : J.H a with
    | none => rfl
    | some o => exact absurd (hF a ha).1 (j.h1 a (by rw [q]; exact fun z => nomatch z))⟩)

/-! ### a list of lists of our own -/
inductive LLs (K : PySem.W.Frag) (B H : Hp) : List Addr → List (List D) → Prop
  | nil : LLs K B H [] []
  | cons {p : Addr} {us : List V} {ps : List Addr} {ds : List D} {dss : List (List D)} : H p = some (.lst us) → DpAll K B us ds → LLs K B H ps dss → LLs K B H (p :: ps) (ds :: dss)
theorem LLs.mono {K : PySem.W.Frag} {B B' H H' : Hp} (eB : Ex B B') : ∀ {ps : List Addr} {dss : List (List D)}, LLs K B H ps dss → (∀ a ∈ ps, H' a = H a) → LLs K B' H' ps dss
  | _, _, .nil, _ => .nil
  | _, _, .cons h1 h2 t, h => .cons ((h _ List.mem_cons_self).trans h1) (dpsUp eB h2) (LLs.mono eB t fun a ha => h a (List.mem_cons_of_mem _ ha))
theorem LLs.dom {K : PySem.W.Frag} {B H : Hp} : ∀ {ps : List Addr} {dss : List (List D)}, LLs K B H ps dss → ∀ a ∈ ps, H a ≠ none
  | _, _, .cons h1 h2 t, a, ha => by
    rcases List.mem_cons.mp ha with e | e
    · rw [e, h1]
      exact fun z => nomatch z
    · exact t.dom a e
theorem LLs.dps {K : PySem.W.Frag} {B H : Hp} {B' : Hp} (eB : Ex B B') : ∀ {ps : List Addr} {dss : List (List D)}, LLs K B H ps dss → (∀ a ∈ ps, B' a = H a) → DpAll K B' (ps.map .ref) (dss.map .list)
  | _, _, .nil, _ => .nil
  | _, _, .cons h1 h2 t, h => .cons (.lst (.of ((h _ List.mem_cons_self).trans h1)) (dpsUp eB h2)) (LLs.dps eB t fun a ha => h a (List.mem_cons_of_mem _ ha))
theorem LLs.get {K : PySem.W.Frag} {B H : Hp} : ∀ {ps : List Addr} {dss : List (List D)} {i : Nat} {ds : List D}, LLs K B H ps dss → dss[i]? = some ds → ∃ p us, ps[i]? = some p ∧ H p = some (.lst us) ∧ DpAll K B us ds
  | _, _, 0, _, .cons h1 h2 _, e => by
    simp only [List.getElem?_cons_zero, Option.some.injEq] at e
    subst e
    exact ⟨_, _, rfl, h1, h2⟩
  | _, _, i + 1, ds, .cons _ _ t, e => by
    obtain ⟨p, us, h1, h2⟩ := t.get (i := i) (ds := ds) (by simpa using e)
    exact ⟨p, us, by simpa using h1, h2⟩
theorem LLs.set {K : PySem.W.Frag} {B H : Hp} {us : List V} {es : List D} (hd : DpAll K B us es) : ∀ {ps : List Addr} {dss : List (List D)} {i : Nat} {p : Addr}, LLs K B H ps dss → ps.Nodup → ps[i]? = some p → LLs K B (upd H p (.lst us)) ps (dss.set i es)
  | _, _, 0, _, .cons h1 h2 t, hn, e => by
    simp only [List.getElem?_cons_zero, Option.some.injEq] at e
    subst e
    exact .cons upd_same hd (t.mono (.refl _) fun a ha => upd_ne fun z => (List.nodup_cons.mp hn).1 (z ▸ ha))
  | _, _, i + 1, p, .cons h1 h2 t, hn, e => by
    have e' := by simpa using e
    have ne := List.mem_of_getElem? e'
    refine .cons ?_ h2 (LLs.set hd t (List.nodup_cons.mp hn).2 e')
    refine (upd_ne ?_).trans h1
    intro z
    rw [← z] at ne
    exact (List.nodup_cons.mp hn).1 ne
def llO (dss : List (List D)) : Ow where
  p := fun K B H v F => ∃ a ps, v = .ref a ∧ F = a :: ps ∧ H a = some (.lst (ps.map .ref)) ∧ F.Nodup ∧ LLs K B H ps dss
  upB := fun e ⟨a, ps, h1, h2, h3, h4, h5⟩ => ⟨a, ps, h1, h2, h3, h4, h5.mono e fun _ _ => rfl⟩
  loc := fun e ⟨a, ps, h1, h2, h3, h4, h5⟩ => ⟨a, ps, h1, h2, (e a (by rw [h2]; exact List.mem_cons_self)).trans h3, h4, h5.mono (.refl _) fun b hb => e b (by rw [h2]; exact List.mem_cons_of_mem _ hb)⟩
  dom := fun ⟨a, ps, h1, h2, h3, h4, h5⟩ b hb => by
    rw [h2] at hb
    rcases List.mem_cons.mp hb with e | e
    · rw [e, h3]
      exact fun z => nomatch z
    · exact h5.dom b e
/-- arguments that are new lists -/
structure GoNs (X : Cx) (Γ : Ga) (es : List Expr) (dss : List (List D)) : Prop where
  run : ∀ σ B H Fs, En X.K B H σ Γ Fs → ∀ Q : List V → Hp → Prop,
  (∀ ps B2 H2, Nw B H B2 H2 → (∀ a ∈ ps, H a = none ∧ B2 a = none) → ps.Nodup → LLs X.K B2 H2 ps dss → Q (ps.map .ref) H2) → wpA X es σ H Q
instance {X : Cx} {Γ : Ga} {es : List Expr} {dss : List (List D)} : CoeFun (GoNs X Γ es dss) fun _ => ∀ σ B H Fs, En X.K B H σ Γ Fs → ∀ Q : List V → Hp → Prop,
    (∀ ps B2 H2, Nw B H B2 H2 → (∀ a ∈ ps, H a = none ∧ B2 a = none) → ps.Nodup → LLs X.K B2 H2 ps dss → Q (ps.map .ref) H2) → wpA X es σ H Q := ⟨GoNs.run⟩
theorem gons_nil : GoNs X Γ [] [] := .mk fun σ B H Fs E Q q => toA pa_nil (q [] B H (.same E.bh) (fun _ z => nomatch z) List.nodup_nil .nil)
theorem gons_cons {dss : List (List D)} (he : GoN X Γ e ds) (ht : GoNs X Γ es dss) (hs : starEach (e :: es) X.env = (false, eval e X.env) :: starEach es X.env := by rfl) : GoNs X Γ (e :: es) (ds :: dss) := .mk fun σ B H Fs E Q q =>
  toA (pa_cons sE sA hs) (he σ B H Fs E _ fun p vs B1 H1 n1 hp hb hH hd => ht σ B1 H1 Fs (E.nw n1) _ fun ps B2 H2 n2 hps nd ll => by
    refine q (p :: ps) B2 H2 (n1.trans n2) (fun a ha => ?_) (List.nodup_cons.mpr ⟨fun z => ?_, nd⟩) (.cons (n2.hh _ _ hH) (dpsUp n2.bb hd) ll)
    · rcases List.mem_cons.mp ha with e | e
      · rw [e]
        exact ⟨hp, n2.nu p hb (by rw [hH]; exact fun z => nomatch z)⟩
      · exact ⟨n1.hh.none (hps a e).1, (hps a e).2⟩
    · have := (hps p z).1
      rw [hH] at this
      cases this)
/-! ### a list within a thing of our own, changed by a method -/
/-- e is a list ds within the thing P of the slot i; W: the thing with another list there -/
structure GoL (X : Cx) (Γ : Ga) (e : Expr) (i : Nat) (ds : List D) (W : List D → Ow) : Prop where
  run : ∀ σ B H Fs, En X.K B H σ Γ Fs → ∀ Q : VK,
  (∀ p vs v B2 H2, Nw B H B2 H2 → σ[i]? = some (some v) → p ∈ Fs i → H2 p = some (.lst vs) → DpAll X.K B2 vs ds →
    (∀ B' H', Ex B2 B' → (∀ a ∈ Fs i, H' a = H2 a) → ∀ us es, DpAll X.K B' us es → (W es).p X.K B' (upd H' p (.lst us)) v (Fs i)) → Q (.ref p) H2) → wpE X e σ H Q
instance {X : Cx} {Γ : Ga} {e : Expr} {i : Nat} {ds : List D} {W : List D → Ow} : CoeFun (GoL X Γ e i ds W) fun _ => ∀ σ B H Fs, En X.K B H σ Γ Fs → ∀ Q : VK,
    (∀ p vs v B2 H2, Nw B H B2 H2 → σ[i]? = some (some v) → p ∈ Fs i → H2 p = some (.lst vs) → DpAll X.K B2 vs ds →
      (∀ B' H', Ex B2 B' → (∀ a ∈ Fs i, H' a = H2 a) → ∀ us es, DpAll X.K B' us es → (W es).p X.K B' (upd H' p (.lst us)) v (Fs i)) → Q (.ref p) H2) → wpE X e σ H Q := ⟨GoL.run⟩
theorem En.chg {K B H σ Γ Fs} {i : Nat} {v : V} {p : Addr} {us : List V} {W : Ow} (E : En K B H σ Γ Fs) (hi : i < Γ.length) (hσ : σ[i]? = some (some v)) (hp : p ∈ Fs i) (hW : W.p K B (L2.upd H p (.lst us)) v (Fs i)) : En K B (L2.upd H p (.lst us)) σ (Γ.set i (.ob W)) Fs := by
  have hb : B p = none := (E.fre i p hp).1
  have nf : ∀ j, j ≠ i → p ∉ Fs j := fun j hj ha => hj (E.dis j i p ha hp)
  refine ⟨fun b u e => ?_, by rw [List.length_set, E.len], fun j s hs => ?_, fun j b hb' => ⟨(E.fre j b hb').1, fun z => ?_⟩, E.dis⟩
  · rw [upd_ne (ne_of_none e hb)]
    exact E.bh b u e
  · by_cases e : j = i
    · subst e
      rw [List.getElem?_set_self hi] at hs
      cases hs
      exact ⟨v, hσ, hW⟩
    · rw [List.getElem?_set_ne (Ne.symm e)] at hs
      have := E.at_ j s hs
      cases s with
      | any => trivial
      | pr P => exact this
      | ob P =>
        obtain ⟨v, h1, h2⟩ := this
        exact ⟨v, h1, P.loc (fun b hb' => upd_ne (show b ≠ p from fun z => nf j e (z ▸ hb'))) h2⟩
  · by_cases e : b = p
    · rw [e, upd_same] at z
      cases z
    · rw [upd_ne e] at z
      exact (E.fre j b hb').2 z
theorem rs_appL {i : Nat} {W : List D → Ow} {o : Expr} {ap cp : Pos} (ho : GoL X Γ o i ds W) (he : Go X Γ e d) (hl : ds.length < sizeLine) (h : N.nx (Γ.set i (.ob (W (ds ++ [d]))))) (hi : i < Γ.length)
    (hbase : attributeBase o "append" X.env (eval o X.env) = eval o X.env := by rfl)
    (hfew : ((backTo cp (starEach [e] X.env)).all (fun x => !x.1) && (backToKw cp (keywordEach [] X.env)).all (fun x => x.1.isSome)
      && decide ([e].length + ([] : List Keyword).length + (if ([] : List Keyword).isEmpty then 0 else 1) < 30)) = true := by rfl)
    (hline : (ap.endLine == cp.line) = true := by rfl) (hs : starEach [e] X.env = (false, eval e X.env) :: starEach [] X.env := by rfl) (hplain : (backTo cp (starEach [] X.env)).any (·.1) = false := by rfl)
    (hsw : swapsWith (.Call (.Attribute o "append" ap) [e] [] cp) none pos.line X.env = pure false := by rfl) : RnS X J N Γ (.Expr (.Call (.Attribute o "append" ap) [e] [] cp) pos) := .mk fun B0 σ B H Fs E j =>
  toS (ps_expr (pe_bm PySem.F.plainAttrs_list PySem.F.slot_list_append PySem.F.type_list_append mt_append sE (pa_cons sE pa_nil hs) hbase hfew hline hs hplain) hsw) (ho σ B H Fs E _ fun p vs v B1 H1 n1 hσ hp hH hd up => by
    refine ⟨.inl ⟨rfl, vs, .of hH⟩, he σ B1 H1 Fs (E.nw n1) _ fun w B2 H2 n2 r => ?_⟩
    have n := n1.trans n2
    have sm : ∀ a ∈ Fs i, H2 a = H1 a := fun a ha => by
      cases q : H1 a with
      | none => exact absurd q ((E.nw n1).fre i a ha).2
      | some o => exact n2.hh a o q
    refine ⟨p, vs, w, rfl, rfl, n2.hh _ _ hH, by rw [dps_len hd]; exact hl, B2, _, _, (E.nw n).chg hi hσ hp (up B2 H2 n2.bb sm _ _ (dps_app (dpsUp n2.bb hd) (.cons r .nil))), (j.nw n).upd ?_, h⟩
    rcases j.fm i p hp with z | z
    · exact .inl z
    · exact .inr z.1)
/-! ### isinstance of data -/
def tyD : D → String
  | .none => "NoneType"
  | .bool _ => "bool"
  | .int _ => "int"
  | .str _ => "str"
  | .list _ => "list"
  | .tuple _ => "tuple"
  | .dict _ => "dict"
theorem dp_ty {K : PySem.W.Frag} {H : Hp} {v : V} {d : D} (h : Dp K H v d) : TyX K H v (.type (tyD d)) := by
  cases h with
  | non => exact .base .non
  | bl b => exact .base (.bl b)
  | int i => exact .base (.int i)
  | str x => exact .base (.str x)
  | lst h _ =>
    rcases h with (h | ⟨o, h⟩) | ⟨o, its, n, h1, h2, _⟩
    · exact .base (.lst h)
    · exact .base (.frz h)
    · exact .kList h1 h2
  | tup h _ =>
    rcases h with (h | ⟨o, h⟩) | ⟨o, its, n, h1, h2, _⟩
    · exact .base (.tup h)
    · exact .fTuple h
    · exact .kTuple h1 h2
def tyP (n : String) : Mn := ⟨fun _ _ v => v = .ty n, fun _ h => h⟩
theorem go_ty {x : Str} {n : String} (hm : X.mg x = none) (hv : bootBuiltins x = some (.type n)) (hg : Gl X x := by rfl) (hn : x ≠ "__name__" := by decide) (hd : (x == ("__debug__" : Str)) = false := by decide) : GoP X Γ (.Name x pos) (tyP n) := .mk fun σ B H Fs E Q q =>
  toE (pe_bltn hg hm hv (v := .ty n) rfl hn hd) (q _ B H (.same E.bh) rfl)
theorem go_isi {x : Str} {n : String} {r : Bool} {p p2 : Pos} (ha : Go X Γ a d) (hmi : X.mg "isinstance" = none) (hm : X.mg x = none) (hv : bootBuiltins x = some (.type n)) (hr : kitB (tyD d) n = some r) (hgi : Gl X "isinstance" := by rfl) (hg : Gl X x := by rfl)
    (hn : x ≠ "__name__" := by decide) (hd : (x == ("__debug__" : Str)) = false := by decide) (he : starEach [a, .Name x p2] X.env = (false, eval a X.env) :: starEach [.Name x p2] X.env := by rfl) (he2 : starEach [.Name x p2] X.env = (false, eval (.Name x p2) X.env) :: starEach [] X.env := by rfl) :
    Go X Γ (.Call (.Name "isinstance" p) [a, .Name x p2] [] pos) (.bool r) :=
  go_callB call_isi hgi hmi PyProof.Rows.boot_isinstance (goA_cons ha (goA_cons (go_ty hm hv hg hn hd) goA_nil he2) he) (fun vs B H hB rr Q q => by
    obtain ⟨v, w, rfl, h, h2⟩ := mn2 rr
    have h2 : w = .ty n := h2
    subst h2
    exact ⟨v, .ty n, _, _, r, rfl, .ty n, dp_ty (dpUp hB h), kit_ty hr, q _ B H (.same hB) (Dp.bl _)⟩) (by decide) (by decide) he (by rw [he2]; rfl)
end
/-! ### a def that hands back a new thing -/
def spU {ι : Type} (K : PySem.W.Frag) (pre : ι → Prop) (ar : ι → List Mn) (rs : ι → Ow) : Sp := fun vs H Q _ => ∃ (i : ι) (B : Hp), pre i ∧ Ex B H ∧ MnAll K B vs (ar i) ∧ ∀ v F B2 H2, Nw B H B2 H2 → (rs i).p K B2 H2 v F → (∀ a ∈ F, H a = none ∧ B2 a = none) → Q v H2
section
variable {P : Program} {w : World} {K : PySem.W.Frag} {mg : Str → Option Value} {base : Heap}
end
section
variable {X : Cx} {Γ : Ga} {e : Expr} {es : List Expr} {pos p : Pos}
end
end PL

set_option maxHeartbeats 2000000
namespace PL
open PySem PySem.Spec PyProof.Rows L2
/-! ### one rule a construct, whatever the kinds of data -/
local macro_rules | `(tactic| walk_at "pside") => `(tactic| first | exact True.intro | assumption | omega | decide | (refine ⟨?_, ?_⟩ <;> walk_at "pside") | walk_at "pshp" | (simp only [List.length_map, List.length_cons, List.length_nil, List.length_append]; omega))
local macro_rules | `(tactic| walk_at "pshp") => `(tactic| first | exact Shp.ok (by walk_at "psh"))
local macro_rules | `(tactic| walk_at "psh") => `(tactic| first | exact Shp.int _ 0 | exact Shp.bool _ 0 | exact Shp.non 0 | assumption | exact Shp.ints _ 0)
/-- ints that are small enough for a product -/
def MulOk (i j : Int) : Prop := (-(2 ^ 64) < i ∧ i < 2 ^ 64) ∨ (-(2 ^ 64) < j ∧ j < 2 ^ 64)
def BinOk (op : Operator) (x y d : D) : Prop := match op, x, y with
  | .Add, .int i, .int j => d = .int (i + j) ∧ True
  | .Add, .str a, .str b => d = .str (a ++ b) ∧ a.length + b.length ≤ sizeLine
  | .Add, .list a, .list b => d = .list (a ++ b) ∧ a.length + b.length ≤ sizeLine
  | .Add, .tuple a, .tuple b => d = .tuple (a ++ b) ∧ a.length + b.length ≤ sizeLine
  | .Sub, .int i, .int j => d = .int (i - j) ∧ True
  | .Mult, .int i, .int j => d = .int (i * j) ∧ ((-(2 ^ 64) < i ∧ i < 2 ^ 64) ∨ (-(2 ^ 64) < j ∧ j < 2 ^ 64))
  | .FloorDiv, .int i, .int j => d = .int (i / j) ∧ (0 < j ∧ j < 1073741824)
  | .Mod, .int i, .int j => d = .int (i % j) ∧ 0 < j
  | .Pow, .int i, .int j => d = .int (i ^ j.toNat) ∧ (0 ≤ j ∧ j ≤ 1000000 ∧ i.natAbs < 2 ^ 64)
  | .LShift, .int i, .int j => d = .int (i * 2 ^ j.toNat) ∧ (0 ≤ j ∧ j ≤ 1000000 ∧ i.natAbs < 2 ^ 64)
  | .RShift, .int i, .int j => d = .int (i / 2 ^ j.toNat) ∧ 0 ≤ j
  | .BitAnd, .int i, .int j => d = .int (Builtin.bitAnd i j) ∧ True
  | .BitOr, .int i, .int j => d = .int (Builtin.bitOr i j) ∧ True
  | .BitXor, .int i, .int j => d = .int (Builtin.bitXor i j) ∧ True
  | _, _, _ => False
section
variable {X : Cx} {J : Jd} {N : Nd} {Γ Γ1 Γ2 : Ga} {e a b c tg iter : Expr} {es rest : List Expr} {st : Stmt} {sts body : List Stmt} {P : Mn} {d x y z : D} {ds : List D} {pos p : Pos} {k l : Bool} {i : Nat}
theorem go_addT {us ws : List D} (ha : Go X Γ a (.tuple us)) (hb : Go X Γ b (.tuple ws)) (hl : us.length + ws.length ≤ sizeLine) : Go X Γ (.BinOp a .Add b pos) (.tuple (us ++ ws)) := go_op2 op_catA ha hb fun v w B H hB r1 r2 Q q => by
  obtain ⟨l, vs, rfl, h2, h3⟩ := dp_tup r1
  obtain ⟨m, zs, rfl, h4, h5⟩ := dp_tup r2
  refine ⟨l, m, vs, zs, rfl, rfl, hB.st h2, hB.st h4, by rw [dps_len h3, dps_len h5]; exact hl, fun e => ?_, fun e1 e2 => ?_, fun e1 e2 p hp => ?_⟩
  · subst e
    have e : us = [] := by
      cases h3
      rfl
    subst e
    exact q _ B H (.same hB) r2
  · subst e2
    have e : ws = [] := by
      cases h5
      rfl
    subst e
    rw [List.append_nil] at q
    exact q _ B H (.same hB) r1
  · have nn := Nw.new (o := .tup (vs ++ zs)) hB hp
    exact q _ _ _ nn (Dp.tup (.of upd_same) (dpsUp nn.bb (dps_app h3 h5)))
theorem gx_bin {op : Operator} (ha : Go X Γ a x) (hb : Go X Γ b y) (h : BinOk op x y d := by exact ⟨rfl, by walk_at "pside"⟩) : Go X Γ (.BinOp a op b pos) d := by
  cases op <;> cases x <;> cases y <;> (try exact h.elim) <;> obtain ⟨rfl, h⟩ := h
  · exact go_add ha hb
  · exact go_addS ha hb h
  · exact go_of_new (goN_cat ha hb h)
  · exact go_addT ha hb h
  · exact go_sub ha hb
  · exact go_mul ha hb h
  all_goals first
    | exact go_mod ha hb h
    | exact go_pow ha hb h
    | exact go_shl ha hb h
    | exact go_shr ha hb h
    | exact go_or ha hb
    | exact go_xor ha hb
    | exact go_and ha hb
    | exact go_fdiv ha hb h

/-! comparisons -/
def flatD : D → Bool
  | .none => true
  | .bool _ => true
  | .int _ => true
  | .str _ => true
  | _ => false
def CmpOk (op : CmpOp) (x y : D) (k : Bool) : Prop := match op, x, y with
  | .Lt, .int i, .int j => k = decide (i < j) ∧ True
  | .LtE, .int i, .int j => k = decide (i ≤ j) ∧ True
  | .Gt, .int i, .int j => k = decide (j < i) ∧ True
  | .GtE, .int i, .int j => k = decide (j ≤ i) ∧ True
  | .Lt, .str i, .str j => k = decide (i.cps.toList < j.cps.toList) ∧ True
  | .Eq, .int i, .int j => k = decide (i = j) ∧ True
  | .NotEq, .int i, .int j => k = (!decide (i = j)) ∧ True
  | .Eq, .str i, .str j => k = decide (i = j) ∧ True
  | .NotEq, .str i, .str j => k = (!decide (i = j)) ∧ True
  | .Eq, .bool i, .bool j => k = (i == j) ∧ True
  | .NotEq, .bool i, .bool j => k = (i != j) ∧ True
  | .Eq, x, y => k = PyData.eqv x y ∧ (SeqAt.shaped x = true ∧ SeqAt.shaped y = true)
  | .NotEq, x, y => k = (!PyData.eqv x y) ∧ (SeqAt.shaped x = true ∧ SeqAt.shaped y = true)
  | .In, x, .list ds => k = hasD ds x ∧ (SeqAt.shaped x = true ∧ SeqAt.shaped (.list ds) = true)
  | .NotIn, x, .list ds => k = (!hasD ds x) ∧ (SeqAt.shaped x = true ∧ SeqAt.shaped (.list ds) = true)
  | .In, x, .tuple ds => k = hasD ds x ∧ (flatD x = true ∧ ds.all flatD = true)
  | .NotIn, x, .tuple ds => k = (!hasD ds x) ∧ (flatD x = true ∧ ds.all flatD = true)
  | _, _, _ => False
theorem gc_ltS {i j : Str} (ha : Go X Γ a (.str i)) (hb : Go X Γ b (.str j)) : GoC X Γ .Lt a b (decide (i.cps.toList < j.cps.toList)) := go_cmp2 op_lt_str ha hb (fun v w B H hB r1 r2 Q q => by
  rw [dp_str r1, dp_str r2]
  exact ⟨i, j, rfl, rfl, q⟩)
theorem flat_eq {K : PySem.W.Frag} {H : Hp} {v w : V} {x y : D} (hv : Dp K H v x) (hw : Dp K H w y) (h1 : flatD x = true) (h2 : flatD y = true) : eqV v w = PyData.eqv x y ∧ flatV v = true ∧ flatV w = true := by
  cases hv <;> cases hw <;> first | (cases h1; done) | (cases h2; done) | (refine ⟨?_, rfl, rfl⟩; simp [eqV, PyData.eqv])
theorem flat_in {K : PySem.W.Frag} {H : Hp} {v : V} {x : D} (hv : Dp K H v x) (h1 : flatD x = true) : ∀ {vs : List V} {ds : List D}, DpAll K H vs ds → ds.all flatD = true → inV v vs = hasD ds x ∧ vs.all flatV = true
  | _, _, .nil, _ => ⟨rfl, rfl⟩
  | _, _, .cons (v := u) (d := d) h t, h2 => by
    rw [List.all_cons, Bool.and_eq_true] at h2
    obtain ⟨e1, e2⟩ := flat_in hv h1 t h2.2
    obtain ⟨f1, f2, f3⟩ := flat_eq h hv h2.1 h1
    unfold inV at e1 ⊢
    unfold hasD at e1 ⊢
    rw [List.any_cons, List.any_cons, e1, f1, List.all_cons, f2, e2]
    exact ⟨rfl, rfl⟩
theorem flat_v {K : PySem.W.Frag} {H : Hp} {v : V} {x : D} (hv : Dp K H v x) (h1 : flatD x = true) : flatV v = true := by
  cases hv <;> first | rfl | cases h1
theorem gc_inT (ha : Go X Γ a x) (hb : Go X Γ b (.tuple ds)) (h1 : flatD x = true) (h2 : ds.all flatD = true) : GoC X Γ .In a b (hasD ds x) := go_cmp2 op_in_seq ha hb fun v w B H hB r1 r2 Q q => by
  obtain ⟨l, vs, rfl, h3, h4⟩ := dp_tup r2
  obtain ⟨e1, e2⟩ := flat_in r1 h1 h4 h2
  refine ⟨l, vs, rfl, .inr (hB.st h3), flat_v r1 h1, e2, ?_⟩
  rw [e1]
  exact q
theorem gc_notInT (ha : Go X Γ a x) (hb : Go X Γ b (.tuple ds)) (h1 : flatD x = true) (h2 : ds.all flatD = true) : GoC X Γ .NotIn a b (!hasD ds x) := go_cmp2 op_notIn_seq ha hb fun v w B H hB r1 r2 Q q => by
  obtain ⟨l, vs, rfl, h3, h4⟩ := dp_tup r2
  obtain ⟨e1, e2⟩ := flat_in r1 h1 h4 h2
  refine ⟨l, vs, rfl, .inr (hB.st h3), flat_v r1 h1, e2, ?_⟩
  rw [e1]
  exact q
theorem gx_c {op : CmpOp} (hu : UOk X) (ha : Go X Γ a x) (hb : Go X Γ b y) (h : CmpOk op x y k := by exact ⟨rfl, by walk_at "pside"⟩) : GoC X Γ op a b k := by
  cases op <;> cases x <;> cases y <;> (try exact h.elim) <;> obtain ⟨rfl, h⟩ := h <;> first
    | exact gc_lt ha hb
    | exact gc_le ha hb
    | exact gc_gt ha hb
    | exact gc_ge ha hb
    | exact gc_ltS ha hb
    | exact gc_eqI ha hb
    | exact gc_neI ha hb
    | exact gc_eqS ha hb
    | exact gc_neS ha hb
    | exact gc_eqB ha hb
    | exact gc_neB ha hb
    | exact gc_eqD hu ha hb h.1 h.2
    | exact gc_neD hu ha hb h.1 h.2
    | exact gc_in hu ha hb h.1 h.2
    | exact gc_notIn hu ha hb h.1 h.2
    | exact gc_inT ha hb h.1 h.2
    | exact gc_notInT ha hb h.1 h.2
/-! index, len, truth -/
def IxOk (x y d : D) : Prop := match x, y with
  | .list ds, .int i => atI ds i = some d
  | .tuple ds, .int i => atI ds i = some d
  | .str z, .int i => z.length ≤ sizeLine ∧ ∃ m, atI z.cps.toList i = some m ∧ d = .str ⟨#[m]⟩
  | _, _ => False
theorem gx_ix (ha : Go X Γ a x) (hb : Go X Γ b y) (h : IxOk x y d := by walk_at "pix") (hs : PlainIx b := by exact fun _ _ => rfl) : Go X Γ (.Subscript a b pos) d := by
  cases x <;> cases y <;> first
    | exact h.elim
    | exact go_ixL ha hb h hs
    | exact go_ixT ha hb h hs
    | (obtain ⟨h1, m, h2, rfl⟩ := h; exact go_ixS ha hb h1 h2 hs)
def LenOk (x : D) (n : Int) : Prop := match x with
  | .list ds => n = ds.length ∧ True
  | .tuple ds => n = ds.length ∧ True
  | .str z => n = z.length ∧ z.length ≤ sizeLine
  | _ => False
theorem gx_len {n : Int} (hm : X.mg "len" = none) (ha : Go X Γ e x) (h : LenOk x n := by exact ⟨rfl, by walk_at "pside"⟩) (hg : Gl X "len" := by rfl) (he : starEach [e] X.env = (false, eval e X.env) :: starEach [] X.env := by rfl) : Go X Γ (.Call (.Name "len" p) [e] [] pos) (.int n) := by
  cases x <;> first
    | exact h.elim
    | (obtain ⟨rfl, h⟩ := h; exact go_len ha hm hg he)
    | (obtain ⟨rfl, h⟩ := h; exact go_lenT ha hm hg he)
    | (obtain ⟨rfl, h⟩ := h; exact go_lenS ha h hm hg he)
/-- a value's test -/
theorem gx_t (ha : Go X Γ a x) (h : (∀ y, x = .str y → y.length ≤ sizeLine) ∧ (∀ z, x ≠ .dict z) := by walk_at "ptru") (he : ∀ whole, isTrue a X.env whole = (do let v ← whole; standAt a.pos; holding [v] (truthy v)) := by intro _; rfl) : GoT X Γ a (truD x) := goT_tru ha h.1 h.2 he
/-! what is walked -/
def IterOk (x : D) (ds : List D) : Prop := match x with
  | .list es => ds = es
  | .tuple es => ds = es
  | .str z => ds = signsD z
  | _ => False
theorem gx_it (ha : Go X Γ iter x) (h : IterOk x ds := by exact rfl) : GoI X Γ tg iter ds := by
  cases x <;> first
    | exact h.elim
    | exact h ▸ goi_list ha
    | exact h ▸ goi_tup ha
    | exact h ▸ goi_str ha
theorem gx_rng1 {j : Int} (hm : X.mg "range" = none) (ha : Go X Γ a (.int j)) (h : -(2 ^ 62) ≤ j ∧ j < 2 ^ 62 := by walk_at "pside") (hg : Gl X "range" := by rfl) (hs : starEach [a] X.env = [(false, eval a X.env)] := by rfl) :
    GoI X Γ tg (.Call (.Name "range" p) [a] [] pos) ((rngI 0 j).map PyData.int) := goi_rng1 ha h.1 h.2 hm hg hs
/-- a comprehension -/
theorem gx_lc {elt : Expr} {ifs : List Expr} {scope : Scope} {α : Type} {xs : List α} {enc : α → D} {q : α → Bool} {f : α → D} (own : List (Str × Nat)) (hc : X.calm = true) (hN : X.N.Nodup) (hi : GoI X Γ tg iter (xs.map enc))
    (body : ∀ (k : Nat) x, xs[k]? = some x → ∃ Γ' ts, (Blk X scope fun X' => GoG X' (wipeG Γ (own.map (·.2))) tg (enc x) Γ' ts) ∧ (Blk X scope fun X' => GoTs X' Γ' ifs (q x)) ∧ (q x = true → Blk X scope fun X' => Go X' Γ' elt (f x)) ∧ (∀ t ∈ ts, t ∈ own.map (·.2)))
    (ok : blkC X.N X.env.scope scope own = true) (hz : xs.length < 1000000 := by walk_at "pside") (hs : ∀ x, foldedSetIterable iter X.env x = pure x := by intro _; rfl) :
    GoN X Γ (.ListComp elt [⟨tg, iter, ifs, 0⟩] scope pos) ((xs.filter q).map f) :=
  goN_lc q f hi (ltZ hz) (fun k x hx => let ⟨Γ', ts, h1, h2, h3, h4⟩ := body k x hx; ⟨Γ', ts, h4, h1, h2, h3⟩) hc hN (blkOk_by ok) hs
theorem gx_lcM {elt : Expr} {scope : Scope} {α : Type} {xs : List α} {enc : α → D} {f : α → D} (own : List (Str × Nat)) (hc : X.calm = true) (hN : X.N.Nodup) (hi : GoI X Γ tg iter (xs.map enc))
    (body : ∀ (k : Nat) x, xs[k]? = some x → ∃ Γ' ts, (Blk X scope fun X' => GoG X' (wipeG Γ (own.map (·.2))) tg (enc x) Γ' ts) ∧ (Blk X scope fun X' => Go X' Γ' elt (f x)) ∧ (∀ t ∈ ts, t ∈ own.map (·.2)))
    (ok : blkC X.N X.env.scope scope own = true) (hz : xs.length < 1000000 := by walk_at "pside") (hs : ∀ x, foldedSetIterable iter X.env x = pure x := by intro _; rfl) :
    GoN X Γ (.ListComp elt [⟨tg, iter, [], 0⟩] scope pos) (xs.map f) := by
  have h := goN_lc (pos := pos) (fun _ => true) f hi (ltZ hz) (fun k x hx => let ⟨Γ', ts, h1, h2, h4⟩ := body k x hx; ⟨Γ', ts, h4, h1, fun _ _ _ _ _ => goTs_nil, fun _ => h2⟩) hc hN (blkOk_by ok) hs
  rw [List.filter_eq_self.mpr fun _ _ => rfl] at h
  exact h
/-! built-in functions -/
def IntOk (x : D) (n : Int) : Prop := match x with
  | .int i => n = i
  | .bool k => n = if k then 1 else 0
  | _ => False
theorem gx_int {n : Int} (hm : X.mg "int" = none) (ha : Go X Γ e x) (h : IntOk x n := by exact rfl) (hg : Gl X "int" := by rfl) (he : starEach [e] X.env = (false, eval e X.env) :: starEach [] X.env := by rfl) : Go X Γ (.Call (.Name "int" p) [e] [] pos) (.int n) := by
  cases x <;> first
    | exact h.elim
    | exact h ▸ go_intI ha hm hg he
    | exact h ▸ go_intB ha hm hg he
def sumI : List D → Int
  | [] => 0
  | .int z :: r => z + sumI r
  | _ :: r => sumI r
def IsInts (ds : List D) : Prop := ∀ d ∈ ds, ∃ z, d = .int z
def IsBools (ds : List D) : Prop := ∀ d ∈ ds, ∃ z, d = .bool z
def truB : D → Bool
  | .bool b => b
  | _ => false
theorem bools_of : ∀ {ds : List D}, IsBools ds → ∃ ns : List Bool, ds = ns.map .bool ∧ ds.all truB = ns.all id ∧ ds.any truB = ns.any id
  | [], _ => ⟨[], rfl, rfl, rfl⟩
  | d :: r, h => by
    obtain ⟨z, rfl⟩ := h d List.mem_cons_self
    obtain ⟨ns, h1, h2, h3⟩ := bools_of fun x hx => h x (List.mem_cons_of_mem _ hx)
    exact ⟨z :: ns, by rw [h1]; rfl, by rw [List.all_cons, List.all_cons, h2]; rfl, by rw [List.any_cons, List.any_cons, h3]; rfl⟩
theorem gx_all (hc : X.calm = true) (hm : X.mg "all" = none) (ha : Go X Γ e (.list ds)) (h : IsBools ds := by walk_at "pints") (hg : Gl X "all" := by rfl) (he : starEach [e] X.env = (false, eval e X.env) :: starEach [] X.env := by rfl) : Go X Γ (.Call (.Name "all" p) [e] [] pos) (.bool (ds.all truB)) := by
  obtain ⟨ns, rfl, h2, _⟩ := bools_of h
  rw [h2]
  exact go_all hc ha hm hg he
theorem gx_any (hc : X.calm = true) (hm : X.mg "any" = none) (ha : Go X Γ e (.list ds)) (h : IsBools ds := by walk_at "pints") (hg : Gl X "any" := by rfl) (he : starEach [e] X.env = (false, eval e X.env) :: starEach [] X.env := by rfl) : Go X Γ (.Call (.Name "any" p) [e] [] pos) (.bool (ds.any truB)) := by
  obtain ⟨ns, rfl, _, h2⟩ := bools_of h
  rw [h2]
  exact go_any hc ha hm hg he
theorem ints_map {α : Type} {f : α → Int} {xs : List α} : IsInts (xs.map fun x => .int (f x)) := fun d hd => by
  obtain ⟨x, _, rfl⟩ := List.mem_map.mp hd
  exact ⟨_, rfl⟩
theorem bools_map {α : Type} {f : α → Bool} {xs : List α} : IsBools (xs.map fun x => .bool (f x)) := fun d hd => by
  obtain ⟨x, _, rfl⟩ := List.mem_map.mp hd
  exact ⟨_, rfl⟩
def SeqOk (x : D) (ds : List D) : Prop := match x with
  | .list es => ds = es
  | .tuple es => ds = es
  | _ => False
theorem gx_list (hm : X.mg "list" = none) (ha : Go X Γ e x) (h : SeqOk x ds := by exact rfl) (hg : Gl X "list" := by rfl) (he : starEach [e] X.env = (false, eval e X.env) :: starEach [] X.env := by rfl) : GoN X Γ (.Call (.Name "list" p) [e] [] pos) ds := by
  cases x <;> first
    | exact h.elim
    | exact h ▸ goN_list ha hm hg he
    | exact h ▸ goN_listT ha hm hg he
theorem go_tupleT (ha : Go X Γ e (.tuple ds)) (hm : X.mg "tuple" = none) (hg : Gl X "tuple" := by rfl) (he : starEach [e] X.env = (false, eval e X.env) :: starEach [] X.env := by rfl) : Go X Γ (.Call (.Name "tuple" p) [e] [] pos) (.tuple ds) :=
  go_callTy call_tuple_of hg hm PyProof.Rows.boot_tuple (goA_cons ha goA_nil he) (fun vs B H hB r Q q => by
    obtain ⟨v, rfl, h⟩ := mn1 r
    obtain ⟨p, us, rfl, h2, h3⟩ := dp_tup h
    exact ⟨p, us, rfl, .inr ⟨hB.st h2, q _ B H (.same hB) h⟩⟩) (by decide) (by decide) he rfl
theorem gx_tuple (hm : X.mg "tuple" = none) (ha : Go X Γ e x) (h : SeqOk x ds := by exact rfl) (hg : Gl X "tuple" := by rfl) (he : starEach [e] X.env = (false, eval e X.env) :: starEach [] X.env := by rfl) : Go X Γ (.Call (.Name "tuple" p) [e] [] pos) (.tuple ds) := by
  cases x <;> first
    | exact h.elim
    | exact h ▸ go_tupleL ha hm hg he
    | exact h ▸ go_tupleT ha hm hg he
end
theorem rngI_len {lo hi : Int} : (rngI lo hi).length = (hi - lo).toNat := by
  unfold rngI
  rw [List.length_map, List.length_range]
/-! ### defs by what they are asked and give: S -/
def spS (K : PySem.W.Frag) (S : List Mn → Mn → Prop) : Sp := fun vs H Q _ => ∃ (Ps : List Mn) (R : Mn) (B : Hp), S Ps R ∧ Ex B H ∧ MnAll K B vs Ps ∧ ∀ v B2 H2, Nw B H B2 H2 → R.p K B2 v → Q v H2
def spSU (K : PySem.W.Frag) (S : List Mn → Ow → Prop) : Sp := fun vs H Q _ => ∃ (Ps : List Mn) (R : Ow) (B : Hp), S Ps R ∧ Ex B H ∧ MnAll K B vs Ps ∧ ∀ v F B2 H2, Nw B H B2 H2 → R.p K B2 H2 v F → (∀ a ∈ F, H a = none ∧ B2 a = none) → Q v H2
/-- the def st of the text stands at the name x -/
structure Dfn (K : PySem.W.Frag) (mg : Str → Option Value) (x : Str) (st : Stmt) (ps : List Str) : Prop where
  ex : ∃ f fd, Fun K x x st f fd ∧ mg x = some (.ref f) ∧ Binds K fd ps []
/-- what stands at the name x keeps its promise -/
structure Cal (P : Program) (w : World) (K : PySem.W.Frag) (mg : Str → Option Value) (base : Heap) (x : Str) (ps : List Str) (k : Nat) (S : List Mn → Mn → Prop) : Prop where
  ex : ∃ f fd, FnOk P w K mg base CX0 k f fd ps (spS K S) ∧ mg x = some (.ref f) ∧ PySem.W.keepIn K (.ref f) = true ∧ Binds K fd ps []
structure CalU (P : Program) (w : World) (K : PySem.W.Frag) (mg : Str → Option Value) (base : Heap) (x : Str) (ps : List Str) (k : Nat) (S : List Mn → Ow → Prop) : Prop where
  ex : ∃ f fd, FnOk P w K mg base CX0 k f fd ps (spSU K S) ∧ mg x = some (.ref f) ∧ PySem.W.keepIn K (.ref f) = true ∧ Binds K fd ps []
section
variable {P : Program} {w : World} {K : PySem.W.Frag} {mg : Str → Option Value} {base : Heap}
theorem cal_ok {x : Str} {st : Stmt} {L ps : List Str} {k : Nat} {S : List Mn → Mn → Prop} (Df : Dfn K mg x st ps) (Sc : FnScope L ps (defScope st)) (hl : ∀ Ps R, S Ps R → Ps.length = ps.length)
    (body : ∀ Ps R, S Ps R → ∀ (f : Addr) (cdv : Value) (A : Around) (outer : List Env) (s : Shared) (H : Hp) (E : XK), Room k (A.deeper (envOfC x (defScope st) s.heap.objs.size f cdv)) → ∀ J : Jd, J.S = [] →
      Rn (cxOf CX0 P w K mg base L x (defScope st) f cdv A outer s H E).nox J { nx := fun _ => ∀ K B, R.p K B .non, rt := R } (entry Ps L.length) (defBody st)) : Cal P w K mg base x ps (k + 1) S := by
  obtain ⟨f, fd, F, m, b⟩ := Df.ex
  refine ⟨f, fd, F.ok Sc (fun vs H Q E h => ?_) fun cdv A outer s H vs Q E hr h => ?_, m, F.kp, b⟩
  · obtain ⟨Ps, R, B, hS, _, h, _⟩ := h
    rw [mn_len h, hl _ _ hS]
  · obtain ⟨Ps, R, B, hS, hB, hv, q⟩ := h
    refine ⟨_, sSs, wpSs_mono (body Ps R hS f cdv A outer s H E hr ⟨H, [], []⟩ rfl B (L2.start L vs) B H (fun _ => []) (en_entry hB hv) ⟨.refl _, fun a h1 h2 => absurd h2 h1, fun a o h _ => h, fun a h => h, fun _ _ z => nomatch z⟩) ?_ ?_ ?_ ?_⟩
    · exact fun σ' H' ⟨B', Γ', Fs', e, j, n⟩ => q _ B' H' ⟨j.b0, e.bh, fun a o h => j.h0 a o h (by simp), fun a h1 h2 => by
        cases r : B' a with
        | none => rfl
        | some o => exact absurd (j.nb a (by rw [r]; exact fun z => nomatch z) h1) h2⟩ (n K B')
    · exact fun v H' ⟨σ', B', Γ', Fs', e, j, _, r⟩ => q v B' H' ⟨j.b0, e.bh, fun a o h => j.h0 a o h (by simp), fun a h1 h2 => by
        cases r : B' a with
        | none => rfl
        | some o => exact absurd (j.nb a (by rw [r]; exact fun z => nomatch z) h1) h2⟩ r
    · exact fun σ' H' ⟨B', Γ', Fs', e, j, n⟩ => n.elim
    · exact fun σ' H' ⟨B', Γ', Fs', e, j, n⟩ => n.elim
theorem calU_ok {x : Str} {st : Stmt} {L ps : List Str} {k : Nat} {S : List Mn → Ow → Prop} (Df : Dfn K mg x st ps) (Sc : FnScope L ps (defScope st)) (hl : ∀ Ps R, S Ps R → Ps.length = ps.length)
    (body : ∀ Ps R, S Ps R → ∀ (f : Addr) (cdv : Value) (A : Around) (outer : List Env) (s : Shared) (H : Hp) (E : XK), Room k (A.deeper (envOfC x (defScope st) s.heap.objs.size f cdv)) → ∀ J : Jd, J.S = [] →
      Rn (cxOf CX0 P w K mg base L x (defScope st) f cdv A outer s H E).nox J { nx := fun _ => False, rt := datP .none, rn := some R } (entry Ps L.length) (defBody st)) : CalU P w K mg base x ps (k + 1) S := by
  obtain ⟨f, fd, F, m, b⟩ := Df.ex
  refine ⟨f, fd, F.ok Sc (fun vs H Q E h => ?_) fun cdv A outer s H vs Q E hr h => ?_, m, F.kp, b⟩
  · obtain ⟨Ps, R, B, hS, _, h, _⟩ := h
    rw [mn_len h, hl _ _ hS]
  · obtain ⟨Ps, R, B, hS, hB, hv, q⟩ := h
    refine ⟨_, sSs, wpSs_mono (body Ps R hS f cdv A outer s H E hr ⟨H, [], []⟩ rfl B (L2.start L vs) B H (fun _ => []) (en_entry hB hv) ⟨.refl _, fun a h1 h2 => absurd h2 h1, fun a o h _ => h, fun a h => h, fun _ _ z => nomatch z⟩) ?_ ?_ ?_ ?_⟩
    · exact fun σ' H' ⟨B', Γ', Fs', e, j, n⟩ => n.elim
    · exact fun v H' ⟨σ', B', Γ', Fs', e, j, _, F, r1, r2, _⟩ => q v F B' H' ⟨j.b0, e.bh, fun a o h => j.h0 a o h (by simp), fun a h1 h2 => by
        cases r : B' a with
        | none => rfl
        | some o => exact absurd (j.nb a (by rw [r]; exact fun z => nomatch z) h1) h2⟩ r1 r2
    · exact fun σ' H' ⟨B', Γ', Fs', e, j, n⟩ => n.elim
    · exact fun σ' H' ⟨B', Γ', Fs', e, j, n⟩ => n.elim
end
section
variable {X : Cx} {Γ : Ga} {e : Expr} {es : List Expr} {pos p : Pos} {j k : Nat} {x : Str} {ps : List Str}
theorem gx_call {S : List Mn → Mn → Prop} {Ps : List Mn} {R : Mn} (C : Cal X.prog X.w X.K X.mg X.base x ps k S) (hr : Room j X.A) (hk : k ≤ j) (ha : GoA X Γ (e :: es) Ps) (hS : S Ps R := by walk_at "pS") (hg : Gl X x := by rfl) (hdb : (x == ("__debug__" : Str)) = false := by decide)
    (he : starEach (e :: es) X.env = (false, eval e X.env) :: starEach es X.env := by rfl) (hpl : (backTo pos (starEach es X.env)).any (·.1) = false := by rfl) : GoP X Γ (.Call (.Name x p) (e :: es) [] pos) R := .mk fun σ B H Fs E Q q => by
  obtain ⟨f, fd, F, m, kp, b⟩ := C.ex
  exact toE (pe_call F (hr.mono hk) hg m kp b .nil pass0 sA hdb he hpl) (ha σ B H Fs E _ fun vs B1 H1 n1 r1 => ⟨Ps, R, B1, hS, n1.bh, by rw [List.append_nil]; exact r1, fun v B2 H2 n2 r2 => q v B2 H2 (n1.trans n2) r2⟩)
theorem gx_callU {S : List Mn → Ow → Prop} {Ps : List Mn} {R : Ow} (C : CalU X.prog X.w X.K X.mg X.base x ps k S) (hr : Room j X.A) (hk : k ≤ j) (ha : GoA X Γ (e :: es) Ps) (hS : S Ps R := by walk_at "pS") (hg : Gl X x := by rfl) (hdb : (x == ("__debug__" : Str)) = false := by decide)
    (he : starEach (e :: es) X.env = (false, eval e X.env) :: starEach es X.env := by rfl) (hpl : (backTo pos (starEach es X.env)).any (·.1) = false := by rfl) : GoU X Γ (.Call (.Name x p) (e :: es) [] pos) R := .mk fun σ B H Fs E Q q => by
  obtain ⟨f, fd, F, m, kp, b⟩ := C.ex
  exact toE (pe_call F (hr.mono hk) hg m kp b .nil pass0 sA hdb he hpl) (ha σ B H Fs E _ fun vs B1 H1 n1 r1 => ⟨Ps, R, B1, hS, n1.bh, by rw [List.append_nil]; exact r1, fun v F B2 H2 n2 r2 r3 => q v F B2 H2 (n1.trans n2) r2 fun a ha => ⟨n1.hh.none (r3 a ha).1, (r3 a ha).2⟩⟩)
end
section
variable {X : Cx} {J : Jd} {N : Nd} {Γ Γ1 Γ2 : Ga} {e a b c tg iter : Expr} {es rest : List Expr} {st : Stmt} {sts body : List Stmt} {P : Mn} {d x y z : D} {ds : List D} {pos p : Pos} {k l : Bool}
def isiS (t n : String) : Bool := match t, n with
  | "bool", "int" => true
  | "bool", "bool" => true
  | "int", "int" => true
  | "str", "str" => true
  | "list", "list" => true
  | "tuple", "tuple" => true
  | "dict", "dict" => true
  | _, _ => false
abbrev isiD (d : D) (n : String) : Bool := isiS (tyD d) n
theorem kit_isi (d : D) : kitB (tyD d) "int" = some (isiD d "int") ∧ kitB (tyD d) "bool" = some (isiD d "bool") ∧ kitB (tyD d) "str" = some (isiD d "str") ∧ kitB (tyD d) "list" = some (isiD d "list") ∧ kitB (tyD d) "tuple" = some (isiD d "tuple") := by
  cases d <;> (simp only [isiD, tyD]; exact ⟨by decide +kernel, by decide +kernel, by decide +kernel, by decide +kernel, by decide +kernel⟩)
theorem gx_isi {x : Str} {n : String} {p2 : Pos} (hmi : X.mg "isinstance" = none) (hm : X.mg x = none) (hv : bootBuiltins x = some (.type n)) (ha : Go X Γ a d) (hr : kitB (tyD d) n = some (isiD d n) := by first | exact (kit_isi _).1 | exact (kit_isi _).2.1 | exact (kit_isi _).2.2.1 | exact (kit_isi _).2.2.2.1 | exact (kit_isi _).2.2.2.2) (hgi : Gl X "isinstance" := by rfl) (hg : Gl X x := by rfl)
    (hn : x ≠ "__name__" := by decide) (hd : (x == ("__debug__" : Str)) = false := by decide) (he : starEach [a, .Name x p2] X.env = (false, eval a X.env) :: starEach [.Name x p2] X.env := by rfl) (he2 : starEach [.Name x p2] X.env = (false, eval (.Name x p2) X.env) :: starEach [] X.env := by rfl) :
    Go X Γ (.Call (.Name "isinstance" p) [a, .Name x p2] [] pos) (.bool (isiD d n)) := go_isi ha hmi hm hv hr hgi hg hn hd he he2
/-! x op= e -/
def AugOk (op : Operator) (x y d : D) : Prop := match op, x, y with
  | .Add, .int i, .int j => d = .int (i + j) ∧ True
  | .Add, .str a, .str b => d = .str (a ++ b) ∧ a.length + b.length ≤ sizeLine
  | .Sub, .int i, .int j => d = .int (i - j) ∧ True
  | .Mult, .int i, .int j => d = .int (i * j) ∧ ((-(2 ^ 64) < i ∧ i < 2 ^ 64) ∨ (-(2 ^ 64) < j ∧ j < 2 ^ 64))
  | .BitAnd, .int i, .int j => d = .int (Builtin.bitAnd i j) ∧ True
  | .BitOr, .int i, .int j => d = .int (Builtin.bitOr i j) ∧ True
  | .BitXor, .int i, .int j => d = .int (Builtin.bitXor i j) ∧ True
  | _, _, _ => False
theorem aug_ar {op : Operator} {C : Int → Int → Prop} {g : Int → Int → Int} {i j : Int} (hc : C i j) {v w : V} {B H : Hp} (hB : Ex B H) (r1 : Dp X.K B v (.int i)) (r2 : Dp X.K B w (.int j)) {Q : VK} (q : EQ X B H (datP (.int (g i j))) Q) : rI C (fun i j => .int (g i j)) v w H Q := by
  rw [dp_int r1, dp_int r2]
  exact ⟨i, j, rfl, rfl, hc, q _ B H (.same hB) (Dp.int _)⟩
theorem aug_ar0 {op : Operator} {g : Int → Int → Int} {i j : Int} {v w : V} {B H : Hp} (hB : Ex B H) (r1 : Dp X.K B v (.int i)) (r2 : Dp X.K B w (.int j)) {Q : VK} (q : EQ X B H (datP (.int (g i j))) Q) : rI0 (fun i j => .int (g i j)) v w H Q := by
  rw [dp_int r1, dp_int r2]
  exact ⟨i, j, rfl, rfl, q _ B H (.same hB) (Dp.int _)⟩
theorem gx_aug (i : Nat) {x' : Str} {p' : Pos} {op : Operator} (hΓ : Γ[i]? = some (.dat x)) (he : Go X Γ e y) (h : N.nx (Γ.set i (.dat d))) (hN : X.N.Nodup) (ho : AugOk op x y d := by exact ⟨rfl, by walk_at "pside"⟩) (hi : X.N[i]? = some x' := by rfl) (hx : Loc X.env.scope x' := by first | exact .inl rfl | exact .inr rfl)
    (hf : X.fn x' = true ∨ X.env.scope.names.lookup x' = some .local := by first | exact .inl rfl | exact .inr rfl) : RnS X J N Γ (.AugAssign (.Name x' p') op e pos) := by
  cases op <;> cases x <;> cases y <;> (try exact ho.elim) <;> obtain ⟨rfl, ho⟩ := ho
  · exact rs_aug i hΓ he iop_add (fun v w B H hB r1 r2 Q q => aug_ar0 (op := .Add) hB r1 r2 q) h hN hi hx hf
  · exact rs_aug i hΓ he iop_add_str (fun v w B H hB r1 r2 Q q => by
      rw [dp_str r1, dp_str r2]
      exact ⟨_, _, rfl, rfl, ho, q _ B H (.same hB) (Dp.str _)⟩) h hN hi hx hf
  · exact rs_aug i hΓ he iop_sub (fun v w B H hB r1 r2 Q q => aug_ar0 (op := .Sub) hB r1 r2 q) h hN hi hx hf
  · exact rs_aug i hΓ he iop_mul (fun v w B H hB r1 r2 Q q => aug_ar (op := .Mult) (C := CMul) ho hB r1 r2 q) h hN hi hx hf
  · exact rs_aug i hΓ he iop_or (fun v w B H hB r1 r2 Q q => aug_ar0 (op := .BitOr) hB r1 r2 q) h hN hi hx hf
  · exact rs_aug i hΓ he iop_xor (fun v w B H hB r1 r2 Q q => aug_ar0 (op := .BitXor) hB r1 r2 q) h hN hi hx hf
  · exact rs_aug i hΓ he iop_and (fun v w B H hB r1 r2 Q q => aug_ar0 (op := .BitAnd) hB r1 r2 q) h hN hi hx hf
/-! more -/
def cntI (ds : List D) (k : Int) : Nat := ds.countP fun d => match d with
  | .int z => z == k
  | _ => false
/-! a comprehension given to a name -/
theorem rs_lcO (i : Nat) {x' : Str} {p' lpos : Pos} {elt : Expr} {ifs : List Expr} {scope : Scope} {α : Type} {xs : List α} {enc : α → D} {q : α → Bool} {f : α → D} (own : List (Str × Nat)) (hc : X.calm = true) (hN : X.N.Nodup) (hi : GoI X Γ tg iter (xs.map enc))
    (body : ∀ (k : Nat) x, xs[k]? = some x → ∃ Γ' ts, (Blk X scope fun X' => GoG X' (wipeG Γ (own.map (·.2))) tg (enc x) Γ' ts) ∧ (Blk X scope fun X' => GoTs X' Γ' ifs (q x)) ∧ (q x = true → Blk X scope fun X' => Go X' Γ' elt (f x)) ∧ (∀ t ∈ ts, t ∈ own.map (·.2)))
    (ok : blkC X.N X.env.scope scope own = true) (hsw : swapsWith (.ListComp elt [⟨tg, iter, ifs, 0⟩] scope lpos) (some (.Name x' p')) pos.line X.env = pure true) (h : N.nx (Γ.set i (.own ((xs.filter q).map f)))) (hz : xs.length < 1000000 := by walk_at "pside") (hx : X.N[i]? = some x' := by rfl) (hyl : X.env.scope.names.lookup x' = some .local := by rfl) (hs : ∀ x, foldedSetIterable iter X.env x = pure x := by intro _; rfl) :
    RnS X J N Γ (.Assign [.Name x' p'] (.ListComp elt [⟨tg, iter, ifs, 0⟩] scope lpos) pos) :=
  rs_ownLc i q f hi (ltZ hz) (fun k x hx => let ⟨Γ', ts, h1, h2, h3, h4⟩ := body k x hx; ⟨Γ', ts, h4, h1, h2, h3⟩) h hc hN (blkOk_by ok) hx hyl hsw hs
theorem rs_lcMO (i : Nat) {x' : Str} {p' lpos : Pos} {elt : Expr} {scope : Scope} {α : Type} {xs : List α} {enc : α → D} {f : α → D} (own : List (Str × Nat)) (hc : X.calm = true) (hN : X.N.Nodup) (hi : GoI X Γ tg iter (xs.map enc))
    (body : ∀ (k : Nat) x, xs[k]? = some x → ∃ Γ' ts, (Blk X scope fun X' => GoG X' (wipeG Γ (own.map (·.2))) tg (enc x) Γ' ts) ∧ (Blk X scope fun X' => Go X' Γ' elt (f x)) ∧ (∀ t ∈ ts, t ∈ own.map (·.2)))
    (ok : blkC X.N X.env.scope scope own = true) (hsw : swapsWith (.ListComp elt [⟨tg, iter, [], 0⟩] scope lpos) (some (.Name x' p')) pos.line X.env = pure true) (h : N.nx (Γ.set i (.own (xs.map f)))) (hz : xs.length < 1000000 := by walk_at "pside") (hx : X.N[i]? = some x' := by rfl) (hyl : X.env.scope.names.lookup x' = some .local := by rfl) (hs : ∀ x, foldedSetIterable iter X.env x = pure x := by intro _; rfl) :
    RnS X J N Γ (.Assign [.Name x' p'] (.ListComp elt [⟨tg, iter, [], 0⟩] scope lpos) pos) :=
  rs_lcO i (q := fun _ => true) own hc hN hi (fun k x hx => let ⟨Γ', ts, h1, h2, h4⟩ := body k x hx; ⟨Γ', ts, h1, fun _ _ _ _ _ => goTs_nil, fun _ => h2, h4⟩) ok hsw (by rw [List.filter_eq_self.mpr fun _ _ => rfl]; exact h) hz hx hyl hs
end
/-! ### lists of small ints, by place -/
def nthI (ds : List D) (i : Int) : Int := match atI ds i with
  | some (.int z) => z
  | _ => 0
theorem IntsD.at {p : Int → Prop} {n : Nat} {ds : List D} {i : Int} (h : IntsD p n ds) (hi : 0 ≤ i ∧ i < (n : Int)) : atI ds i = some (.int (nthI ds i)) := by
  obtain ⟨ns, rfl, h1, h2⟩ := h
  have hl : i.toNat < ns.length := by omega
  have e : atI (ns.map PyData.int) i = some (.int ns[i.toNat]) := atI_get' (k := i.toNat) (by rw [List.getElem?_map, List.getElem?_eq_getElem hl]; rfl) (by omega)
  rw [e]
  unfold nthI
  rw [e]
theorem IntsD.has {p : Int → Prop} {n : Nat} {ds : List D} {i : Int} (h : IntsD p n ds) (hi : 0 ≤ i ∧ i < (n : Int)) : p (nthI ds i) := by
  have e := h.at hi
  obtain ⟨ns, rfl, h1, h2⟩ := h
  have hl : i.toNat < ns.length := by omega
  have e2 : atI (ns.map PyData.int) i = some (.int ns[i.toNat]) := atI_get' (k := i.toNat) (by rw [List.getElem?_map, List.getElem?_eq_getElem hl]; rfl) (by omega)
  rw [e] at e2
  have e3 := Option.some.inj e2
  injection e3 with e3
  rw [e3]
  exact h2 _ (List.getElem_mem hl)
/-! ### the law -/
abbrev spLaw (K : PySem.W.Frag) : Sp := spF K (fun ns : List Int => ns.length ≤ 63) (fun ns => [datP (.list (ns.map .int))]) fun _ => datP (.bool true)
theorem law_sp {K : PySem.W.Frag} {H : Hp} {a : Addr} {ns : List Int} {E : XK} (hl : ns.length ≤ 63) (hS : SqL K H a (ns.map V.int)) : spLaw K [.ref a] H (fun v _ => v = .bl true) E :=
  ⟨ns, H, hl, Ex.refl _, .cons (show Dp _ _ _ _ from .lst hS (dps_ints ns)) .nil, fun _ _ _ _ r => dp_bl r⟩
local macro_rules | `(tactic| walk_at "pix") => `(tactic| first | exact rfl | assumption | exact atI_nat (by assumption) | exact atI_get' (by assumption) (by omega))
local macro_rules | `(tactic| walk_at "ptru") => `(tactic| exact ⟨fun _ h => (nomatch h), fun _ h => (nomatch h)⟩)
end PL

set_option maxHeartbeats 2000000
namespace PL
open PySem PySem.Spec PyProof.Rows L2
section
variable {X : Cx} {J : Jd} {N : Nd} {Γ : Ga} {sts : List Stmt}
theorem rn_is (i : Nat) {s s' : Sl} (hΓ : Γ[i]? = some s) (e : s = s') (h : Rn X J N (Γ.set i s') sts) : Rn X J N Γ sts := by
  subst e
  have : Γ.set i s = Γ := by
    refine List.ext_getElem? fun j => ?_
    rw [List.getElem?_set]
    by_cases q : i = j
    · subst q
      have := (List.getElem?_eq_some_iff.mp hΓ).1
      rw [if_pos rfl, if_pos this, hΓ]
    · rw [if_neg q]
  rw [this] at h
  exact h
end
end PL

set_option maxHeartbeats 2000000
namespace PL
open PySem PySem.Spec PyProof.Rows L2 PySem.W
/-! ### sorted(xs) of data of any kind -/
/-- what was there is there -/
structure Kp (s s' : Shared) : Prop where
  heap : ∀ b o, s.heap.get? b = some o → s'.heap.get? b = some o
  gens : s'.gens = s.gens
  os : s'.os = s.os
/-- a value that stands for data -/
def RD (K : PySem.W.Frag) (H : Hp) (u : Value) (d : D) : Prop := ∃ x, RelV x u ∧ Dp K H x d
theorem rd_all {K : PySem.W.Frag} {H : Hp} : ∀ {xs : List V} {us : List Value} {ds : List D}, Vals xs us → DpAll K H xs ds → EachIs (RD K H) us ds
  | _, _, _, .nil, .nil => .nil
  | _, _, _, .cons r rs, .cons h hs => .cons ⟨_, r, h⟩ (rd_all rs hs)
theorem rd_back {K : PySem.W.Frag} {H : Hp} : ∀ {us : List Value} {ds : List D}, EachIs (RD K H) us ds → ∃ xs, Vals xs us ∧ DpAll K H xs ds
  | _, _, .nil => ⟨[], .nil, .nil⟩
  | _, _, .cons ⟨x, r, h⟩ t => by
    obtain ⟨xs, a, b⟩ := rd_back t
    exact ⟨x :: xs, .cons r a, .cons h b⟩
/-- fit to be sorted -/
structure SortOk (ds : List D) : Prop where
  al : AllAlike ds
  so : Sortable ds
  dp : ∀ d ∈ ds, d.depth ≤ 60
  ln : ds.length ≤ sizeLine
abbrev srt (ds : List D) : List D := ds.mergeSort (dataLe false id)
section
variable {X : Cx} {pins : List (Addr × Obj)} {σ : L2.St} {H : Hp} {s : Shared} {Q : VK} {E : Value → Shared → Prop}
theorem sorted_gen {x : Value} {B : Hp} (hB : Ex B H) (P : List D → Prop) (hP : ∀ ds, P ds → SortOk ds) (hu : UOk X) (I : Inv X pins σ H s)
    (hcol : ∀ (Q' : List Value → Shared → Prop), (∀ s' ws ds, Kp s s' → AllBare s'.gens → EachIs (RD X.K B) ws ds → P ds → Q' ws s') → wpAny (model X.prog X.w) X.A.in1 (collect x) Q' E s)
    (hq : ∀ ds ys p, P ds → H p = none → DpAll X.K B ys (srt ds) → Q (.ref p) (upd H p (.lst ys))) :
    wpAny (model X.prog X.w) X.A (call (.builtin "sorted") [x]) (EP X pins σ Q) E s := by
  refine Calls.call_function_entry PyProof.Rows.kind_sorted PyProof.Rows.plain_sorted PyProof.Rows.entry_sorted (args_sorted1 _) ?_
  unfold Builtin.«sorted»
  refine wpAny_bind (m := checkCount "sorted" 1 1 _) (wpAny_pure ?_)
  refine wpAny_bind (hcol _ fun s1 ws ds kp hb e hp => ?_)
  obtain ⟨al, so, dp, ln⟩ := hP ds hp
  have hl : ws.length = ds.length := e.length
  refine wpAny_bind (wpAny_newList ?_ (by rw [hl]; exact ln))
  have hoL : (s1.heap.push (seqObj "list" ws.toArray 0)).get? s1.heap.objs.size = some (seqObj "list" ws.toArray 0) := Heap.get?_push_size _ rfl
  have hnew : ∀ b o, s.heap.get? b = some o → b ≠ s1.heap.objs.size ∧ (s1.heap.push (seqObj "list" ws.toArray 0)).get? b = some o := fun b o q => by
    have h1 := kp.heap b o q
    exact ⟨Nat.ne_of_lt (Heap.lt_size h1), Heap.get?_push_of_some _ h1⟩
  have er : EachIs (fun v d => ∃ as, Reads (sortingHeap (s1.heap.push (seqObj "list" ws.toArray 0)) s1.heap.objs.size ws) v (id d) as) ws ds := e.mono fun v d ⟨x, r, h⟩ => by
    obtain ⟨as, rr⟩ := Dp.reads I d x v (dpUp hB h) r
    exact ⟨as, PyProof.Rows.Reads.keeps (fun b o q => sortingHeap_old (hnew b o q).1 (hnew b o q).2) rr⟩
  have hun := hu
  have hu200 : X.A.units + 200 < cLine := hun
  refine wpAny_bind (wpAny_holding (wpAny_call_entry slot_list_sort ⟨_, hoL, rfl⟩ PyProof.Rows.entry_list_sort
    (list_sort_vals (κ := dataKind (sortingHeap (s1.heap.push (seqObj "list" ws.toArray 0)) s1.heap.objs.size ws) (ds.map id)) hoL
      (SortsAt.data (s := { s1 with heap := sortingHeap (s1.heap.push (seqObj "list" ws.toArray 0)) s1.heap.objs.size ws }) (each_map (R := fun v d => ∃ as, Reads (sortingHeap (s1.heap.push (seqObj "list" ws.toArray 0)) s1.heap.objs.size ws) v d as) id er) (by rw [List.map_id]; exact al) (by rw [List.map_id]; exact so) (fun d hd => by
        rw [List.map_id] at hd
        have := dp d hd
        show X.A.units + 1 + 1 + d.depth < cLine
        omega)) (by rw [hl]; exact ln) ⟨.none, rfl, ?_⟩) (args_list_sort _)))
  have eo := sortVals_data false e er (by rw [List.map_id]; exact al)
  generalize hout : sortVals (dataKind (sortingHeap (s1.heap.push (seqObj "list" ws.toArray 0)) s1.heap.objs.size ws) (ds.map id)) false ws ws = out at eo
  obtain ⟨ys, hv, hd⟩ := rd_back eo
  obtain ⟨c, hc⟩ := sortedHeap_at (vs := ws) (out := out.toArray) hoL
  have hk : ∀ b o, s.heap.get? b = some o → (sortedHeap (s1.heap.push (seqObj "list" ws.toArray 0)) s1.heap.objs.size ws out.toArray).get? b = some o := fun b o q => by
    have h1 := kp.heap b o q
    have h2 := Heap.lt_size h1
    rw [sortedHeap_old (Nat.ne_of_lt h2) (by rw [size_push']; exact Nat.lt_succ_of_lt h2)]
    exact Heap.get?_push_of_some _ h1
  have hno : s.heap.get? s1.heap.objs.size = none := by
    cases q : s.heap.get? s1.heap.objs.size with
    | none => rfl
    | some o => exact absurd rfl (hnew _ o q).1
  have hHn : H s1.heap.objs.size = none := I.hok.gone hno
  have hys : ys.length ≤ sizeLine := by
    rw [dps_len hd, List.length_mergeSort]
    exact ln
  have J := I.call' (s' := { s1 with heap := sortedHeap (s1.heap.push (seqObj "list" ws.toArray 0)) s1.heap.objs.size ws out.toArray }) (ch := []) kp.os (Un.laidN hk hno hHn) (I.hok.laidN (o := .lst ys) hk hHn (by exact ⟨hys, out, c, hv, hc⟩)) hb (fun _ z => nomatch z)
  exact wpAny_pure ⟨_, rfl, ⟨.ref s1.heap.objs.size, _, J, rfl, hq ds ys _ hp hHn hd⟩⟩
end
def rSortD (K : PySem.W.Frag) : List V → Hp → VK → Prop := fun vs H Q => ∃ (a : Addr) (xs : List V) (ds : List D) (B : Hp), vs = [V.ref a] ∧ Ex B H ∧ (SqL K H a xs ∨ SqT K H a xs) ∧ DpAll K B xs ds ∧ SortOk ds ∧ ∀ ys p, H p = none → DpAll K B ys (srt ds) → Q (.ref p) (upd H p (.lst ys))
section
variable {X : Cx} {Γ : Ga} {a : Expr} {p pos : Pos} {ds : List D}
theorem cr_sortD (hu : UOk X) : CallR X (.builtin "sorted") (rSortD X.K) := by
  intro pins s σ H vs us Q I r h
  obtain ⟨a, xs, ds, B, rfl, hB, hs, hd, hok, q⟩ := h
  rw [Vals.ref1 r]
  refine sorted_gen hB (fun es => es = ds) (fun _ e => e ▸ hok) hu I (fun Q' hQ => ?_) (fun es ys p e hp hy => by subst e; exact q ys p hp hy)
  rcases hs with hs | hs
  · obtain ⟨its, rv, hl, hz⟩ := I.list hs
    obtain ⟨o, n, ho, hc, hdd, hd1⟩ := hl
    refine wpAny_collect_seq a (.inl rfl) ho hc hd1 (fun h' hk => ?_) (by rw [List.size_toArray, ← rv.length]; exact hz)
    exact hQ _ _ _ ⟨hk, rfl, rfl⟩ I.bare (by simpa using rd_all rv hd) rfl
  · obtain ⟨its, rv, hl, hz⟩ := I.tuple hs
    obtain ⟨o, ho, hc, n, hd1⟩ := hl
    refine wpAny_collect_seq a (.inr rfl) ho hc hd1 (fun h' hk => ?_) (by rw [List.size_toArray, ← rv.length]; exact hz)
    exact hQ _ _ _ ⟨hk, rfl, rfl⟩ I.bare (by simpa using rd_all rv hd) rfl
theorem goN_sortD {x : D} (hu : UOk X) (hm : X.mg "sorted" = none) (ha : Go X Γ a x) (hs : SeqOk x ds) (hok : SortOk ds) (hg : Gl X "sorted" := by rfl) (he : starEach [a] X.env = (false, eval a X.env) :: starEach [] X.env := by rfl) :
    GoN X Γ (.Call (.Name "sorted" p) [a] [] pos) (srt ds) :=
  goN_callB (cr_sortD hu) hg hm PyProof.Rows.boot_sorted (goA_cons ha goA_nil he) (fun vs B H hB r Q q => by
    obtain ⟨v, rfl, h⟩ := mn1 r
    cases x with
    | list xs =>
      have e : ds = xs := hs
      subst e
      obtain ⟨p, us, rfl, h3, h4⟩ := dp_lst h
      exact ⟨p, us, ds, B, rfl, hB, .inl (hB.sl h3), h4, hok, fun ys l hl hy => q l ys hl hy⟩
    | tuple xs =>
      have e : ds = xs := hs
      subst e
      obtain ⟨p, us, rfl, h3, h4⟩ := dp_tup h
      exact ⟨p, us, ds, B, rfl, hB, .inr (hB.st h3), h4, hok, fun ys l hl hy => q l ys hl hy⟩
    | _ => exact absurd hs (by simp [SeqOk])) (by decide) (by decide) he rfl
end
end PL

set_option maxHeartbeats 4000000
namespace PL
open PySem PySem.Spec PyProof.Rows L2
/-! ### sets of texts, told by their members -/
theorem each_perm {α β : Type} {R : α → β → Prop} : ∀ {l l' : List α}, l'.Perm l → ∀ {ks : List β}, PySem.W.EachIs R l ks → ∃ ks', ks'.Perm ks ∧ PySem.W.EachIs R l' ks' := by
  intro l l' p
  induction p with
  | nil => exact fun e => ⟨_, .refl _, e⟩
  | cons x _ ih =>
    intro ks e
    cases e with
    | cons r t =>
      obtain ⟨m, q, f⟩ := ih t
      exact ⟨_, q.cons _, .cons r f⟩
  | swap x y l =>
    intro ks e
    cases e with
    | cons r t =>
      cases t with
      | cons r2 t2 => exact ⟨_, .swap _ _ _, .cons r2 (.cons r t2)⟩
  | trans _ _ ih1 ih2 =>
    intro ks e
    obtain ⟨m, q, f⟩ := ih2 e
    obtain ⟨m2, q2, f2⟩ := ih1 f
    exact ⟨m2, q2.trans q, f2⟩
theorem each_memL {α β : Type} {R : α → β → Prop} : ∀ {l : List α} {ks : List β}, PySem.W.EachIs R l ks → ∀ {x : α}, x ∈ l → ∃ k ∈ ks, R x k
  | _, _, .nil, x, h => by cases h
  | _, _, .cons r t, x, h => by
    rcases List.mem_cons.mp h with e | e
    · exact ⟨_, List.mem_cons_self, e ▸ r⟩
    · obtain ⟨k, m, q⟩ := each_memL t e
      exact ⟨k, List.mem_cons_of_mem _ m, q⟩
theorem each_memR {α β : Type} {R : α → β → Prop} : ∀ {l : List α} {ks : List β}, PySem.W.EachIs R l ks → ∀ {k : β}, k ∈ ks → ∃ x ∈ l, R x k
  | _, _, .nil, x, h => by cases h
  | _, _, .cons r t, x, h => by
    rcases List.mem_cons.mp h with e | e
    · exact ⟨_, List.mem_cons_self, e ▸ r⟩
    · obtain ⟨k, m, q⟩ := each_memR t e
      exact ⟨k, List.mem_cons_of_mem _ m, q⟩
/-- an entry of the table -/
def EnS (w : World) (e : Int × Value) (k : Str) : Prop := ∃ tk, e = (hashStr w k, Value.str k tk)
structure TabS (w : World) (h : Heap) (a : Addr) (ks : List Str) (o : Obj) (es : Array (Int × Value)) (ep : Nat) (t : SetTable) : Prop where
  get : h.get? a = some o
  ex : o.ExactSet
  dat : o.data = .set es ep t
  mem : ∃ ms, ms.Perm ks ∧ PySem.W.EachIs (EnS w) es.toList ms
  nd : ks.Nodup
  few : es.size < scanBound
  fit : t.fits es.size = true
  ris : Ris t.place.toList
  led : w.params.followText "set-order" = true ∨ t.led = true
def SetS (w : World) (h : Heap) (a : Addr) (ks : List Str) : Prop := ∃ o es ep t, TabS w h a ks o es ep t
section
variable {P : Program} {w : World} {A : Around} {E : Value → Shared → Prop} {s : Shared} {h h' : Heap} {a : Addr} {ks : List Str} {o : Obj} {es : Array (Int × Value)} {ep : Nat} {t : SetTable}
theorem SetS.at (R : SetS w h a ks) (k : ∀ o, h.get? a = some o → h'.get? a = some o) : SetS w h' a ks := by
  obtain ⟨o, es, ep, t, R⟩ := R
  exact ⟨o, es, ep, t, { R with get := k o R.get }⟩
theorem isS (k : Str) (tk : Tok) : (strKind P w).is k (Value.str k tk) = true := by
  show Value.isStrOf k (Value.str k tk) = true
  first | simp [Value.isStrOf, Value.isStr] | (unfold Value.isStrOf; simp)
theorem ens_is {e : Int × Value} {k j : Str} (g : EnS w e k) : (strKind P w).is j e.2 = true ↔ j = k := by
  obtain ⟨tk, rfl⟩ := g
  rw [(strKind P w).is_eq_decide (isS k tk) j]
  exact decide_eq_true_iff
theorem TabS.elems (R : TabS w h a ks o es ep t) : ElemsOf (strKind P w) es.toList := fun e he => by
  obtain ⟨ms, _, f⟩ := R.mem
  obtain ⟨k, _, tk, rfl⟩ := each_memL f he
  exact ⟨⟨k, isS k tk, rfl⟩, rfl⟩
theorem TabS.has (R : TabS w h a ks o es ep t) (k : Str) : k ∈ ks ↔ ∃ e ∈ es.toList, (strKind P w).is k e.2 = true := by
  obtain ⟨ms, q, f⟩ := R.mem
  rw [← q.mem_iff]
  constructor
  · intro m
    obtain ⟨e, he, g⟩ := each_memR f m
    exact ⟨e, he, (ens_is g).mpr rfl⟩
  · rintro ⟨e, he, g⟩
    obtain ⟨k', m, g'⟩ := each_memL f he
    rw [(ens_is g').mp g]
    exact m
theorem TabS.size (R : TabS w h a ks o es ep t) : es.size = ks.length := by
  obtain ⟨ms, q, f⟩ := R.mem
  rw [← q.length_eq, ← f.length, Array.length_toList]
theorem addS_tail {g : Bool → Sem Unit} (hg : ∀ (b : Bool) (s₁ : Shared) (Q' : Unit → Shared → Prop), Q' () s₁ → wpAny (model P w) A (g b) Q' E s₁)
    (ho : s.heap.get? a = some o) (hx : o.ExactSet) (hdt : o.data = .set es ep t) {fs : Array (Int × Value)} {t2 : SetTable} {ls : List Str} (hm : ∃ ms, ms.Perm ls ∧ PySem.W.EachIs (EnS w) fs.toList ms) (hn : ls.Nodup)
    (hb : fs.size < scanBound) (hf : t2.fits fs.size = true) (hr : Ris t2.place.toList) (hl : w.params.followText "set-order" = true ∨ t2.led = true) {wd : Bool} {R : Option Bool → Shared → Prop}
    (hR : ∀ h', Heap.SameBut a s.heap h' → SetS w h' a ls → R (some true) { s with heap := h' }) :
    wpAny (model P w) A (do storeSet a fs t2; if (!wd && t2.tooFull) = true then do { g (relayAll t2 fs (SetTable.grown fs.size)).2.2; storeSet a (relayAll t2 fs (SetTable.grown fs.size)).1 (relayAll t2 fs (SetTable.grown fs.size)).2.1; pure (some true) } else pure (some true)) R E s := by
  refine wpAny_bind (wpAny_storeSet_of ho hdt ?_ (fits_of_scanBound hb))
  have h1 := store_at (es' := fs) (t' := t2) ho hdt
  have k1 := Heap.SameBut.update s.heap a (Obj.putSet fs t2)
  split
  · have pm := relayAll_perm t2 fs (SetTable.grown fs.size)
    have f3 := relayAll_fits t2 fs (SetTable.grown fs.size)
    have r3 := relayAll_ris t2 fs (SetTable.grown fs.size)
    have l3 := relayAll_led t2 fs (SetTable.grown fs.size)
    generalize relayAll t2 fs (SetTable.grown fs.size) = Z at pm f3 r3 l3 ⊢
    obtain ⟨gs, t3, gv⟩ := Z
    dsimp only at pm f3 r3 l3 ⊢
    have sz : gs.size = fs.size := by rw [← Array.length_toList, pm.length_eq, Array.length_toList]
    have b2 : gs.size < scanBound := by rw [sz]; exact hb
    refine wpAny_bind (hg _ _ _ ?_)
    refine wpAny_bind (wpAny_storeSet_of h1 rfl ?_ (fits_of_scanBound b2))
    have h2 := store_at (es' := gs) (t' := t3) h1 rfl
    refine wpAny_pure (hR _ (k1.trans (Heap.SameBut.update _ a _)) ?_)
    obtain ⟨ms, q, f⟩ := hm
    obtain ⟨ms2, q2, f2⟩ := each_perm pm f
    exact ⟨_, gs, _, t3, ⟨h2, hx, rfl, ⟨ms2, q2.trans q, f2⟩, hn, b2, f3, r3, hl.imp id fun z => by rw [l3]; exact z⟩⟩
  · exact wpAny_pure (hR _ k1 ⟨_, fs, _, t2, ⟨h1, hx, rfl, hm, hn, hb, hf, hr, hl⟩⟩)
def pushS (ks : List Str) (k : Str) : List Str := if k ∈ ks then ks else k :: ks
theorem addS {k : Str} {tk : Tok} {Q : Bool → Shared → Prop} (R : SetS w s.heap a ks) (room : ks.length + 1 < scanBound)
    (hQ : ∀ h' b, Heap.SameBut a s.heap h' → SetS w h' a (pushS ks k) → Q b { s with heap := h' }) :
    wpAny (model P w) A (setAddHashed a (.str k tk) (hashStr w k)) Q E s := by
  obtain ⟨o, es, ep, t, T⟩ := R
  have key := isS (P := P) (w := w) k tk
  have sc : (Value.str k tk).scannable = true := rfl
  have el := T.elems (P := P)
  show wpAny _ _ (setAddHashed a (.str k tk) ((strKind P w).hash k)) _ _ _
  unfold setAddHashed setAddHashedIn
  refine wpAny_holding (wpAny_bind (wpAny_setState_of T.get T.dat T.fit ?_))
  dsimp only
  rw [byScan_of sc T.few el]
  simp only [↓reduceIte]
  unfold setAddByScan
  refine wpAny_bind (wpAny_bind (wpAny_rule (wpAny_bind (wpAny_setScan_of key T.get T.dat T.fit el ?_))))
  cases fi : List.findIdx? (fun e => (strKind P w).is k e.2) es.toList with
  | some j =>
    dsimp only
    obtain ⟨hj, pj, _⟩ := List.findIdx?_eq_some_iff_getElem.mp fi
    have m : k ∈ ks := (T.has (P := P) k).mpr ⟨es.toList[j], List.getElem_mem hj, pj⟩
    refine wpAny_pure (wpAny_pure (hQ s.heap _ (Heap.SameBut.refl a s.heap) ?_))
    unfold pushS
    rw [if_pos m]
    exact ⟨o, es, ep, t, T⟩
  | none =>
    dsimp only
    have m : k ∉ ks := fun z => by
      obtain ⟨e, he, q⟩ := (T.has (P := P) k).mp z
      have c := List.findIdx?_eq_none_iff.mp fi e he
      rw [q] at c
      cases c
    have gw : ∀ (b : Bool) {s₁ : Shared} {Q' : Unit → Shared → Prop}, Q' () s₁ → wpAny (model P w) A (match b with | true => rule "set.scan.the-table-gave-way" | false => pure ()) Q' E s₁ :=
      fun b s₁ Q' q => by cases b <;> first | exact wpAny_pure q | exact wpAny_rule q
    have pm := layNew_perm t es ((strKind P w).hash k) (.str k tk)
    have f1 := layNew_fits t es ((strKind P w).hash k) (.str k tk)
    have r1 := layNew_ris t es ((strKind P w).hash k) (.str k tk) T.ris
    have l1 := layNew_led t es ((strKind P w).hash k) (.str k tk)
    generalize layNew t es ((strKind P w).hash k) (.str k tk) = Z at pm f1 r1 l1 ⊢
    obtain ⟨fs, t1, wd, gave⟩ := Z
    dsimp only at pm f1 r1 l1 ⊢
    rw [Array.toList_push] at pm
    have pc : fs.toList.Perm (((strKind P w).hash k, Value.str k tk) :: es.toList) := pm.trans (List.perm_append_singleton _ _)
    obtain ⟨ms, q0, f0⟩ := T.mem
    obtain ⟨ms2, q2, f2⟩ := each_perm pc (PySem.W.EachIs.cons (R := EnS w) ⟨tk, rfl⟩ f0)
    have hm : ∃ ms, ms.Perm (k :: ks) ∧ PySem.W.EachIs (EnS w) fs.toList ms := ⟨ms2, q2.trans (q0.cons k), f2⟩
    have hn : (k :: ks).Nodup := List.nodup_cons.mpr ⟨m, T.nd⟩
    have sz : fs.size = ks.length + 1 := by rw [← Array.length_toList, pc.length_eq, List.length_cons, Array.length_toList, T.size]
    have b1 : fs.size < scanBound := by rw [sz]; exact room
    have ld : w.params.followText "set-order" = true ∨ t1.led = true := T.led.imp id fun z => by rw [l1]; exact z
    have fin : ∀ h', Heap.SameBut a s.heap h' → SetS w h' a (k :: ks) → Q true { s with heap := h' } := fun h' sb r => hQ h' _ sb (by unfold pushS; rw [if_neg m]; exact r)
    refine wpAny_bind (gw _ ?_)
    split
    · refine wpAny_bind ?_
      rw [hashByValue_scannable 8 sc]
      refine wpAny_pure (addS_tail ?_ T.get T.ex T.dat hm hn b1 ?_ ?_ ?_ ?_)
      · intro b s₁ Q' q; cases b <;> first | exact wpAny_pure q | exact wpAny_rule q
      · first | (split <;> first | exact f1 | exact SetTable.fits_plain_off f1) | exact f1
      · first | (split <;> exact r1) | exact r1
      · first | (split <;> exact ld) | exact ld
      · intro h' sb r; dsimp only; exact wpAny_pure (fin h' sb r)
    · refine wpAny_bind (wpAny_pure ?_)
      simp only [↓reduceIte]
      refine addS_tail ?_ T.get T.ex T.dat hm hn b1 f1 r1 ld ?_
      · intro b s₁ Q' q; cases b <;> first | exact wpAny_pure q | exact wpAny_rule q
      · intro h' sb r; dsimp only; exact wpAny_pure (fin h' sb r)
/-- the members met so far -/
def seenS (xs : List Str) : Nat → List Str
  | 0 => []
  | i + 1 => match xs[i]? with
    | some x => pushS (seenS xs i) x
    | none => seenS xs i
theorem seenS_le (xs : List Str) : ∀ i, (seenS xs i).length ≤ i
  | 0 => Nat.le_refl 0
  | i + 1 => by
    have ih := seenS_le xs i
    unfold seenS
    cases xs[i]? with
    | none => exact Nat.le_succ_of_le ih
    | some x =>
      show (pushS (seenS xs i) x).length ≤ i + 1
      unfold pushS
      split
      · omega
      · rw [List.length_cons]
        omega
end
section
variable {P : Program} {w : World} {A : Around} {R : Result → Shared → Prop} {I : Addr} {fp wr : List Addr} {G : Array GenState → Array GenState → Prop} {n : Nat} {Pv : Nat → Value → Prop} {St : Nat → Shared → Prop}
theorem set_loopS (W : WalksS P w A.in1 I fp wr G n Pv St) (S : Addr) (hS0 : S ∉ fp) (xs : List Str) (hval : ∀ i v, Pv i v → ∃ x tk, xs[i]? = some x ∧ v = .str x tk) (hb : n + 1 < scanBound) :
    ∀ (m i : Nat) (s : Shared), n - i = m → i ≤ n → St i s → SetS w s.heap S (seenS xs i) → (∀ s', Moved (S :: wr) G s s' → SetS w s'.heap S (seenS xs n) → R (.ok (.ret .none)) s') →
      codeAny (model P w) A (.builtin "set.update.loop" ⟨[.ref S, .ref I], []⟩) R s := by
  have nw : S ∉ wr := fun h => hS0 (W.sub _ h)
  have up : ∀ b ∈ wr, b ∈ S :: wr := fun b h => List.mem_cons_of_mem _ h
  have carry : ∀ {i : Nat} {s s' : Shared}, Moved wr G s s' → SetS w s.heap S (seenS xs i) → SetS w s'.heap S (seenS xs i) := fun hm r => r.at fun o ho => hm.heap S _ nw ho
  intro m
  induction m with
  | zero =>
    intro i s em hi hst hS fin
    obtain rfl : i = n := by omega
    refine codeAny_builtin F.entry_set_update_loop ?_
    rw [Around.under_plainId F.plain_set_update_loop _]
    show wpAny _ A.in1 (pyNext (.ref I) >>= _) _ _ s
    exact wpAny_bind (W.done s _ _ hst fun s' hm => by
      show wpAny _ A.in1 (ret Value.none) _ _ s'
      exact wpAny_pure (fin s' (hm.mono up) (carry hm hS)))
  | succ m ih =>
    intro i s em hi hst hS fin
    have lt : i < n := by omega
    refine codeAny_builtin F.entry_set_update_loop ?_
    rw [Around.under_plainId F.plain_set_update_loop _]
    show wpAny _ A.in1 (pyNext (.ref I) >>= _) _ _ s
    refine wpAny_bind (W.item i s _ _ lt hst fun v s' hP hst' hm => ?_)
    obtain ⟨x, tk, hx, rfl⟩ := hval i v hP
    show wpAny _ A.in1 (holding [Value.str x tk] (setAdd S (.str x tk)) >>= _) _ _ s'
    refine wpAny_bind (wpAny_holding ?_)
    unfold setAdd
    refine wpAny_holding (wpAny_bind ((strKind P w).pyHash (k := x) (isS x tk) ?_))
    have room : (seenS xs i).length + 1 < scanBound := by have := seenS_le xs i; omega
    have hS1 : SetS w s'.heap S (seenS xs i) := carry hm hS
    refine addS (s := { s' with toks := s'.toks + 1 }) hS1 room fun h' b sb new => ?_
    have e : seenS xs (i + 1) = pushS (seenS xs i) x := by
      show (match xs[i]? with | some x => pushS (seenS xs i) x | none => seenS xs i) = _
      rw [hx]
    rw [← e] at new
    refine wpAny_pure ⟨plainId_quiet F.plain_set_update_loop _, ih (i + 1) _ (by omega) lt (W.frame _ s' _ _ hst' (Nat.le_succ _) fun b hbf o e => ?_) new fun s'' hm2 hS2 => ?_⟩
    · exact (sb.2 b fun z : b = S => hS0 (z ▸ hbf)).trans e
    · exact fin s'' (Moved.trans W.gtrans ((hm.mono up).then_heap (Nat.le_succ _) fun b o nb e => (sb.2 b fun z : b = S => nb (z ▸ List.mem_cons_self)).trans e) hm2) hS2
end
end PL

set_option maxHeartbeats 4000000
namespace PL
open PySem PySem.Spec PyProof.Rows L2 PySem.Calls PySem.W
section
variable {P : Program} {w : World} {A : Around} {E : Value → Shared → Prop} {s : Shared}
/-- the empty set, as it is made -/
abbrev sob (w : World) : Obj := { cls := .type "set", dict := none, data := .set #[] 0 (.fresh 0 0 (!w.params.followText "set-order")) }
theorem tabS_fresh {h : Heap} {a : Addr} (g : h.get? a = some (sob w)) : SetS w h a [] :=
  ⟨_, #[], 0, _, ⟨g, ⟨rfl, rfl, rfl⟩, rfl, ⟨[], .refl _, .nil⟩, List.nodup_nil, by decide, rfl, List.Pairwise.nil, by
    show _ ∨ (!w.params.followText "set-order") = true
    cases w.params.followText "set-order"
    · exact .inr rfl
    · exact .inl rfl⟩⟩
/-- the different ones of some texts -/
abbrev dif (xs : List Str) : List Str := seenS xs xs.length
structure MadeS (w : World) (xs : List Str) (s s' : Shared) : Prop where
  set : SetS w s'.heap s.heap.objs.size (dif xs)
  heap : ∀ b o, s.heap.get? b = some o → s'.heap.get? b = some o
  gens : s'.gens = s.gens
  drawn : s'.drawn = s.drawn
  os : s'.os = s.os
set_option maxHeartbeats 3200000 in
theorem set_list {l : Addr} {its : Array Value} {xs : List Str} {Q : Value → Shared → Prop} (hh : A.handled = none) (hl : s.heap.IsList l its) (hi : StrsAre its.toList xs) (hb : its.size + 1 < scanBound)
    (h : ∀ s', MadeS w xs s s' → Q (.ref s.heap.objs.size) s') : wpAny (model P w) A (call (.type "set") [.ref l]) Q E s := by
  have sz : xs.length = its.size := by rw [← StrsAre.len_eq hi, Array.length_toList]
  obtain ⟨c0, t0, mr0⟩ := F.called_set.mro
  have md0 := F.called_set.made
  have sb0 := F.called_set.sub
  refine wpAny_call (codeAny_of_tree ?_); show wpAny _ _ (callAny (.type "set") _) _ _ _
  refine wpAny_pure ⟨Code.quiet_builtin _ (by decide +kernel), codeAny_builtin F.entry_type_call ?_⟩; rw [Around.under_plain (weight_type_call_type "set" [.ref l] []) rfl]
  have nt0 := F.called_set.notType
  have cc0 := F.called_set.canCreate
  have tc0 := F.typeCall_set_1 (.ref l)
  repeat (any_goals (first | assumption | wp_step))
  refine codeAny_mono (code_set_led1 (.ref l) (E := E) (Q₁ := fun obj s₁ => obj = .ref s.heap.objs.size ∧ s₁ = { s with heap := s.heap.push (sob w) }) ⟨rfl, rfl⟩) fun r s₁ hr => ?_
  cases r with
  | error e => exact hr
  | ok fl =>
    cases fl with
    | ret obj =>
      obtain ⟨rfl, rfl⟩ := hr
      have g0 : (s.heap.push (sob w)).get? s.heap.objs.size = some (sob w) := Heap.get?_push_size _ rfl
      have ty0 : Shared.TypeIs { s with heap := s.heap.push (sob w) } (.ref s.heap.objs.size) "set" := ⟨_, g0, rfl⟩
      have li0 := F.called_set.init.lookup
      have bi0 := F.called_set.init.bind (.ref s.heap.objs.size)
      repeat (any_goals (first | assumption | wp_step))
      refine codeAny_mono (codeAny_call_builtin (R := wants (fun r s₂ => r = .none ∧ MadeS w xs s s₂) E) F.called_set.init.plain F.entry_set_init (check_set_init_1 ty0 ?_)) fun r₂ s₂ hr₂ => ?_
      · obtain ⟨ol, gl, cl, nl, dl⟩ := hl
        obtain ⟨ocls, odict, odata, oslots⟩ := ol
        simp only at cl dl
        subst cl; subst dl
        have gl' : (s.heap.push (sob w)).get? l = some { cls := .type "list", dict := odict, data := .seq its nl, slots := oslots } := Heap.get?_push_of_some _ gl
        have s1 := F.sub_list_set
        have s2 := F.sub_list_frozenset
        have s3 : (Value.type "list" == Value.type "dict") = false := by decide
        have il : (s.heap.push (sob w)).IsList l its := ⟨_, gl', rfl, nl, rfl⟩
        unfold Builtin.«set.__init__» noKeywords Builtin.Frozenset.updateFrom
        generalize hPI : pyIter = PI
        wp_walk
        subst hPI
        refine wpAny_pyIter_list il (wpAny_bind (wpAny_runValue ?_))
        have lt0 : l < s.heap.objs.size := Heap.lt_size gl
        have h3 : A.in1.in1.in1.handled = none := by simp [hh]
        have ne0 : l ≠ (s.heap.push (sob w)).objs.size := by rw [Heap.size_push]; exact Nat.ne_of_lt (Nat.lt_succ_of_lt lt0)
        have no0 : s.heap.objs.size ∉ [(s.heap.push (sob w)).objs.size, l] := by
          rw [Heap.size_push]
          intro z
          rcases List.mem_cons.mp z with z | z
          · exact absurd z (Nat.ne_of_lt (Nat.lt_succ_self _))
          · exact absurd (List.mem_singleton.mp z) (Nat.ne_of_gt lt0)
        have val0 : ∀ (i : Nat) (v : Value), its[i]? = some v → ∃ x tk, xs[i]? = some x ∧ v = .str x tk := fun i v hv => by
          have hx : i < xs.length := by rw [sz]; exact (Array.getElem?_eq_some_iff.mp hv).1
          obtain ⟨tk, e⟩ := SS.strs_at hi i v (by rw [Array.getElem?_toList]; exact hv)
          refine ⟨xs[i], tk, List.getElem?_eq_getElem hx, ?_⟩
          rw [e, List.getD_eq_getElem?_getD, List.getElem?_eq_getElem hx] <;> rfl
        refine set_loopS ((Walks.list h3 _ l ne0 its).toS) s.heap.objs.size no0 xs val0 hb (its.size - 0) 0 _ (by omega) (Nat.zero_le _) ⟨⟨_, Heap.get?_push_size _ rfl, rfl, rfl⟩, (il.push _)⟩ ?st0 ?en0
        case st0 => exact tabS_fresh (Heap.get?_push_of_some _ g0)
        case en0 =>
          intro s' hm hS
          refine wpAny_pure (wpAny_pure ⟨rfl, ⟨by rw [← sz] at hS; exact hS, fun b o e => ?_, hm.gens, hm.drawn, hm.os⟩⟩)
          have lb : b < s.heap.objs.size := Heap.lt_size e
          refine hm.heap b o (fun z => ?_) (Heap.get?_push_of_some _ (Heap.get?_push_of_some _ e))
          rcases List.mem_cons.mp z with z | z
          · exact absurd z (Nat.ne_of_lt lb)
          · have z2 := List.mem_singleton.mp z
            rw [Heap.size_push] at z2
            exact absurd z2 (Nat.ne_of_lt (Nat.lt_succ_of_lt lb))
      · cases r₂ with
        | error e => exact hr₂
        | ok fl₂ =>
          cases fl₂ with
          | ret r =>
            obtain ⟨rfl, M⟩ := hr₂
            repeat (any_goals (first | assumption | wp_step))
            exact h _ M
          | _ => exact hr₂.elim
    | _ => exact hr.elim
set_option maxHeartbeats 3200000 in
theorem set_tuple {l : Addr} {its : Array Value} {xs : List Str} {Q : Value → Shared → Prop} (hh : A.handled = none) (hl : s.heap.IsTuple l its) (hi : StrsAre its.toList xs) (hb : its.size + 1 < scanBound)
    (h : ∀ s', MadeS w xs s s' → Q (.ref s.heap.objs.size) s') : wpAny (model P w) A (call (.type "set") [.ref l]) Q E s := by
  have sz : xs.length = its.size := by rw [← StrsAre.len_eq hi, Array.length_toList]
  obtain ⟨c0, t0, mr0⟩ := F.called_set.mro
  have md0 := F.called_set.made
  have sb0 := F.called_set.sub
  refine wpAny_call (codeAny_of_tree ?_); show wpAny _ _ (callAny (.type "set") _) _ _ _
  refine wpAny_pure ⟨Code.quiet_builtin _ (by decide +kernel), codeAny_builtin F.entry_type_call ?_⟩; rw [Around.under_plain (weight_type_call_type "set" [.ref l] []) rfl]
  have nt0 := F.called_set.notType
  have cc0 := F.called_set.canCreate
  have tc0 := F.typeCall_set_1 (.ref l)
  repeat (any_goals (first | assumption | wp_step))
  refine codeAny_mono (code_set_led1 (.ref l) (E := E) (Q₁ := fun obj s₁ => obj = .ref s.heap.objs.size ∧ s₁ = { s with heap := s.heap.push (sob w) }) ⟨rfl, rfl⟩) fun r s₁ hr => ?_
  cases r with
  | error e => exact hr
  | ok fl =>
    cases fl with
    | ret obj =>
      obtain ⟨rfl, rfl⟩ := hr
      have g0 : (s.heap.push (sob w)).get? s.heap.objs.size = some (sob w) := Heap.get?_push_size _ rfl
      have ty0 : Shared.TypeIs { s with heap := s.heap.push (sob w) } (.ref s.heap.objs.size) "set" := ⟨_, g0, rfl⟩
      have li0 := F.called_set.init.lookup
      have bi0 := F.called_set.init.bind (.ref s.heap.objs.size)
      repeat (any_goals (first | assumption | wp_step))
      refine codeAny_mono (codeAny_call_builtin (R := wants (fun r s₂ => r = .none ∧ MadeS w xs s s₂) E) F.called_set.init.plain F.entry_set_init (check_set_init_1 ty0 ?_)) fun r₂ s₂ hr₂ => ?_
      · obtain ⟨ol, gl, cl, nl, dl⟩ := hl
        obtain ⟨ocls, odict, odata, oslots⟩ := ol
        simp only at cl dl
        subst cl; subst dl
        have gl' : (s.heap.push (sob w)).get? l = some { cls := .type "tuple", dict := odict, data := .seq its nl, slots := oslots } := Heap.get?_push_of_some _ gl
        have s1 := F.sub_tuple_set
        have s2 := F.sub_tuple_frozenset
        have s3 : (Value.type "tuple" == Value.type "dict") = false := by decide
        have il : (s.heap.push (sob w)).IsTuple l its := ⟨_, gl', rfl, nl, rfl⟩
        unfold Builtin.«set.__init__» noKeywords Builtin.Frozenset.updateFrom
        generalize hPI : pyIter = PI
        wp_walk
        subst hPI
        refine wpAny_pyIter_tuple il (wpAny_bind (wpAny_runValue ?_))
        have lt0 : l < s.heap.objs.size := Heap.lt_size gl
        have h3 : A.in1.in1.in1.handled = none := by simp [hh]
        have ne0 : l ≠ (s.heap.push (sob w)).objs.size := by rw [Heap.size_push]; exact Nat.ne_of_lt (Nat.lt_succ_of_lt lt0)
        have no0 : s.heap.objs.size ∉ [(s.heap.push (sob w)).objs.size, l] := by
          rw [Heap.size_push]
          intro z
          rcases List.mem_cons.mp z with z | z
          · exact absurd z (Nat.ne_of_lt (Nat.lt_succ_self _))
          · exact absurd (List.mem_singleton.mp z) (Nat.ne_of_gt lt0)
        have val0 : ∀ (i : Nat) (v : Value), its[i]? = some v → ∃ x tk, xs[i]? = some x ∧ v = .str x tk := fun i v hv => by
          have hx : i < xs.length := by rw [sz]; exact (Array.getElem?_eq_some_iff.mp hv).1
          obtain ⟨tk, e⟩ := SS.strs_at hi i v (by rw [Array.getElem?_toList]; exact hv)
          refine ⟨xs[i], tk, List.getElem?_eq_getElem hx, ?_⟩
          rw [e, List.getD_eq_getElem?_getD, List.getElem?_eq_getElem hx] <;> rfl
        refine set_loopS ((Walks.tuple h3 _ l ne0 its).toS) s.heap.objs.size no0 xs val0 hb (its.size - 0) 0 _ (by omega) (Nat.zero_le _) ⟨⟨_, Heap.get?_push_size _ rfl, rfl, rfl⟩, (il.push _)⟩ ?st0 ?en0
        case st0 => exact tabS_fresh (Heap.get?_push_of_some _ g0)
        case en0 =>
          intro s' hm hS
          refine wpAny_pure (wpAny_pure ⟨rfl, ⟨by rw [← sz] at hS; exact hS, fun b o e => ?_, hm.gens, hm.drawn, hm.os⟩⟩)
          have lb : b < s.heap.objs.size := Heap.lt_size e
          refine hm.heap b o (fun z => ?_) (Heap.get?_push_of_some _ (Heap.get?_push_of_some _ e))
          rcases List.mem_cons.mp z with z | z
          · exact absurd z (Nat.ne_of_lt lb)
          · have z2 := List.mem_singleton.mp z
            rw [Heap.size_push] at z2
            exact absurd z2 (Nat.ne_of_lt (Nat.lt_succ_of_lt lb))
      · cases r₂ with
        | error e => exact hr₂
        | ok fl₂ =>
          cases fl₂ with
          | ret r =>
            obtain ⟨rfl, M⟩ := hr₂
            repeat (any_goals (first | assumption | wp_step))
            exact h _ M
          | _ => exact hr₂.elim
    | _ => exact hr.elim
end

end PL

set_option maxHeartbeats 4000000
namespace PL
open PySem PySem.Spec PyProof.Rows L2 PySem.Calls PySem.W
/-! ### the order of texts -/
def leS (a b : Str) : Bool := decide (a.cps.toList ≤ b.cps.toList)
def ltS (a b : Str) : Bool := decide (a.cps.toList < b.cps.toList)
theorem leS_total (a b : Str) : (leS a b || leS b a) = true := by
  unfold leS
  rcases List.le_total a.cps.toList b.cps.toList with h | h
  · rw [decide_eq_true h, Bool.true_or]
  · rw [decide_eq_true h, Bool.or_true]
theorem leS_trans (a b c : Str) (h1 : leS a b = true) (h2 : leS b c = true) : leS a c = true := decide_eq_true (List.le_trans (of_decide_eq_true h1) (of_decide_eq_true h2))
theorem leS_anti {a b : Str} (h1 : leS a b = true) (h2 : leS b a = true) : a = b := str_of_cps (List.le_antisymm (of_decide_eq_true h1) (of_decide_eq_true h2))
theorem ltS_iff {a b : Str} : ltS a b = true ↔ leS a b = true ∧ a ≠ b := by
  unfold ltS leS
  rw [decide_eq_true_iff, decide_eq_true_iff]
  constructor
  · intro h
    exact ⟨List.le_of_lt h, fun e => by subst e; exact absurd h (List.lt_irrefl _)⟩
  · rintro ⟨h, n⟩
    rcases Decidable.em (a.cps.toList < b.cps.toList) with q | q
    · exact q
    · exact absurd (str_of_cps (List.le_antisymm h (List.not_lt.mp q))) n
abbrev sortS (xs : List Str) : List Str := xs.mergeSort leS
/-- one sorted list alone -/
theorem perm_sorted_eq {α : Type} {le : α → α → Bool} (anti : ∀ {a b : α}, le a b = true → le b a = true → a = b) : ∀ {l m : List α}, l.Perm m → l.Pairwise (fun a b => le a b = true) → m.Pairwise (fun a b => le a b = true) → l = m
  | [], m, h, _, _ => (List.Perm.nil_eq h)
  | a :: l, [], h, _, _ => absurd h.length_eq (by simp)
  | a :: l, b :: m, h, h1, h2 => by
    have e : a = b := by
      have m1 : a ∈ b :: m := h.subset List.mem_cons_self
      have m2 : b ∈ a :: l := h.symm.subset List.mem_cons_self
      rcases List.mem_cons.mp m1 with e | m1
      · exact e
      · rcases List.mem_cons.mp m2 with e | m2
        · exact e.symm
        · exact anti ((List.pairwise_cons.mp h1).1 _ m2) ((List.pairwise_cons.mp h2).1 _ m1)
    subst e
    rw [perm_sorted_eq anti ((List.perm_cons a).mp h) (List.pairwise_cons.mp h1).2 (List.pairwise_cons.mp h2).2]
theorem sortS_pw (xs : List Str) : (sortS xs).Pairwise fun a b => leS a b = true := List.pairwise_mergeSort leS_trans leS_total xs
theorem sortS_perm (xs : List Str) : (sortS xs).Perm xs := List.mergeSort_perm _ _
theorem sortS_eq {xs ys : List Str} (p : xs.Perm ys) : sortS xs = sortS ys := perm_sorted_eq (le := leS) leS_anti (((sortS_perm xs).trans p).trans (sortS_perm ys).symm) (sortS_pw xs) (sortS_pw ys)
theorem sortS_self {xs : List Str} (h : xs.Pairwise fun a b => leS a b = true) : sortS xs = xs := perm_sorted_eq (le := leS) leS_anti (sortS_perm xs) (sortS_pw xs) h
/-- sorted data -/
theorem dataLe_strs (a b : Str) : dataLe false id (PyData.str a) (PyData.str b) = leS a b := congrFun (congrFun (dataLe_str (β := Str) id) a) b
theorem merge_map {α β : Type} (f : α → β) {le : β → β → Bool} {le' : α → α → Bool} (h : ∀ a b, le (f a) (f b) = le' a b) (xs : List α) : (xs.map f).mergeSort le = (xs.mergeSort le').map f := by
  have := List.map_mergeSort (r := le') (s := le) (f := f) (l := xs) (fun a _ b _ => (h a b).symm)
  exact this.symm
theorem srt_strs (xs : List Str) : srt (xs.map .str) = (sortS xs).map .str := merge_map PyData.str (le' := leS) dataLe_strs xs
theorem sortOk_strs {xs : List Str} (h : xs.length ≤ 1000000) : SortOk (xs.map .str) where
  al := AllAlike.of fun b b' => rfl
  so := Sortable.others fun b => ⟨(fun h => nomatch h), fun xs h => nomatch h⟩
  dp := fun d hd => by
    obtain ⟨x, _, rfl⟩ := List.mem_map.mp hd
    exact Nat.zero_le _
  ln := by
    rw [List.length_map]
    exact leZ h
section
variable {X : Cx} {Γ : Ga} {a : Expr} {p p2 q pos : Pos} {ds : List D}
theorem goN_sortS {x : D} {xs : List Str} (hu : UOk X) (hm : X.mg "sorted" = none) (ha : Go X Γ a x) (hs : SeqOk x (xs.map .str)) (hl : xs.length ≤ 1000000) (hg : Gl X "sorted" := by rfl) (he : starEach [a] X.env = (false, eval a X.env) :: starEach [] X.env := by rfl) :
    GoN X Γ (.Call (.Name "sorted" p) [a] [] pos) ((sortS xs).map .str) := by
  rw [← srt_strs]
  exact goN_sortD hu hm ha hs (sortOk_strs hl) hg he
/-! ### len(set(xs)), sorted(set(xs)) of texts -/
theorem vals_strsAre : ∀ {ys : List Str} {us : List Value}, Vals (ys.map V.str) us → StrsAre us ys := fun h => L2.strsAre_of h
/-- a set of texts is made of a list or a tuple -/
def tSetS (K : PySem.W.Frag) (ta : TE) (R : List Str → Hp → Prop) : L2.St → Hp → Prop := fun σ H => ta σ H fun x H1 => ∃ (l : Addr) (xs : List Str), x = V.ref l ∧ (SqL K H1 l (xs.map V.str) ∨ SqT K H1 l (xs.map V.str)) ∧ xs.length < 4000 ∧ R xs H1
theorem set_made {pins : List (Addr × Obj)} {σ : L2.St} {H : Hp} {s : Shared} {l : Addr} {xs : List Str} {Q : Value → Shared → Prop} {E : Value → Shared → Prop} {A : Around} (hA : A.handled = none) (I : Inv X pins σ H s) (h : SqL X.K H l (xs.map V.str) ∨ SqT X.K H l (xs.map V.str)) (hz : xs.length < 4000)
    (hQ : ∀ s', MadeS X.w xs s s' → Inv X pins σ H s' → Q (.ref s.heap.objs.size) s') : wpAny (model X.prog X.w) A (call (.type "set") [.ref l]) Q E s := by
  have fin : ∀ s', MadeS X.w xs s s' → Q (.ref s.heap.objs.size) s' := fun s' M => hQ s' M (by
    obtain ⟨h', g', d', t', o'⟩ := s'
    have e1 : g' = s.gens := M.gens
    have e2 : d' = s.drawn := M.drawn
    have e3 : o' = s.os := M.os
    subst e1 e2 e3
    exact I.kept M.heap)
  rcases h with h | h
  · obtain ⟨its, r, pl, _⟩ := I.list h
    have hl : its.toArray.size = xs.length := by rw [List.size_toArray, ← r.length, List.length_map]
    exact set_list hA pl.isList (by simpa using vals_strsAre r) (by rw [hl]; unfold scanBound; omega) fin
  · obtain ⟨its, r, pl, _⟩ := I.tuple h
    have hl : its.toArray.size = xs.length := by rw [List.size_toArray, ← r.length, List.length_map]
    exact set_tuple hA pl (by simpa using vals_strsAre r) (by rw [hl]; unfold scanBound; omega) fin
theorem seenS_nd (xs : List Str) : ∀ i, (seenS xs i).Nodup
  | 0 => List.nodup_nil
  | i + 1 => by
    have ih := seenS_nd xs i
    unfold seenS
    cases xs[i]? with
    | none => exact ih
    | some x =>
      show (pushS (seenS xs i) x).Nodup
      unfold pushS
      split
      · exact ih
      · exact List.nodup_cons.mpr ⟨by assumption, ih⟩
theorem mem_pushS {ks : List Str} {x y : Str} : y ∈ pushS ks x ↔ y = x ∨ y ∈ ks := by
  unfold pushS
  split
  · exact ⟨.inr, fun h => h.elim (fun e => by subst e; assumption) id⟩
  · exact List.mem_cons
theorem mem_seenS (xs : List Str) : ∀ i y, y ∈ seenS xs i ↔ y ∈ xs.take i
  | 0, y => by simp [seenS]
  | i + 1, y => by
    unfold seenS
    cases q : xs[i]? with
    | none =>
      have hl : xs.length ≤ i := List.getElem?_eq_none_iff.mp q
      have h1 : xs.take (i + 1) = xs.take i := by rw [List.take_of_length_le (Nat.le_succ_of_le hl), List.take_of_length_le hl]
      rw [h1]
      exact mem_seenS xs i y
    | some x =>
      show y ∈ pushS (seenS xs i) x ↔ _
      rw [mem_pushS, mem_seenS xs i y, List.take_add_one, q]
      simp only [Option.toList, List.mem_append, List.mem_singleton]
      exact Or.comm
theorem mem_dif {xs : List Str} {y : Str} : y ∈ dif xs ↔ y ∈ xs := by
  rw [mem_seenS, List.take_length]
theorem dif_nd (xs : List Str) : (dif xs).Nodup := seenS_nd xs _
theorem nodup_perm {α : Type} [DecidableEq α] {l m : List α} (h1 : l.Nodup) (h2 : m.Nodup) (h : ∀ x, x ∈ l ↔ x ∈ m) : l.Perm m := by
  rw [List.perm_iff_count]
  intro a
  rw [h1.count, h2.count]
  by_cases ha : a ∈ l
  · rw [if_pos ha, if_pos ((h a).mp ha)]
  · rw [if_neg ha, if_neg (fun z => ha ((h a).mpr z))]
theorem dif_perm {xs : List Str} (h : xs.Nodup) : (dif xs).Perm xs := nodup_perm (dif_nd xs) h fun _ => mem_dif
theorem dif_len {xs : List Str} (h : xs.Nodup) : (dif xs).length = xs.length := (dif_perm h).length_eq
theorem sub_perm {α : Type} [DecidableEq α] : ∀ {l m : List α}, l.Nodup → (∀ x ∈ l, x ∈ m) → m.length ≤ l.length → l.Perm m
  | [], m, _, _, h => by
    have : m = [] := List.eq_nil_of_length_eq_zero (Nat.le_zero.mp h)
    rw [this]
  | x :: l, m, hn, hs, h => by
    obtain ⟨h1, h2⟩ := List.nodup_cons.mp hn
    have hx : x ∈ m := hs x List.mem_cons_self
    have hp := List.perm_cons_erase hx
    have ih := sub_perm (m := m.erase x) h2 (fun y hy => (List.mem_erase_of_ne (fun (e : y = x) => h1 (by rw [← e]; exact hy))).mpr (hs y (List.mem_cons_of_mem _ hy))) (by
      have := hp.length_eq
      rw [List.length_cons] at this h
      omega)
    exact (ih.cons x).trans hp.symm
theorem dif_le (xs : List Str) : (dif xs).length ≤ xs.length := seenS_le xs xs.length
theorem go_lenSetS {x : D} {xs : List Str} (hc : X.calm = true) (hm : X.mg "len" = none) (hm2 : X.mg "set" = none) (ha : Go X Γ a x) (hs : SeqOk x (xs.map .str)) (hl : xs.length < 4000) (hg : Gl X "len" := by rfl) (hg2 : Gl X "set" := by rfl)
    (na : starEach [a] X.env = (false, eval a X.env) :: starEach [] X.env := by rfl) : Go X Γ (.Call (.Name "len" p) [.Call (.Name "set" p2) [a] [] q] [] pos) (.int (dif xs).length) := .mk fun σ B H Fs E Q q0 => by
  have step : wpE X a σ H fun v H1 => ∃ B1 l, Nw B H B1 H1 ∧ v = .ref l ∧ (SqL X.K H1 l (xs.map V.str) ∨ SqT X.K H1 l (xs.map V.str)) := ha σ B H Fs E _ fun v B1 H1 n1 r1 => by
    cases x with
    | list es =>
      have e : xs.map .str = es := hs
      subst e
      obtain ⟨p, us, rfl, h3, h4⟩ := dp_lst r1
      rw [dps_strs_inv h4] at h3
      exact ⟨B1, p, n1, rfl, .inl (n1.bh.sl h3)⟩
    | tuple es =>
      have e : xs.map .str = es := hs
      subst e
      obtain ⟨p, us, rfl, h3, h4⟩ := dp_tup r1
      rw [dps_strs_inv h4] at h3
      exact ⟨B1, p, n1, rfl, .inr (n1.bh.st h3)⟩
    | _ => exact absurd hs (by simp [SeqOk])
  intro pins s I
  refine Call_ (ld_blt I hg hm PySem.boot_len ?_)
  refine PyProof.Rows.callWith_builtin1 (PyProof.Rows.args_cons ?_ rfl) rfl rfl
  refine Call_ (ld_blt I hg2 hm2 PyProof.Rows.boot_set ?_)
  refine PyProof.Rows.callWith_type1 (PyProof.Rows.args_cons (thn (step pins s I) fun v s1 ⟨x, H1, I1, r1, B1, l, n1, hx, hq⟩ => PyProof.Rows.args_nil ?_) na) na rfl
  subst hx
  cases r1
  refine set_made (I1.ok.hd hc) I1 hq hl fun s2 M I2 => PyProof.Rows.args_nil ?_
  obtain ⟨o, es, ep, t, T⟩ := M.set
  have hz : es.size = (dif xs).length := T.size
  have hle := dif_le xs
  refine PySem.call_len_set T.get T.ex T.dat T.fit (by rw [hz]; omega) ⟨.int (dif xs).length, H1, I2.tok _, ⟨_, by rw [hz]⟩, q0 _ B1 H1 n1 (Dp.int _)⟩
theorem goN_sortSetS {x : D} {xs : List Str} (hu : UOk X) (hc : X.calm = true) (hm : X.mg "sorted" = none) (hm2 : X.mg "set" = none) (ha : Go X Γ a x) (hs : SeqOk x (xs.map .str)) (hl : xs.length < 4000) (hg : Gl X "sorted" := by rfl) (hg2 : Gl X "set" := by rfl)
    (na : starEach [a] X.env = (false, eval a X.env) :: starEach [] X.env := by rfl) : GoN X Γ (.Call (.Name "sorted" p) [.Call (.Name "set" p2) [a] [] q] [] pos) ((sortS (dif xs)).map .str) := .mk fun σ B H Fs E Q q0 => by
  have step : wpE X a σ H fun v H1 => ∃ B1 l, Nw B H B1 H1 ∧ v = .ref l ∧ (SqL X.K H1 l (xs.map V.str) ∨ SqT X.K H1 l (xs.map V.str)) := ha σ B H Fs E _ fun v B1 H1 n1 r1 => by
    cases x with
    | list es =>
      have e : xs.map .str = es := hs
      subst e
      obtain ⟨p, us, rfl, h3, h4⟩ := dp_lst r1
      rw [dps_strs_inv h4] at h3
      exact ⟨B1, p, n1, rfl, .inl (n1.bh.sl h3)⟩
    | tuple es =>
      have e : xs.map .str = es := hs
      subst e
      obtain ⟨p, us, rfl, h3, h4⟩ := dp_tup r1
      rw [dps_strs_inv h4] at h3
      exact ⟨B1, p, n1, rfl, .inr (n1.bh.st h3)⟩
    | _ => exact absurd hs (by simp [SeqOk])
  intro pins s I
  refine Call_ (ld_blt I hg hm PyProof.Rows.boot_sorted ?_)
  refine PyProof.Rows.callWith_builtin1 (PyProof.Rows.args_cons ?_ rfl) rfl rfl
  refine Call_ (ld_blt I hg2 hm2 PyProof.Rows.boot_set ?_)
  refine PyProof.Rows.callWith_type1 (PyProof.Rows.args_cons (thn (step pins s I) fun v s1 ⟨x, H1, I1, r1, B1, l, n1, hx, hq⟩ => PyProof.Rows.args_nil ?_) na) na rfl
  subst hx
  cases r1
  refine set_made (I1.ok.hd hc) I1 hq hl fun s2 M I2 => PyProof.Rows.args_nil ?_
  obtain ⟨o, es, ep, t, T⟩ := M.set
  have hle := dif_le xs
  have hok : ∀ ks : List Str, ks.Perm (dif xs) → SortOk (ks.map .str) := fun ks hp => sortOk_strs (by rw [hp.length_eq]; omega)
  refine sorted_gen (B := B1) n1.bh (fun ds => ∃ ks : List Str, ks.Perm (dif xs) ∧ ds = ks.map .str) (fun ds ⟨ks, hp, e⟩ => e ▸ hok ks hp) hu I2 (fun Q' hQ => ?_) (fun ds ys p ⟨ks, hp, e⟩ hpn hy => ?_)
  · refine collect_set (A := X.A.in1) (I1.ok.hd hc) ⟨o, T.get, T.ex.1, T.dat⟩ T.fit T.few T.ris T.led fun s3 out k3 z3 g3 o3 pm => ?_
    obtain ⟨ms, pms, em⟩ := T.mem
    have em2 : PySem.W.EachIs (fun (v : Value) (k : Str) => ∃ tk, v = .str k tk) (es.toList.map (·.2)) ms := by
      generalize es.toList = l at em
      clear pm pms T
      induction em with
      | nil => exact .nil
      | cons h _ ih =>
        obtain ⟨tk, e⟩ := h
        exact .cons ⟨tk, by rw [e]⟩ ih
    obtain ⟨ns, pns, en⟩ := each_perm pm em2
    refine hQ s3 out (ns.map .str) ⟨k3, g3, o3⟩ (by rw [g3]; exact I2.bare) ?_ ⟨ns, pns.trans pms, rfl⟩
    clear pns pm
    induction en with
    | nil => exact .nil
    | cons h _ ih =>
      obtain ⟨tk, e⟩ := h
      exact .cons ⟨.str _, by rw [e]; exact ⟨tk, rfl⟩, Dp.str _⟩ ih
  · subst e
    rw [srt_strs, sortS_eq hp] at hy
    have n2 := n1.trans (.lay (o := .lst ys) n1.bh hpn)
    exact q0 p ys B1 _ n2 (n1.hh.none hpn) (n1.bh.none hpn) upd_same hy
end
end PL

set_option maxHeartbeats 2000000
namespace PL
open PySem PySem.Spec PyProof.Rows L2
/-! ### classes -/
def ClsAt (K : PySem.W.Frag) (x : Str) (C : Addr) : Prop := PySem.W.nsIn K mainGlobals x = some (some (.ref C))
theorem ClsAt.eq {K : PySem.W.Frag} {x : Str} {C C' : Addr} (h : ClsAt K x C) (h' : ClsAt K x C') : C = C' := by
  have := h.symm.trans h'
  cases this
  rfl
/-! ### an object that is not changed any more -/
inductive FlP (K : PySem.W.Frag) (B : Hp) : List (Str × V) → List (Str × Mn) → Prop
  | nil : FlP K B [] []
  | cons {f : Str} {v : V} {vs : List (Str × V)} {P : Mn} {Ps : List (Str × Mn)} : P.p K B v → FlP K B vs Ps → FlP K B ((f, v) :: vs) ((f, P) :: Ps)
theorem FlP.up {K : PySem.W.Frag} {B B' : Hp} (e : Ex B B') : ∀ {vs : List (Str × V)} {Ps : List (Str × Mn)}, FlP K B vs Ps → FlP K B' vs Ps
  | _, _, .nil => .nil
  | _, _, .cons (P := P) h t => .cons (P.up e h) (t.up e)
theorem FlP.get {K : PySem.W.Frag} {B : Hp} {f : Str} {P : Mn} : ∀ {vs : List (Str × V)} {Ps : List (Str × Mn)}, FlP K B vs Ps → Ps.lookup f = some P → ∃ v, vs.lookup f = some v ∧ P.p K B v
  | _, _, .nil, h => nomatch h
  | _, _, .cons (f := g) (v := v) h t, e => by
    rw [List.lookup_cons] at e ⊢
    by_cases q : (f == g) = true
    · rw [q] at e ⊢
      cases e
      exact ⟨v, rfl, h⟩
    · have q : (f == g) = false := by simpa using q
      rw [q] at e ⊢
      exact t.get e
theorem FlP.none {K : PySem.W.Frag} {B : Hp} {f : Str} : ∀ {vs : List (Str × V)} {Ps : List (Str × Mn)}, FlP K B vs Ps → Ps.lookup f = none → vs.lookup f = none
  | _, _, .nil, _ => rfl
  | _, _, .cons (f := g) h t, e => by
    rw [List.lookup_cons] at e ⊢
    by_cases q : (f == g) = true
    · rw [q] at e
      cases e
    · have q : (f == g) = false := by simpa using q
      rw [q] at e ⊢
      exact t.none e
def insP (x : Str) (Ps : List (Str × Mn)) : Mn := ⟨fun K B v => ∃ C a dx vs, ClsAt K x C ∧ v = .ref a ∧ B a = some (.ins C dx vs) ∧ FlP K B vs Ps, fun e ⟨C, a, dx, vs, h1, h2, h3, h4⟩ => ⟨C, a, dx, vs, h1, h2, e _ _ h3, h4.up e⟩⟩
/-! ### an object of our own -/
inductive FlO (K : PySem.W.Frag) (B H : Hp) : List (Str × V) → List (Str × Sl) → List Addr → Prop
  | nil : FlO K B H [] [] []
  | pr {f : Str} {v : V} {vs : List (Str × V)} {P : Mn} {Ss : List (Str × Sl)} {F : List Addr} : P.p K B v → FlO K B H vs Ss F → FlO K B H ((f, v) :: vs) ((f, .pr P) :: Ss) F
  | ob {f : Str} {v : V} {vs : List (Str × V)} {W : Ow} {F1 : List Addr} {Ss : List (Str × Sl)} {F : List Addr} : W.p K B H v F1 → (∀ a ∈ F1, a ∉ F) → FlO K B H vs Ss F → FlO K B H ((f, v) :: vs) ((f, .ob W) :: Ss) (F1 ++ F)
theorem FlO.upB {K : PySem.W.Frag} {B B' H : Hp} (e : Ex B B') : ∀ {vs : List (Str × V)} {Ss : List (Str × Sl)} {F : List Addr}, FlO K B H vs Ss F → FlO K B' H vs Ss F
  | _, _, _, .nil => .nil
  | _, _, _, .pr (P := P) h t => .pr (P.up e h) (t.upB e)
  | _, _, _, .ob (W := W) h d t => .ob (W.upB e h) d (t.upB e)
theorem FlO.loc {K : PySem.W.Frag} {B H H' : Hp} : ∀ {vs : List (Str × V)} {Ss : List (Str × Sl)} {F : List Addr}, (∀ a ∈ F, H' a = H a) → FlO K B H vs Ss F → FlO K B H' vs Ss F
  | _, _, _, _, .nil => .nil
  | _, _, _, e, .pr h t => .pr h (t.loc e)
  | _, _, _, e, .ob (W := W) h d t => .ob (W.loc (fun a ha => e a (List.mem_append_left _ ha)) h) d (t.loc fun a ha => e a (List.mem_append_right _ ha))
theorem FlO.dom {K : PySem.W.Frag} {B H : Hp} : ∀ {vs : List (Str × V)} {Ss : List (Str × Sl)} {F : List Addr}, FlO K B H vs Ss F → ∀ a ∈ F, H a ≠ none
  | _, _, _, .nil, _, h => nomatch h
  | _, _, _, .pr h t, a, ha => t.dom a ha
  | _, _, _, .ob (W := W) h d t, a, ha => by
    rcases List.mem_append.mp ha with q | q
    · exact W.dom h a q
    · exact t.dom a q
theorem FlO.none {K : PySem.W.Frag} {B H : Hp} {f : Str} : ∀ {vs : List (Str × V)} {Ss : List (Str × Sl)} {F : List Addr}, FlO K B H vs Ss F → Ss.lookup f = none → vs.lookup f = none
  | _, _, _, .nil, _ => rfl
  | _, _, _, .pr (f := g) h t, e => by
    rw [List.lookup_cons] at e ⊢
    by_cases q : (f == g) = true
    · rw [q] at e
      cases e
    · have q : (f == g) = false := by simpa using q
      rw [q] at e ⊢
      exact t.none e
  | _, _, _, .ob (f := g) h d t, e => by
    rw [List.lookup_cons] at e ⊢
    by_cases q : (f == g) = true
    · rw [q] at e
      cases e
    · have q : (f == g) = false := by simpa using q
      rw [q] at e ⊢
      exact t.none e
def insO (x : Str) (Ss : List (Str × Sl)) : Ow where
  p := fun K B H v F => ∃ C a dx vs F', ClsAt K x C ∧ v = .ref a ∧ F = a :: F' ∧ a ∉ F' ∧ H a = some (.ins C dx vs) ∧ FlO K B H vs Ss F'
  upB := fun e ⟨C, a, dx, vs, F', h1, h2, h3, h4, h5, h6⟩ => ⟨C, a, dx, vs, F', h1, h2, h3, h4, h5, h6.upB e⟩
  loc := fun e ⟨C, a, dx, vs, F', h1, h2, h3, h4, h5, h6⟩ => ⟨C, a, dx, vs, F', h1, h2, h3, h4, (e a (by rw [h3]; exact List.mem_cons_self)).trans h5, h6.loc fun b hb => e b (by rw [h3]; exact List.mem_cons_of_mem _ hb)⟩
  dom := fun ⟨C, a, dx, vs, F', h1, h2, h3, h4, h5, h6⟩ b hb => by
    rw [h3] at hb
    rcases List.mem_cons.mp hb with rfl | hb
    · rw [h5]
      exact fun z => nomatch z
    · exact h6.dom b hb
/-- a thing with its address -/
def pinO (W : Ow) (v0 : V) : Ow where
  p := fun K B H v F => v = v0 ∧ W.p K B H v F
  upB := fun e ⟨h1, h2⟩ => ⟨h1, W.upB e h2⟩
  loc := fun e ⟨h1, h2⟩ => ⟨h1, W.loc e h2⟩
  dom := fun ⟨_, h2⟩ => W.dom h2
/-! ### a thing of our own, changed -/
structure Mu (F : List Addr) (B H B2 H2 : Hp) : Prop where
  bb : Ex B B2
  bh : Ex B2 H2
  hh : ∀ a o, H a = some o → a ∉ F → H2 a = some o
  hd : ∀ a, H a ≠ none → H2 a ≠ none
  nu : ∀ a, B a = none → H a ≠ none → B2 a = none
theorem Nw.mu {B H B2 H2 : Hp} {F : List Addr} (n : Nw B H B2 H2) : Mu F B H B2 H2 := ⟨n.bb, n.bh, fun a o h _ => n.hh a o h, fun a h z => h (n.hh.none z), n.nu⟩
theorem Nw.thenMu {B H B1 H1 B2 H2 : Hp} {F : List Addr} (n : Nw B H B1 H1) (m : Mu F B1 H1 B2 H2) : Mu F B H B2 H2 :=
  ⟨n.bb.trans m.bb, m.bh, fun a o h hF => m.hh a o (n.hh a o h) hF, fun a h => m.hd a fun z => h (n.hh.none z), fun a h1 h2 => m.nu a (n.nu a h1 h2) fun z => h2 (n.hh.none z)⟩
section
variable {K : PySem.W.Frag} {B H B2 H2 : Hp} {σ : L2.St} {Γ : Ga} {Fs : Nat → List Addr} {W : Ow} {J : Jd} {B0 : Hp}
theorem En.mu {i : Nat} {v : V} {F2 : List Addr} (E : En K B H σ Γ Fs) (m : Mu (Fs i) B H B2 H2) (hi : i < Γ.length) (hσ : σ[i]? = some (some v)) (hW : W.p K B2 H2 v F2) (hF : ∀ a ∈ F2, B2 a = none ∧ (a ∈ Fs i ∨ H a = none)) :
    En K B2 H2 σ (Γ.set i (.ob W)) (off Fs i F2) where
  bh := m.bh
  len := by rw [List.length_set, E.len]
  at_ := fun j s hs => by
    by_cases e : j = i
    · subst e
      rw [List.getElem?_set_self hi] at hs
      cases hs
      rw [off_same]
      exact ⟨v, hσ, hW⟩
    · rw [List.getElem?_set_ne (Ne.symm e)] at hs
      rw [off_ne e]
      have := E.at_ j s hs
      cases s with
      | any => trivial
      | pr P =>
        obtain ⟨v, h1, h2⟩ := this
        exact ⟨v, h1, P.up m.bb h2⟩
      | ob P =>
        obtain ⟨v, h1, h2⟩ := this
        refine ⟨v, h1, P.loc (fun a ha => ?_) (P.upB m.bb h2)⟩
        cases q : H a with
        | none => exact absurd q (E.fre j a ha).2
        | some o => exact m.hh a o q fun z => e (E.dis j i a ha z)
  fre := fun j a ha => by
    by_cases e : j = i
    · subst e
      rw [off_same] at ha
      exact ⟨(hF a ha).1, W.dom hW a ha⟩
    · rw [off_ne e] at ha
      exact ⟨m.nu a (E.fre j a ha).1 (E.fre j a ha).2, m.hd a (E.fre j a ha).2⟩
  dis := fun j k a h1 h2 => by
    have key : ∀ j, j ≠ i → a ∈ off Fs i F2 i → a ∈ off Fs i F2 j → False := fun j hj h1 h2 => by
      rw [off_same] at h1
      rw [off_ne hj] at h2
      rcases (hF a h1).2 with z | z
      · exact hj (E.dis j i a h2 z)
      · exact (E.fre j a h2).2 z
    by_cases e1 : j = i
    · by_cases e2 : k = i
      · rw [e1, e2]
      · subst e1
        exact (key k e2 h1 h2).elim
    · by_cases e2 : k = i
      · subst e2
        exact (key j e1 h2 h1).elim
      · rw [off_ne e1] at h1
        rw [off_ne e2] at h2
        exact E.dis j k a h1 h2
theorem Jn.mu {i : Nat} {F2 : List Addr} (j : Jn J B0 B H Fs) (m : Mu (Fs i) B H B2 H2) (hF : ∀ a ∈ F2, a ∈ Fs i ∨ H a = none) : Jn J B0 B2 H2 (off Fs i F2) where
  b0 := j.b0.trans m.bb
  nb := fun a h1 h2 => by
    cases q : B a with
    | some o => exact j.nb a (by rw [q]; exact fun z => nomatch z) h2
    | none =>
      cases r : J.H a with
      | none => rfl
      | some o => exact absurd (m.nu a q (j.h1 a (by rw [r]; exact fun z => nomatch z))) h1
  h0 := fun a o h1 h2 => m.hh a o (j.h0 a o h1 h2) fun z => by
    rcases j.fm i a z with q | q
    · rw [q] at h1
      cases h1
    · exact h2 q.1
  h1 := fun a h => m.hd a (j.h1 a h)
  fm := fun k a ha => by
    by_cases e : k = i
    · subst e
      rw [off_same] at ha
      rcases hF a ha with z | z
      · exact j.fm k a z
      · left
        cases q : J.H a with
        | none => rfl
        | some o => exact absurd z (j.h1 a (by rw [q]; exact fun z => nomatch z))
    · rw [off_ne e] at ha
      exact j.fm k a ha
end
/-! ### a thing of our own, read on the way -/
def FzM (W : Ow) (P : Mn) : Prop := ∀ K B H v F, W.p K B H v F → (∀ a ∈ F, B a = none) → P.p K (ovl B H F) v
theorem fzM_of {W : Ow} {d : D} (h : Fz W d) : FzM W (datP d) := h
theorem ovl_sub {B H : Hp} {F F' : List Addr} (h : ∀ a ∈ F, a ∈ F') (hF : ∀ a ∈ F', B a = none) : Ex (ovl B H F) (ovl B H F') := fun a o e => by
  by_cases q : a ∈ F
  · rw [ovl_in q] at e
    rw [ovl_in (h a q)]
    exact e
  · rw [ovl_out q] at e
    by_cases q2 : a ∈ F'
    · rw [hF a q2] at e
      cases e
    · rw [ovl_out q2]
      exact e
inductive FzF : List (Str × Sl) → List (Str × Mn) → Prop
  | nil : FzF [] []
  | pr {f : Str} {P : Mn} {Ss : List (Str × Sl)} {Ps : List (Str × Mn)} : FzF Ss Ps → FzF ((f, .pr P) :: Ss) ((f, P) :: Ps)
  | ob {f : Str} {W : Ow} {P : Mn} {Ss : List (Str × Sl)} {Ps : List (Str × Mn)} : FzM W P → FzF Ss Ps → FzF ((f, .ob W) :: Ss) ((f, P) :: Ps)
theorem flO_fz {K : PySem.W.Frag} {B H : Hp} {G : List Addr} (hG : ∀ a ∈ G, B a = none) : ∀ {vs : List (Str × V)} {Ss : List (Str × Sl)} {Ps : List (Str × Mn)} {F : List Addr}, FlO K B H vs Ss F → FzF Ss Ps → (∀ a ∈ F, a ∈ G) → FlP K (ovl B H G) vs Ps
  | _, _, _, _, .nil, .nil, _ => .nil
  | _, _, _, _, .pr (P := P) h t, .pr z, hF => .cons (P.up (ovl_ex hG) h) (flO_fz hG t z hF)
  | _, _, _, _, .ob (F1 := F1) h d t, .ob (P := P) w z, hF => .cons (P.up (ovl_sub (fun a ha => hF a (List.mem_append_left _ ha)) hG) (w _ _ _ _ _ h fun a ha => hG a (hF a (List.mem_append_left _ ha)))) (flO_fz hG t z fun a ha => hF a (List.mem_append_right _ ha))
theorem fz_ins {x : Str} {Ss : List (Str × Sl)} {Ps : List (Str × Mn)} (z : FzF Ss Ps) : FzM (insO x Ss) (insP x Ps) := fun K B H v F h hF => by
  obtain ⟨C, a, dx, vs, F', h1, h2, h3, h4, h5, h6⟩ := h
  exact ⟨C, a, dx, vs, h1, h2, by rw [ovl_in (by rw [h3]; exact List.mem_cons_self)]; exact h5, flO_fz hF h6 z fun b hb => by rw [h3]; exact List.mem_cons_of_mem _ hb⟩
section
variable {K : PySem.W.Frag} {B H B2 H2 : Hp} {σ : L2.St} {Γ : Ga} {Fs : Nat → List Addr} {W : Ow} {P : Mn}
theorem En.iceM {i : Nat} (E : En K B H σ Γ Fs) (hΓ : Γ[i]? = some (.ob W)) (hz : FzM W P) : En K (ovl B H (Fs i)) H σ (Γ.set i (.pr P)) (off Fs i []) := by
  obtain ⟨v, h1, h2⟩ := E.at_ i _ hΓ
  have e1 : Ex B (ovl B H (Fs i)) := ovl_ex fun a ha => (E.fre i a ha).1
  refine ⟨ovl_exH E.bh, by rw [List.length_set, E.len], fun j s hs => ?_, fun j b hb' => ?_, fun j k b h1 h2 => E.dis j k b (off_sub h1) (off_sub h2)⟩
  · by_cases e : j = i
    · subst e
      have hl : j < Γ.length := by
        by_cases hl : j < Γ.length
        · exact hl
        · rw [List.getElem?_eq_none (by omega)] at hΓ
          cases hΓ
      rw [List.getElem?_set_self hl] at hs
      cases hs
      exact ⟨v, h1, hz _ _ _ _ _ h2 fun a ha => (E.fre j a ha).1⟩
    · rw [List.getElem?_set_ne (Ne.symm e)] at hs
      rw [off_ne e]
      have := E.at_ j s hs
      cases s with
      | any => trivial
      | pr P =>
        obtain ⟨v, h1, h2⟩ := this
        exact ⟨v, h1, P.up e1 h2⟩
      | ob P =>
        obtain ⟨v, h1, h2⟩ := this
        exact ⟨v, h1, P.upB e1 h2⟩
  · have hj : j ≠ i := fun e => by
      rw [e, off_same] at hb'
      cases hb'
    rw [off_ne hj] at hb'
    refine ⟨?_, (E.fre j b hb').2⟩
    have ne : b ∉ Fs i := fun z => hj (E.dis j i b hb' z)
    rw [ovl_out ne]
    exact (E.fre j b hb').1
end
theorem flat_any {K : PySem.W.Frag} {B B' : Hp} {v : V} {d : D} (h : Dp K B v d) (hd : flatD d = true) : Dp K B' v d := by
  cases h with
  | non => exact .non
  | bl b => exact .bl b
  | int i => exact .int i
  | str y => exact .str y
  | _ => cases hd
section
variable {X : Cx} {J : Jd} {N : Nd} {Γ Γ1 Γ2 : Ga} {e a b c tg iter : Expr} {es : List Expr} {st : Stmt} {sts rest body : List Stmt} {P : Mn} {W : Ow} {d : D} {ds : List D} {pos : Pos} {k : Bool}
/-! ### fields -/
structure ClsOk (K : PySem.W.Frag) (x : Str) (fl : List Str) : Prop where
  cl : ∀ C, ClsAt K x C → Cls K C
  na : ∀ C f, ClsAt K x C → f ∈ fl → NoAttr K C f
theorem go_fld {x f : Str} {Ps : List (Str × Mn)} {fl : List Str} (O : ClsOk X.K x fl) (h : GoP X Γ e (insP x Ps)) (hf : Ps.lookup f = some P) (hm : f ∈ fl := by first | exact List.mem_cons_self | decide) (hb : attributeBase e f X.env (eval e X.env) = eval e X.env := by rfl) :
    GoP X Γ (.Attribute e f pos) P := .mk fun σ B H Fs E Q q =>
  toE (pe_fld sE hb) (h σ B H Fs E _ fun v B1 H1 n1 ⟨C, a, dx, vs, h1, h2, h3, h4⟩ => by
    obtain ⟨u, hu, hp⟩ := h4.get hf
    exact ⟨a, C, dx, vs, u, h2, n1.bh _ _ h3, O.cl C h1, O.na C f h1 hm, hu, q u B1 H1 n1 hp⟩)
/-! ### an expression that changes the thing of the slot i -/
structure GoM (X : Cx) (Γ : Ga) (e : Expr) (i : Nat) (W : Ow) (P : Mn) : Prop where
  run : ∀ σ B H Fs, En X.K B H σ Γ Fs → ∀ Q : VK, (∀ v v0 B2 H2 F2, Mu (Fs i) B H B2 H2 → P.p X.K B2 v → σ[i]? = some (some v0) → W.p X.K B2 H2 v0 F2 → (∀ a ∈ F2, B2 a = none ∧ (a ∈ Fs i ∨ H a = none)) → Q v H2) → wpE X e σ H Q
structure GoTM (X : Cx) (Γ : Ga) (e : Expr) (i : Nat) (W : Ow) (k : Bool) : Prop where
  run : ∀ σ B H Fs, En X.K B H σ Γ Fs → ∀ Q : Bool → Hp → Prop, (∀ v0 B2 H2 F2, Mu (Fs i) B H B2 H2 → σ[i]? = some (some v0) → W.p X.K B2 H2 v0 F2 → (∀ a ∈ F2, B2 a = none ∧ (a ∈ Fs i ∨ H a = none)) → Q k H2) → wpT X e σ H Q
theorem rs_exprM {i : Nat} (he : GoM X Γ e i W P) (hi : i < Γ.length) (h : N.nx (Γ.set i (.ob W))) (hs : swapsWith e none pos.line X.env = pure false := by rfl) : RnS X J N Γ (.Expr e pos) := .mk fun B0 σ B H Fs E j =>
  toS (ps_expr sE hs) (he.run σ B H Fs E _ fun v v0 B2 H2 F2 m r hσ hW hF => ⟨B2, _, _, E.mu m hi hσ hW hF, j.mu m fun a ha => (hF a ha).2, h⟩)
theorem rs_setM {i : Nat} (k : Nat) {x : Str} {p' : Pos} (he : GoM X Γ e i W P) (hi : i < Γ.length) (h : N.nx ((Γ.set i (.ob W)).set k (.pr P))) (hN : X.N.Nodup) (hk : X.N[k]? = some x := by rfl) (hx : Loc X.env.scope x := by first | exact .inl rfl | exact .inr rfl)
    (hs : swapsWith e (some (.Name x p')) pos.line X.env = pure false := by rfl) (hf : X.fn x = true ∨ X.env.scope.names.lookup x = some .local := by first | exact .inl rfl | exact .inr rfl) : RnS X J N Γ (.Assign [.Name x p'] e pos) := .mk fun B0 σ B H Fs E j =>
  toS (ps_set hN hk hx sE hs hf) (he.run σ B H Fs E _ fun v v0 B2 H2 F2 m r hσ hW hF => ⟨B2, _, _, (E.mu m hi hσ hW hF).setP k r, (j.mu m fun a ha => (hF a ha).2).sub fun _ _ z => off_sub z, h⟩)
theorem rs_ifM {i : Nat} {th el : List Stmt} (hc : GoTM X Γ c i W k) (hi : i < Γ.length) (h1 : k = true → Rn X J N (Γ.set i (.ob W)) th) (h2 : k = false → Rn X J N (Γ.set i (.ob W)) el) : RnS X J N Γ (.If c th el pos) := .mk fun B0 σ B H Fs E j =>
  toS (ps_if sT sSs sSs) (hc.run σ B H Fs E _ fun v0 B2 H2 F2 m hσ hW hF => by
    cases k with
    | true => exact iteT (h1 rfl B0 σ B2 H2 _ (E.mu m hi hσ hW hF) (j.mu m fun a ha => (hF a ha).2))
    | false => exact iteF (h2 rfl B0 σ B2 H2 _ (E.mu m hi hσ hW hF) (j.mu m fun a ha => (hF a ha).2)))
end
end PL

set_option maxHeartbeats 2000000
namespace PL
open PySem PySem.Spec PyProof.Rows L2
/-! ### promises -/
/-- the first argument is changed -/
def spW (K : PySem.W.Frag) (S : Ow → List Mn → Mn → Ow → Prop) : Sp := fun vs H Q _ => ∃ (W : Ow) (Ps : List Mn) (R : Mn) (W' : Ow) (B : Hp) (v0 : V) (us : List V) (F : List Addr), S W Ps R W' ∧ vs = v0 :: us ∧ Ex B H ∧ W.p K B H v0 F ∧ (∀ a ∈ F, B a = none) ∧ MnAll K B us Ps ∧
  ∀ v B2 H2 F2, Mu F B H B2 H2 → R.p K B2 v → W'.p K B2 H2 v0 F2 → (∀ a ∈ F2, B2 a = none ∧ (a ∈ F ∨ H a = none)) → Q v H2
/-- an error of the class x with the field f is raised, nothing is changed -/
def spEx (K : PySem.W.Frag) (S : List Mn → Str → Str → V → Prop) : Sp := fun vs H _ E => ∃ (Ps : List Mn) (x f : Str) (v : V) (B : Hp), S Ps x f v ∧ Ex B H ∧ MnAll K B vs Ps ∧
  ∀ C d H2, ClsAt K x C → Ex H H2 → H d = none → H2 d = some (.xd [(f, v)]) → E (.ref C) (some d) H2
def orSp (a b : Sp) : Sp := fun vs H Q E => a vs H Q E ∨ b vs H Q E
def noN : List Mn → Str → Str → V → Prop := fun _ _ _ _ => False
/-- the def st of the class own is its method m -/
structure Mtd (K : PySem.W.Frag) (own m qual : Str) (st : Stmt) (ps : List Str) : Prop where
  ex : ∃ C g fd, ClsAt K own C ∧ Cls K C ∧ Meth K C m g ∧ Fun K m qual st g fd ∧ Binds K fd ps []
/-- the method m of the class own keeps its promise -/
structure CalM (P : Program) (w : World) (K : PySem.W.Frag) (mg : Str → Option Value) (base : Heap) (CX : CXT) (own m : Str) (ps : List Str) (k : Nat) (sp : Sp) : Prop where
  ex : ∃ C g fd, ClsAt K own C ∧ Cls K C ∧ Meth K C m g ∧ FnOk P w K mg base CX k g fd ps sp ∧ Binds K fd ps []
/-- what stands at the name x keeps its promise -/
structure CalF (P : Program) (w : World) (K : PySem.W.Frag) (mg : Str → Option Value) (base : Heap) (CX : CXT) (x : Str) (ps : List Str) (k : Nat) (sp : Sp) : Prop where
  ex : ∃ f fd, FnOk P w K mg base CX k f fd ps sp ∧ mg x = some (.ref f) ∧ PySem.W.keepIn K (.ref f) = true ∧ Binds K fd ps []
def botM : Mn := ⟨fun _ _ _ => False, fun _ h => h⟩
/-! ### the entry with a thing that may be changed -/
def entryW (W : Ow) (Ps : List Mn) (n : Nat) : Ga := .ob W :: (Ps.map Sl.pr ++ List.replicate (n - 1 - Ps.length) .any)
theorem en_entryW {K : PySem.W.Frag} {B H : Hp} {v0 : V} {us : List V} {W : Ow} {Ps : List Mn} {L : List Str} {F : List Addr} (hB : Ex B H) (hW : W.p K B H v0 F) (hF : ∀ a ∈ F, B a = none) (h : MnAll K B us Ps) (hl : 0 < L.length) :
    En K B H (L2.start L (v0 :: us)) (entryW W Ps L.length) fun i => if i = 0 then F else [] := by
  obtain ⟨x, L', rfl⟩ : ∃ x L', L = x :: L' := by
    cases L with
    | nil => exact absurd hl (by simp)
    | cons x L' => exact ⟨x, L', rfl⟩
  have E := en_entry (L := L') hB h
  have e1 : L2.start (x :: L') (v0 :: us) = some v0 :: L2.start L' us := by
    unfold L2.start
    rw [List.map_cons, List.length_cons, List.length_cons, Nat.add_sub_add_right]
    rfl
  have e2 : entryW W Ps (x :: L').length = .ob W :: entry Ps L'.length := by
    unfold entryW entry
    rw [List.length_cons, Nat.add_sub_cancel]
  rw [e1, e2]
  refine ⟨hB, by rw [List.length_cons, List.length_cons, E.len], fun i s hs => ?_, fun i a ha => ?_, fun i j a h1 h2 => ?_⟩
  · cases i with
    | zero =>
      cases hs
      exact ⟨v0, rfl, hW⟩
    | succ i =>
      have := E.at_ i s hs
      rw [if_neg (Nat.succ_ne_zero i)]
      exact this
  · by_cases e : i = 0
    · rw [if_pos e] at ha
      exact ⟨hF a ha, W.dom hW a ha⟩
    · rw [if_neg e] at ha
      cases ha
  · by_cases e1 : i = 0
    · by_cases e2 : j = 0
      · rw [e1, e2]
      · rw [if_neg e2] at h2
        cases h2
    · rw [if_neg e1] at h1
      cases h1
section
variable {P : Program} {w : World} {K : PySem.W.Frag} {mg : Str → Option Value} {base : Heap}
/-- the ends of a def of data -/
theorem end_S {X : Cx} {H B : Hp} {R : Mn} {Q : VK} (hX : X.K = K) (q : ∀ v B2 H2, Nw B H B2 H2 → R.p K B2 v → Q v H2) {σ : L2.St} {sts : List Stmt} (h : wpSs X sts (({ nx := fun _ => ∀ K B, R.p K B .non, rt := R } : Nd).ends X ⟨H, [], []⟩ B) σ H) : wpSs X sts { nx := fun _ H' => Q .non H', rt := Q } σ H := by
  subst hX
  refine wpSs_mono h ?_ ?_ ?_ ?_
  · exact fun σ' H' ⟨B', Γ', Fs', e, j, n⟩ => q _ B' H' ⟨j.b0, e.bh, fun a o h => j.h0 a o h (by simp), fun a h1 h2 => by
      cases r : B' a with
      | none => rfl
      | some o => exact absurd (j.nb a (by rw [r]; exact fun z => nomatch z) h1) h2⟩ (n X.K B')
  · exact fun v H' ⟨σ', B', Γ', Fs', e, j, _, r⟩ => q v B' H' ⟨j.b0, e.bh, fun a o h => j.h0 a o h (by simp), fun a h1 h2 => by
      cases r : B' a with
      | none => rfl
      | some o => exact absurd (j.nb a (by rw [r]; exact fun z => nomatch z) h1) h2⟩ r
  · exact fun σ' H' ⟨B', Γ', Fs', e, j, n⟩ => n.elim
  · exact fun σ' H' ⟨B', Γ', Fs', e, j, n⟩ => n.elim
/-- what the end of a def asks that changes its first argument -/
abbrev ndW (R : Mn) (W' : Ow) (v0 : V) : Nd := { nx := fun Γ' => Γ'[0]? = some (.ob (pinO W' v0)) ∧ ∀ K B, R.p K B .non, rt := R, rG := fun Γ' => Γ'[0]? = some (.ob (pinO W' v0)) }
theorem end_W {X : Cx} {H B : Hp} {R : Mn} {W' : Ow} {v0 : V} {F : List Addr} {Q : VK} (hX : X.K = K) (q : ∀ v B2 H2 F2, Mu F B H B2 H2 → R.p K B2 v → W'.p K B2 H2 v0 F2 → (∀ a ∈ F2, B2 a = none ∧ (a ∈ F ∨ H a = none)) → Q v H2) {σ : L2.St} {sts : List Stmt}
    (h : wpSs X sts ((ndW R W' v0).ends X ⟨H, F, [0]⟩ B) σ H) : wpSs X sts { nx := fun _ H' => Q .non H', rt := Q } σ H := by
  subst hX
  have key : ∀ {v : V} {B' H' : Hp} {σ' : L2.St} {Γ' : Ga} {Fs' : Nat → List Addr}, En X.K B' H' σ' Γ' Fs' → Jn ⟨H, F, [0]⟩ B B' H' Fs' → Γ'[0]? = some (.ob (pinO W' v0)) → R.p X.K B' v → Q v H' := fun {v B' H' σ' Γ' Fs'} e j g r => by
    obtain ⟨u, h1, rfl, h2⟩ := e.at_ 0 _ g
    refine q v B' H' (Fs' 0) ⟨j.b0, e.bh, j.h0, j.h1, fun a h1 h2 => ?_⟩ r h2 fun a ha => ⟨(e.fre 0 a ha).1, ?_⟩
    · cases r : B' a with
      | none => rfl
      | some o => exact absurd (j.nb a (by rw [r]; exact fun z => nomatch z) h1) h2
    · rcases j.fm 0 a ha with z | z
      · exact .inr z
      · exact .inl z.1
  refine wpSs_mono h ?_ ?_ ?_ ?_
  · exact fun σ' H' ⟨B', Γ', Fs', e, j, g, n⟩ => key e j g (n X.K B')
  · exact fun v H' ⟨σ', B', Γ', Fs', e, j, g, r⟩ => key e j g r
  · exact fun σ' H' ⟨B', Γ', Fs', e, j, n⟩ => n.elim
  · exact fun σ' H' ⟨B', Γ', Fs', e, j, n⟩ => n.elim
theorem jn_entry {H B : Hp} : Jn ⟨H, [], []⟩ B B H fun _ => [] := ⟨.refl _, fun a h1 h2 => absurd h2 h1, fun a o h _ => h, fun a h => h, fun _ _ z => nomatch z⟩
theorem jn_entryW {H B : Hp} {F : List Addr} : Jn ⟨H, F, [0]⟩ B B H fun i => if i = 0 then F else [] := ⟨.refl _, fun a h1 h2 => absurd h2 h1, fun a o h _ => h, fun a h => h, fun i a ha => by
  by_cases e : i = 0
  · rw [if_pos e] at ha
    exact .inr ⟨ha, by rw [e]; exact List.mem_cons_self⟩
  · rw [if_neg e] at ha
    cases ha⟩
/-- what an error's way out asks -/
def Wish (K : PySem.W.Frag) (J : Jd) (E : XK) (x f : Str) (v : V) : Prop := ∀ C d H2, ClsAt K x C → Ex J.H H2 → J.H d = none → H2 d = some (.xd [(f, v)]) → E (.ref C) (some d) H2
/-! ### methods by their bodies -/
/-- a method that changes its object -/
theorem mW_ok {own m qual : Str} {st : Stmt} {L ps : List Str} {k : Nat} {S : Ow → List Mn → Mn → Ow → Prop} (Mt : Mtd K own m qual st ps) (Sc : FnScope L ps (defScope st)) (hl : ∀ W Ps R W', S W Ps R W' → Ps.length + 1 = ps.length) (hL : 0 < L.length)
    (body : ∀ W Ps R W', S W Ps R W' → ∀ (v0 : V) (f : Addr) (cdv : Value) (A : Around) (outer : List Env) (s : Shared) (H : Hp) (E : XK), Room k (A.deeper (envOfC qual (defScope st) s.heap.objs.size f cdv)) → ∀ J : Jd, J.S = [0] →
      Rn (cxOf CX0 P w K mg base L qual (defScope st) f cdv A outer s H E).nox J (ndW R W' v0) (entryW (pinO W v0) Ps L.length) (defBody st)) : CalM P w K mg base CX0 own m ps (k + 1) (spW K S) := by
  obtain ⟨C, g, fd, h1, h2, h3, F, b⟩ := Mt.ex
  refine ⟨C, g, fd, h1, h2, h3, F.ok Sc (fun vs H Q E h => ?_) fun cdv A outer s H vs Q E hr h => ?_, b⟩
  · obtain ⟨W, Ps, R, W', B, v0, us, F, hS, rfl, _, _, _, h, _⟩ := h
    rw [List.length_cons, mn_len h, hl _ _ _ _ hS]
  · obtain ⟨W, Ps, R, W', B, v0, us, F, hS, rfl, hB, hW, hF, hv, q⟩ := h
    exact ⟨_, sSs, end_W rfl q (body W Ps R W' hS v0 g cdv A outer s H E hr ⟨H, F, [0]⟩ rfl B (L2.start L (v0 :: us)) B H _ (en_entryW hB ⟨rfl, hW⟩ hF hv hL) jn_entryW)⟩
/-- a method that hands back a new thing -/
theorem mU_ok {own m qual : Str} {st : Stmt} {L ps : List Str} {k : Nat} {S : List Mn → Ow → Prop} (Mt : Mtd K own m qual st ps) (Sc : FnScope L ps (defScope st)) (hl : ∀ Ps R, S Ps R → Ps.length = ps.length)
    (body : ∀ Ps R, S Ps R → ∀ (f : Addr) (cdv : Value) (A : Around) (outer : List Env) (s : Shared) (H : Hp) (E : XK), Room k (A.deeper (envOfC qual (defScope st) s.heap.objs.size f cdv)) → ∀ J : Jd, J.S = [] →
      Rn (cxOf CX0 P w K mg base L qual (defScope st) f cdv A outer s H E).nox J { nx := fun _ => False, rt := datP .none, rn := some R } (entry Ps L.length) (defBody st)) : CalM P w K mg base CX0 own m ps (k + 1) (spSU K S) := by
  obtain ⟨C, g, fd, h1, h2, h3, F, b⟩ := Mt.ex
  refine ⟨C, g, fd, h1, h2, h3, F.ok Sc (fun vs H Q E h => ?_) fun cdv A outer s H vs Q E hr h => ?_, b⟩
  · obtain ⟨Ps, R, B, hS, _, h, _⟩ := h
    rw [mn_len h, hl _ _ hS]
  · obtain ⟨Ps, R, B, hS, hB, hv, q⟩ := h
    refine ⟨_, sSs, wpSs_mono (body Ps R hS g cdv A outer s H E hr ⟨H, [], []⟩ rfl B (L2.start L vs) B H (fun _ => []) (en_entry hB hv) jn_entry) ?_ ?_ ?_ ?_⟩
    · exact fun σ' H' ⟨B', Γ', Fs', e, j, n⟩ => n.elim
    · exact fun v H' ⟨σ', B', Γ', Fs', e, j, _, F, r1, r2, _⟩ => q v F B' H' ⟨j.b0, e.bh, fun a o h => j.h0 a o h (by simp), fun a h1 h2 => by
        cases r : B' a with
        | none => rfl
        | some o => exact absurd (j.nb a (by rw [r]; exact fun z => nomatch z) h1) h2⟩ r1 r2
    · exact fun σ' H' ⟨B', Γ', Fs', e, j, n⟩ => n.elim
    · exact fun σ' H' ⟨B', Γ', Fs', e, j, n⟩ => n.elim
end
end PL

set_option maxHeartbeats 2000000
namespace PL
open PySem PySem.Spec PyProof.Rows L2
section
variable {X : Cx} {J : Jd} {N : Nd} {Γ : Ga} {o e : Expr} {es : List Expr} {st : Stmt} {sts rest body : List Stmt} {P R : Mn} {W W' : Ow} {d : D} {ds : List D} {pos apos p : Pos} {own m : Str} {ps : List Str} {j k : Nat} {pl : Sem Bool} {Ps : List (Str × Mn)} {Qs : List Mn} {CX : CXT}
theorem lookO {K : PySem.W.Frag} {B : Hp} {v : V} (h : (insP own Ps).p K B v) (hm : Ps.lookup m = none) : ∃ C a dx vs, ClsAt K own C ∧ v = .ref a ∧ B a = some (.ins C dx vs) ∧ vs.lookup m = none := by
  obtain ⟨C, a, dx, vs, h1, h2, h3, h4⟩ := h
  exact ⟨C, a, dx, vs, h1, h2, h3, h4.none hm⟩
/-! ### a method that changes nothing -/
/-- .. that hands back a new thing -/
theorem goU_meth0 {S : List Mn → Ow → Prop} (C : CalM X.prog X.w X.K X.mg X.base CX0 own m ps k (spSU X.K S)) (hr : Room j X.A) (hk : k ≤ j) (ho : GoP X Γ o (insP own Ps)) (hm : Ps.lookup m = none) (hS : S [insP own Ps] W := by walk_at "pS")
    (ht : eval (.Call (.Attribute o m apos) [] [] pos) X.env = (do
      let ov ← eval o X.env
      standAt apos.atName
      let (f, first) ← holding [ov] (getMethod ov m pl)
      callWith pos f first (backTo pos (starEach [] X.env)) (backToKw pos (keywordEach [] X.env))) := by rfl) : GoU X Γ (.Call (.Attribute o m apos) [] [] pos) W := .mk fun σ B H Fs E Q q => by
  obtain ⟨C, g, fd, h1, h2, h3, F, b⟩ := C.ex
  refine toE (pe_meth0 sE h2 h3 (F.mono hk) hr b .nil pass0 ht) (ho σ B H Fs E _ fun v B1 H1 n1 r1 => ?_)
  obtain ⟨C', a, dx, vs, e1, rfl, e3, e4⟩ := lookO r1 hm
  cases h1.eq e1
  exact ⟨a, dx, vs, rfl, n1.bh _ _ e3, e4, _, W, B1, hS, n1.bh, .cons r1 .nil, fun v F B3 H3 n3 r3 r4 => q v F B3 H3 (n1.trans n3) r3 fun a ha => ⟨n1.hh.none (r4 a ha).1, (r4 a ha).2⟩⟩
/-! ### a method that changes its object -/
/-- W is an object of the class own that has no field m -/
def IsObj (own m : Str) (W : Ow) : Prop := ∀ K B H v F, W.p K B H v F → ∃ C a dx vs, ClsAt K own C ∧ v = .ref a ∧ H a = some (.ins C dx vs) ∧ vs.lookup m = none
theorem isObj_ins {Ss : List (Str × Sl)} (hm : Ss.lookup m = none) : IsObj own m (insO own Ss) := fun K B H v F h => by
  obtain ⟨C, a, dx, vs, F', h1, h2, h3, h4, h5, h6⟩ := h
  exact ⟨C, a, dx, vs, h1, h2, h5, h6.none hm⟩
/-- how the thing W of a slot stands to the thing V that a promise speaks of, and W' to V' -/
inductive Pin : Ow → Ow → Ow → Ow → Prop
  | same {W W' : Ow} : Pin W W' W W'
  | pin {W W' : Ow} {v0 : V} : Pin W W' (pinO W v0) (pinO W' v0)
theorem Pin.inn {V V' : Ow} (h : Pin V V' W W') {K : PySem.W.Frag} {B H : Hp} {v : L2.V} {F : List Addr} (hW : W.p K B H v F) : V.p K B H v F ∧ ∀ B' H' F', V'.p K B' H' v F' → W'.p K B' H' v F' := by
  cases h with
  | same => exact ⟨hW, fun _ _ _ z => z⟩
  | pin => exact ⟨hW.2, fun _ _ _ z => ⟨hW.1, z⟩⟩
theorem gm_meth (i : Nat) {V V' : Ow} {S : Ow → List Mn → Mn → Ow → Prop} {x : Str} {p' : Pos} (C : CalM X.prog X.w X.K X.mg X.base CX0 own m ps k (spW X.K S)) (hr : Room j X.A) (hk : k ≤ j) (hΓ : Γ[i]? = some (.ob W)) (hp : Pin V V' W W') (hO : IsObj own m V) (ha : GoA X Γ (e :: es) Qs) (hS : S V Qs R V' := by walk_at "pS")
    (hN : X.N[i]? = some x := by rfl) (hv : Vis X.env.scope x := by first | exact Or.inl rfl | exact Or.inr (Or.inl rfl) | exact Or.inr (Or.inr rfl)) (hd : (x == ("__debug__" : Str)) = false := by decide) (hcd : (x == ("__classdict__" : Str)) = false := by decide)
    (hst : starEach (e :: es) X.env = (false, eval e X.env) :: starEach es X.env := by rfl) (hpl : (backTo pos (starEach es X.env)).any (·.1) = false := by rfl)
    (ht : eval (.Call (.Attribute (.Name x p') m apos) (e :: es) [] pos) X.env = (do
      let ov ← eval (.Name x p') X.env
      standAt apos.atName
      let (f, first) ← holding [ov] (getMethod ov m pl)
      callWith pos f first (backTo pos (starEach (e :: es) X.env)) (backToKw pos (keywordEach [] X.env))) := by rfl) : GoM X Γ (.Call (.Attribute (.Name x p') m apos) (e :: es) [] pos) i W' R := .mk fun σ B H Fs E Q q => by
  obtain ⟨C, g, fd, h1, h2, h3, F, b⟩ := C.ex
  obtain ⟨v, e1, e2⟩ := E.at_ i _ hΓ
  obtain ⟨i1, i2⟩ := hp.inn e2
  obtain ⟨C', a, dx, vs, c1, rfl, c3, c4⟩ := hO _ _ _ _ _ i1
  cases h1.eq c1
  refine toE (pe_meth (pe_var hN hv hd hcd) h2 h3 (F.mono hk) hr b .nil pass0 sA hst hpl ht) ⟨_, e1, a, dx, vs, rfl, c3, c4, ha σ B H Fs E _ fun us B2 H2 n2 r2 => ?_⟩
  obtain ⟨v', e1', e2'⟩ := (E.nw n2).at_ i _ hΓ
  rw [e1] at e1'
  cases e1'
  exact ⟨V, Qs, R, V', B2, _, us, Fs i, hS, by rw [List.append_nil], n2.bh, (hp.inn e2').1, fun b hb => ((E.nw n2).fre i b hb).1, r2, fun v B3 H3 F3 m3 r3 w3 f3 => q v _ B3 H3 F3 (n2.thenMu m3) r3 e1 (i2 _ _ _ w3) fun b hb => ⟨(f3 b hb).1, (f3 b hb).2.imp id fun z => n2.hh.none z⟩⟩
theorem gm_meth0 (i : Nat) {V V' : Ow} {S : Ow → List Mn → Mn → Ow → Prop} {x : Str} {p' : Pos} (C : CalM X.prog X.w X.K X.mg X.base CX0 own m ps k (spW X.K S)) (hr : Room j X.A) (hk : k ≤ j) (hΓ : Γ[i]? = some (.ob W)) (hp : Pin V V' W W') (hO : IsObj own m V) (hS : S V [] R V' := by walk_at "pS")
    (hN : X.N[i]? = some x := by rfl) (hv : Vis X.env.scope x := by first | exact Or.inl rfl | exact Or.inr (Or.inl rfl) | exact Or.inr (Or.inr rfl)) (hd : (x == ("__debug__" : Str)) = false := by decide) (hcd : (x == ("__classdict__" : Str)) = false := by decide)
    (ht : eval (.Call (.Attribute (.Name x p') m apos) [] [] pos) X.env = (do
      let ov ← eval (.Name x p') X.env
      standAt apos.atName
      let (f, first) ← holding [ov] (getMethod ov m pl)
      callWith pos f first (backTo pos (starEach [] X.env)) (backToKw pos (keywordEach [] X.env))) := by rfl) : GoM X Γ (.Call (.Attribute (.Name x p') m apos) [] [] pos) i W' R := .mk fun σ B H Fs E Q q => by
  obtain ⟨C, g, fd, h1, h2, h3, F, b⟩ := C.ex
  obtain ⟨v, e1, e2⟩ := E.at_ i _ hΓ
  obtain ⟨i1, i2⟩ := hp.inn e2
  obtain ⟨C', a, dx, vs, c1, rfl, c3, c4⟩ := hO _ _ _ _ _ i1
  cases h1.eq c1
  refine toE (pe_meth0 (pe_var hN hv hd hcd) h2 h3 (F.mono hk) hr b .nil pass0 ht) ⟨_, e1, a, dx, vs, rfl, c3, c4, ?_⟩
  exact ⟨V, [], R, V', B, _, [], Fs i, hS, rfl, E.bh, i1, fun b hb => (E.fre i b hb).1, .nil, fun v B3 H3 F3 m3 r3 w3 f3 => q v _ B3 H3 F3 m3 r3 e1 (i2 _ _ _ w3) f3⟩
/-! ### a class is called -/
structure CalC (P : Program) (w : World) (K : PySem.W.Frag) (mg : Str → Option Value) (base : Heap) (own : Str) (ps : List Str) (k : Nat) (S : Ow → List Mn → Mn → Ow → Prop) : Prop where
  ex : ∃ C g fd, ClsAt K own C ∧ mg own = some (.ref C) ∧ Mk K C g ∧ FnOk P w K mg base CX0 k g fd ps (spW K S) ∧ Binds K fd ps []
theorem goU_make {S : Ow → List Mn → Mn → Ow → Prop} (C : CalC X.prog X.w X.K X.mg X.base own ps k S) (hr : Room (j + 1) X.A) (hk : k ≤ j) (ha : GoA X Γ (e :: es) Qs) (hS : S (insO own []) Qs (datP .none) W' := by walk_at "pS") (hg : Gl X own := by rfl)
    (hdb : (own == ("__debug__" : Str)) = false := by decide) (he : starEach (e :: es) X.env = (false, eval e X.env) :: starEach es X.env := by rfl) (hpl : (backTo pos (starEach es X.env)).any (·.1) = false := by rfl) : GoU X Γ (.Call (.Name own p) (e :: es) [] pos) W' := .mk fun σ B H Fs E Q q => by
  obtain ⟨C, g, fd, h1, h2, h3, F, b⟩ := C.ex
  refine toE (pe_make h3 (F.mono hk) hr hg h2 b .nil pass0 sA hdb he hpl) (ha σ B H Fs E _ fun us B1 H1 n1 r1 x dx nx ndx ne => ?_)
  have eH : Ex H1 (upd (upd H1 dx (.own x)) x (.ins C dx [])) := fun a o h => by
    rw [upd_ne (ne_of_none h nx), upd_ne (ne_of_none h ndx)]
    exact h
  have hn1 : ∀ a, (upd (upd H1 dx (.own x)) x (.ins C dx [])) a = none → H1 a = none := fun a z => eH.none z
  refine ⟨insO own [], Qs, datP .none, W', B1, .ref x, us, [x], hS, by rw [List.append_nil], n1.bh.trans eH, ⟨C, x, dx, [], [], h1, rfl, rfl, List.not_mem_nil, upd_same, .nil⟩, fun a ha => by rw [List.mem_singleton.mp ha]; exact n1.bh.none nx, r1, fun v B3 H3 F3 m3 r3 w3 f3 => ⟨dp_non r3, q _ F3 B3 H3 ⟨n1.bb.trans m3.bb, m3.bh, fun a o h => ?_, fun a z1 z2 => ?_⟩ w3 fun a ha => ⟨?_, (f3 a ha).1⟩⟩⟩
  · have h' := n1.hh a o h
    exact m3.hh a o (eH a o h') fun z => by
      rw [List.mem_singleton.mp z, nx] at h'
      cases h'
  · refine m3.nu a (n1.nu a z1 z2) fun z => z2 (n1.hh.none (hn1 a z))
  · rcases (f3 a ha).2 with z | z
    · rw [List.mem_singleton.mp z]
      exact n1.hh.none nx
    · exact n1.hh.none (hn1 a z)
/-! ### an expression that raises -/
/-- e raises an error of the class x, its field f is v: W of it is wanted -/
structure GoX (X : Cx) (W : WX) (Γ : Ga) (e : Expr) (x f : Str) (v : L2.V) : Prop where
  run : ∀ σ B H Fs, En X.K B H σ Γ Fs → (∀ C d H2, ClsAt X.K x C → Ex H H2 → H d = none → H2 d = some (.xd [(f, v)]) → W (.ref C) (some d) σ H2) → ∀ Q : VK, wpE X e σ H Q
structure GoXA (X : Cx) (W : WX) (Γ : Ga) (es : List Expr) (x f : Str) (v : L2.V) : Prop where
  run : ∀ σ B H Fs, En X.K B H σ Γ Fs → (∀ C d H2, ClsAt X.K x C → Ex H H2 → H d = none → H2 d = some (.xd [(f, v)]) → W (.ref C) (some d) σ H2) → ∀ Q : List L2.V → Hp → Prop, wpA X es σ H Q
variable {Wx : WX} {xn fn : Str} {fv : L2.V}
/-! ### statements that raise -/
/-! ### try -/
/-- the error that a suite holds: at a, its dict at d -/
def errM (a d : Addr) (f : Str) (v : L2.V) : Mn := ⟨fun _ B w => w = .ref a ∧ B d = some (.xd [(f, v)]), fun e ⟨h1, h2⟩ => ⟨h1, e _ _ h2⟩⟩
end
end PL

set_option maxHeartbeats 2000000
namespace PL
open PySem PySem.Spec PyProof.Rows L2
/-! ### fields of an object of our own -/
def putS (f : Str) (s : Sl) : List (Str × Sl) → List (Str × Sl)
  | [] => [(f, s)]
  | (g, t) :: r => if g = f then (g, s) :: r else (g, t) :: putS f s r
section
variable {K : PySem.W.Frag} {B H : Hp} {f : Str}
theorem FlO.len : ∀ {vs : List (Str × V)} {Ss : List (Str × Sl)} {F : List Addr}, FlO K B H vs Ss F → vs.length = Ss.length
  | _, _, _, .nil => rfl
  | _, _, _, .pr _ t => by rw [List.length_cons, List.length_cons, t.len]
  | _, _, _, .ob _ _ t => by rw [List.length_cons, List.length_cons, t.len]
theorem FlO.putP {v : V} {P : Mn} (h : P.p K B v) : ∀ {vs : List (Str × V)} {Ss : List (Str × Sl)} {F : List Addr}, FlO K B H vs Ss F → ∃ F', FlO K B H (putF f v vs) (putS f (.pr P) Ss) F' ∧ ∀ a ∈ F', a ∈ F
  | _, _, _, .nil => ⟨[], .pr h .nil, fun _ z => z⟩
  | _, _, F, .pr (f := g) (v := u) (P := P0) (vs := vs) (Ss := Ss) h0 t => by
    unfold putF putS
    by_cases q : g = f
    · rw [if_pos q, if_pos q]
      exact ⟨_, .pr h t, fun _ z => z⟩
    · rw [if_neg q, if_neg q]
      obtain ⟨F', h1, h2⟩ := t.putP h
      exact ⟨F', .pr h0 h1, h2⟩
  | _, _, _, .ob (f := g) (v := u) (W := W) (F1 := F1) (F := F) h0 d t => by
    unfold putF putS
    by_cases q : g = f
    · rw [if_pos q, if_pos q]
      exact ⟨_, .pr h t, fun _ z => List.mem_append_right _ z⟩
    · rw [if_neg q, if_neg q]
      obtain ⟨F', h1, h2⟩ := t.putP h
      exact ⟨F1 ++ F', .ob h0 (fun a ha z => d a ha (h2 a z)) h1, fun a z => by
        rcases List.mem_append.mp z with z | z
        · exact List.mem_append_left _ z
        · exact List.mem_append_right _ (h2 a z)⟩
theorem FlO.putO {v : V} {W : Ow} {G : List Addr} (h : W.p K B H v G) : ∀ {vs : List (Str × V)} {Ss : List (Str × Sl)} {F : List Addr}, FlO K B H vs Ss F → (∀ a ∈ G, a ∉ F) → ∃ F', FlO K B H (putF f v vs) (putS f (.ob W) Ss) F' ∧ ∀ a ∈ F', a ∈ G ∨ a ∈ F
  | _, _, _, .nil, _ => ⟨G ++ [], .ob h (fun _ _ z => nomatch z) .nil, fun a z => .inl (by simpa using z)⟩
  | _, _, F, .pr (f := g) h0 t, hd => by
    unfold putF putS
    by_cases q : g = f
    · rw [if_pos q, if_pos q]
      exact ⟨G ++ F, .ob h hd t, fun a z => List.mem_append.mp z⟩
    · rw [if_neg q, if_neg q]
      obtain ⟨F', h1, h2⟩ := t.putO h hd
      exact ⟨F', .pr h0 h1, h2⟩
  | _, _, _, .ob (f := g) (F1 := F1) (F := F) h0 d t, hd => by
    unfold putF putS
    by_cases q : g = f
    · rw [if_pos q, if_pos q]
      exact ⟨G ++ F, .ob h (fun a ha z => hd a ha (List.mem_append_right _ z)) t, fun a z => (List.mem_append.mp z).imp id fun z => List.mem_append_right _ z⟩
    · rw [if_neg q, if_neg q]
      obtain ⟨F', h1, h2⟩ := t.putO h fun a ha z => hd a ha (List.mem_append_right _ z)
      refine ⟨F1 ++ F', .ob h0 (fun a ha z => ?_) h1, fun a z => ?_⟩
      · rcases h2 a z with y | y
        · exact hd a y (List.mem_append_left _ ha)
        · exact d a ha y
      · rcases List.mem_append.mp z with z | z
        · exact .inr (List.mem_append_left _ z)
        · exact (h2 a z).imp id fun z => List.mem_append_right _ z
/-- a list that is a field -/
theorem FlO.lst {ds : List D} : ∀ {vs : List (Str × V)} {Ss : List (Str × Sl)} {F : List Addr}, FlO K B H vs Ss F → F.Nodup ∨ True → Ss.lookup f = some (.own ds) →
    ∃ p us, vs.lookup f = some (.ref p) ∧ p ∈ F ∧ H p = some (.lst us) ∧ DpAll K B us ds ∧ ∀ B' H', Ex B B' → (∀ a ∈ F, H' a = H a) → ∀ us' es, DpAll K B' us' es → FlO K B' (L2.upd H' p (.lst us')) vs (putS f (.own es) Ss) F
  | _, _, _, .nil, _, e => nomatch e
  | _, _, F, .pr (f := g) (v := u) (P := P0) (vs := vs) (Ss := Ss) h0 t, _, e => by
    by_cases q : g = f
    · subst q
      rw [List.lookup_cons, beq_self_eq_true] at e
      cases e
    · have q2 : (f == g) = false := by simpa using fun z : f = g => q z.symm
      rw [List.lookup_cons, q2] at e
      obtain ⟨p, us, h1, h2, h3, h4, h5⟩ := t.lst (.inr trivial) e
      refine ⟨p, us, by rw [List.lookup_cons, q2]; exact h1, h2, h3, h4, fun B' H' hB hH us' es hu => ?_⟩
      unfold putS
      rw [if_neg q]
      exact .pr (P0.up hB h0) (h5 B' H' hB hH us' es hu)
  | _, _, _, .ob (f := g) (v := u) (W := W) (F1 := F1) (vs := vs) (Ss := Ss) (F := F) h0 d t, _, e => by
    by_cases q : g = f
    · subst q
      rw [List.lookup_cons, beq_self_eq_true] at e
      cases e
      obtain ⟨p, us, rfl, e2, e3, e4⟩ := h0
      refine ⟨p, us, by rw [List.lookup_cons, beq_self_eq_true], List.mem_append_left _ (by rw [e2]; exact List.mem_cons_self), e3, e4, fun B' H' hB hH us' es hu => ?_⟩
      unfold putS
      rw [if_pos rfl]
      refine .ob ⟨p, us', rfl, e2, upd_same, hu⟩ d (FlO.loc (fun a ha => ?_) (t.upB hB))
      have np : a ≠ p := fun z => d p (by rw [e2]; exact List.mem_cons_self) (z ▸ ha)
      rw [upd_ne np]
      exact hH a (List.mem_append_right _ ha)
    · have q2 : (f == g) = false := by simpa using fun z : f = g => q z.symm
      rw [List.lookup_cons, q2] at e
      obtain ⟨p, us, h1, h2, h3, h4, h5⟩ := t.lst (.inr trivial) e
      refine ⟨p, us, by rw [List.lookup_cons, q2]; exact h1, List.mem_append_right _ h2, h3, h4, fun B' H' hB hH us' es hu => ?_⟩
      unfold putS
      rw [if_neg q]
      refine .ob (W.loc (fun a ha => ?_) (W.upB hB h0)) d (h5 B' H' hB (fun a ha => hH a (List.mem_append_right _ ha)) us' es hu)
      have np : a ≠ p := fun z => d a ha (z ▸ h2)
      rw [upd_ne np]
      exact hH a (List.mem_append_left _ ha)
end
section
variable {X : Cx} {J : Jd} {N : Nd} {Γ : Ga} {a e : Expr} {es : List Expr} {st : Stmt} {sts rest body : List Stmt} {P R : Mn} {W W' : Ow} {d : D} {ds : List D} {pos apos p : Pos} {own f : Str} {j k : Nat} {Ss : List (Str × Sl)} {fl : List Str}
/-- x.f = e, x an object of our own -/
theorem rs_fld (i : Nat) {x : Str} {p' q : Pos} {Ss' : List (Str × Sl)} (O : ClsOk X.K own fl) (he : GoP X Γ e P) (hΓ : Γ[i]? = some (.ob W)) (hp : Pin (insO own Ss) (insO own Ss') W W') (h : N.nx (Γ.set i (.ob W'))) (hS : putS f (.pr P) Ss = Ss' := by repeat (first | rfl | (unfold putS; first | rw [if_neg (by decide +kernel)] | rw [if_pos rfl]))) (hi : i < Γ.length := by first | decide | exact of_decide_eq_true rfl | (simp only [List.length_set, List.length_cons, List.length_nil]; decide)) (hl : Ss.length < 900 := by first | decide | exact of_decide_eq_true rfl | (simp only [List.length_set, List.length_cons, List.length_nil]; decide)) (hm : f ∈ fl := by first | exact List.mem_cons_self | decide)
    (hN : X.N[i]? = some x := by rfl) (hv : Vis X.env.scope x := by first | exact Or.inl rfl | exact Or.inr (Or.inl rfl) | exact Or.inr (Or.inr rfl)) (hd : (x == ("__debug__" : Str)) = false := by decide) (hcd : (x == ("__classdict__" : Str)) = false := by decide)
    (hs : swapsWith e (some (.Attribute (.Name x p') f q)) pos.line X.env = pure false := by rfl) : RnS X J N Γ (.Assign [.Attribute (.Name x p') f q] e pos) := .mk fun B0 σ B H Fs E j' =>
  toS (ps_fld (pe_var hN hv hd hcd) sE hs) (he σ B H Fs E _ fun v B2 H2 n r => by
    subst hS
    obtain ⟨u, h1, h2⟩ := (E.nw n).at_ i _ hΓ
    obtain ⟨i1, i2⟩ := hp.inn h2
    obtain ⟨C, a, dx, vs, F', c1, rfl, c3, c4, c5, c6⟩ := i1
    obtain ⟨F2, g1, g2⟩ := c6.putP (f := f) r
    have m : Mu (Fs i) B2 H2 B2 (upd H2 a (.ins C dx (putF f v vs))) := ⟨.refl _, fun b o z => by
      have nb : b ≠ a := fun q => by
        have := ((E.nw n).fre i a (by rw [c3]; exact List.mem_cons_self)).1
        rw [q, this] at z
        cases z
      rw [upd_ne nb]
      exact n.bh b o z, fun b o z hF => by
      rw [upd_ne (fun q => hF (by rw [q, c3]; exact List.mem_cons_self))]
      exact z, fun b z q => by
      by_cases y : b = a
      · rw [y, upd_same] at q
        cases q
      · rw [upd_ne y] at q
        exact z q, fun _ z _ => z⟩
    have na : a ∉ F2 := fun z => c4 (g2 a z)
    refine ⟨_, h1, a, C, dx, vs, rfl, c5, O.cl C c1, O.na C f c1 hm, by rw [c6.len]; omega, B2, _, _, (E.nw n).mu m hi h1 (F2 := a :: F2) (i2 _ _ _ ⟨C, a, dx, _, F2, c1, rfl, rfl, na, upd_same, FlO.loc (fun b hb => upd_ne fun z => na (z ▸ hb)) g1⟩) (fun b hb => ?_), (j'.nw n).mu m (fun b hb => ?_), h⟩
    · have hb2 : b ∈ Fs i := by
        rw [c3]
        rcases List.mem_cons.mp hb with rfl | hb
        · exact List.mem_cons_self
        · exact List.mem_cons_of_mem _ (g2 b hb)
      exact ⟨((E.nw n).fre i b hb2).1, .inl hb2⟩
    · rw [c3]
      rcases List.mem_cons.mp hb with rfl | hb
      · exact .inl List.mem_cons_self
      · exact .inl (List.mem_cons_of_mem _ (g2 b hb)))
/-- x.f = e, e a new list -/
theorem rs_fldN (i : Nat) {x : Str} {p' q : Pos} {Ss' : List (Str × Sl)} (O : ClsOk X.K own fl) (he : GoN X Γ e ds) (hΓ : Γ[i]? = some (.ob W)) (hp : Pin (insO own Ss) (insO own Ss') W W') (h : N.nx (Γ.set i (.ob W'))) (hS : putS f (.own ds) Ss = Ss' := by repeat (first | rfl | (unfold putS; first | rw [if_neg (by decide +kernel)] | rw [if_pos rfl]))) (hi : i < Γ.length := by first | decide | exact of_decide_eq_true rfl | (simp only [List.length_set, List.length_cons, List.length_nil]; decide)) (hl : Ss.length < 900 := by first | decide | exact of_decide_eq_true rfl | (simp only [List.length_set, List.length_cons, List.length_nil]; decide)) (hm : f ∈ fl := by first | exact List.mem_cons_self | decide)
    (hN : X.N[i]? = some x := by rfl) (hv : Vis X.env.scope x := by first | exact Or.inl rfl | exact Or.inr (Or.inl rfl) | exact Or.inr (Or.inr rfl)) (hd : (x == ("__debug__" : Str)) = false := by decide) (hcd : (x == ("__classdict__" : Str)) = false := by decide)
    (hs : swapsWith e (some (.Attribute (.Name x p') f q)) pos.line X.env = pure false := by rfl) : RnS X J N Γ (.Assign [.Attribute (.Name x p') f q] e pos) := .mk fun B0 σ B H Fs E j' =>
  toS (ps_fld (pe_var hN hv hd hcd) sE hs) (he σ B H Fs E _ fun l us B2 H2 n hp0 hb0 hH hds => by
    subst hS
    obtain ⟨u, h1, h2⟩ := (E.nw n).at_ i _ hΓ
    obtain ⟨i1, i2⟩ := hp.inn h2
    obtain ⟨C, a, dx, vs, F', c1, rfl, c3, c4, c5, c6⟩ := i1
    have nl : ∀ k b, b ∈ Fs k → b ≠ l := fun k b hb z => (E.fre k b hb).2 (by rw [z]; exact hp0)
    have nla : l ≠ a := fun z => nl i a (by rw [c3]; exact List.mem_cons_self) z.symm
    obtain ⟨F2, g1, g2⟩ := c6.putO (f := f) (W := lstO ds) (G := [l]) ⟨l, us, rfl, rfl, hH, hds⟩ (fun b hb z => nl i b (by rw [c3]; exact List.mem_cons_of_mem _ z) (List.mem_singleton.mp hb))
    have m : Mu (Fs i) B2 H2 B2 (upd H2 a (.ins C dx (putF f (.ref l) vs))) := ⟨.refl _, fun b o z => by
      have nb : b ≠ a := fun q => by
        have := ((E.nw n).fre i a (by rw [c3]; exact List.mem_cons_self)).1
        rw [q, this] at z
        cases z
      rw [upd_ne nb]
      exact n.bh b o z, fun b o z hF => by
      rw [upd_ne (fun q => hF (by rw [q, c3]; exact List.mem_cons_self))]
      exact z, fun b z q => by
      by_cases y : b = a
      · rw [y, upd_same] at q
        cases q
      · rw [upd_ne y] at q
        exact z q, fun _ z _ => z⟩
    have na : a ∉ F2 := fun z => by
      rcases g2 a z with y | y
      · exact nla (List.mem_singleton.mp y).symm
      · exact c4 y
    have mm : Mu (Fs i) B H B2 (upd H2 a (.ins C dx (putF f (.ref l) vs))) := n.thenMu m
    have hFF : ∀ b ∈ a :: F2, b ∈ Fs i ∨ b = l := fun b hb => by
      rw [c3]
      rcases List.mem_cons.mp hb with rfl | hb
      · exact .inl List.mem_cons_self
      · rcases g2 b hb with y | y
        · exact .inr (List.mem_singleton.mp y)
        · exact .inl (List.mem_cons_of_mem _ y)
    refine ⟨_, h1, a, C, dx, vs, rfl, c5, O.cl C c1, O.na C f c1 hm, by rw [c6.len]; omega, B2, _, _, E.mu mm hi h1 (F2 := a :: F2) (i2 _ _ _ ⟨C, a, dx, _, F2, c1, rfl, rfl, na, upd_same, FlO.loc (fun b hb => upd_ne fun z => na (z ▸ hb)) g1⟩) (fun b hb => ?_), j'.mu mm (fun b hb => ?_), h⟩
    · rcases hFF b hb with y | rfl
      · exact ⟨((E.nw n).fre i b y).1, .inl y⟩
      · exact ⟨hb0, .inr hp0⟩
    · rcases hFF b hb with y | rfl
      · exact .inl y
      · exact .inr hp0)
/-- x.f, a list within the object of the slot i -/
theorem gol_fld (i : Nat) {x : Str} {p' : Pos} {Wf : List D → Ow} (O : ClsOk X.K own fl) (hΓ : Γ[i]? = some (.ob W)) {Sf : List D → List (Str × Sl)} (hp : ∀ es, Pin (insO own Ss) (insO own (Sf es)) W (Wf es)) (hf : Ss.lookup f = some (.own ds) := by rfl) (hS : ∀ es, putS f (.own es) Ss = Sf es := by intro es; repeat (first | rfl | (unfold putS; first | rw [if_neg (by decide +kernel)] | rw [if_pos rfl]))) (hm : f ∈ fl := by first | exact List.mem_cons_self | decide)
    (hN : X.N[i]? = some x := by rfl) (hv : Vis X.env.scope x := by first | exact Or.inl rfl | exact Or.inr (Or.inl rfl) | exact Or.inr (Or.inr rfl)) (hd : (x == ("__debug__" : Str)) = false := by decide) (hcd : (x == ("__classdict__" : Str)) = false := by decide)
    (hb : attributeBase (.Name x p') f X.env (eval (.Name x p') X.env) = eval (.Name x p') X.env := by rfl) : GoL X Γ (.Attribute (.Name x p') f pos) i ds Wf := .mk fun σ B H Fs E Q q => by
  obtain ⟨u, h1, h2⟩ := E.at_ i _ hΓ
  obtain rfl : Sf = fun es => putS f (.own es) Ss := funext fun es => (hS es).symm
  obtain ⟨i1, _⟩ := (hp ds).inn h2
  obtain ⟨C, a, dx, vs, F', c1, rfl, c3, c4, c5, c6⟩ := i1
  obtain ⟨l, us, g1, g2, g3, g4, g5⟩ := c6.lst (.inr trivial) hf
  have nla : a ≠ l := fun z => c4 (z ▸ g2)
  refine toE (pe_fld (pe_var hN hv hd hcd) hb) ⟨_, h1, a, C, dx, vs, _, rfl, c5, O.cl C c1, O.na C f c1 hm, g1, q l us _ B H (.same E.bh) h1 (by rw [c3]; exact List.mem_cons_of_mem _ g2) g3 g4 fun B' H' hB hH us' es hu => ?_⟩
  refine ((hp es).inn h2).2 _ _ _ ⟨C, a, dx, vs, F', c1, rfl, c3, c4, ?_, g5 B' H' hB (fun b hb => hH b (by rw [c3]; exact List.mem_cons_of_mem _ hb)) us' es hu⟩
  rw [upd_ne nla, hH a (by rw [c3]; exact List.mem_cons_self)]
  exact c5
/-! ### what a suite asks of its error -/
structure IsiC (K : PySem.W.Frag) (C : Addr) : Prop where
  hcl : (PySem.W.clsIn K C).isSome = true
  hga : PySem.W.findIn K (.ref C) "__getattribute__" = some (some (.builtin "BaseException.__getattribute__"))
  hgt : PySem.W.findIn K (.ref C) "__getattr__" = some none
  hsub : PySem.W.subIn K (.ref C) (.type "BaseException") = some true
  ha : PySem.W.findIn K (.ref C) "__class__" = some (some (.builtin "object.__class__"))
  hn : PySem.W.specialIn K (.builtin "object.__class__") "__get__" = some (some (.builtin "getset_descriptor.__get__"))
  htk : PySem.W.takesIn K (.builtin "object.__class__") = some true
  hm : PySem.W.mroIn K C (.type "object") = some true
variable {A D0 C CF : Addr} {oe : Obj} {pn : List (Addr × Obj)} {fv : V}
def rIsE2 (D0 A CF : Addr) (r : Bool) : List V → Hp → VK → Prop := fun xs H Q => (∃ fs, H D0 = some (.xd fs)) ∧ xs = [.ref A, .ref CF] ∧ Q (.bl r) H
def refP (a : Addr) : Mn := ⟨fun _ _ v => v = .ref a, fun _ h => h⟩
end
end PL
namespace PL
open PySem PySem.Spec PyProof.Rows L2
/-- the __init__ of the class own is st -/
structure MtdI (K : PySem.W.Frag) (mg : Str → Option Value) (own qual : Str) (st : Stmt) (ps : List Str) : Prop where
  ex : ∃ C g fd, ClsAt K own C ∧ mg own = some (.ref C) ∧ Mk K C g ∧ Fun K "__init__" qual st g fd ∧ Binds K fd ps []
theorem mI_ok {P : Program} {w : World} {K : PySem.W.Frag} {mg : Str → Option Value} {base : Heap} {own qual : Str} {st : Stmt} {L ps : List Str} {k : Nat} {S : Ow → List Mn → Mn → Ow → Prop} (Mt : MtdI K mg own qual st ps) (Sc : FnScope L ps (defScope st)) (hl : ∀ W Ps R W', S W Ps R W' → Ps.length + 1 = ps.length) (hL : 0 < L.length)
    (body : ∀ W Ps R W', S W Ps R W' → ∀ (v0 : V) (f : Addr) (cdv : Value) (A : Around) (outer : List Env) (s : Shared) (H : Hp) (E : XK), Room k (A.deeper (envOfC qual (defScope st) s.heap.objs.size f cdv)) → ∀ J : Jd, J.S = [0] →
      Rn (cxOf CX0 P w K mg base L qual (defScope st) f cdv A outer s H E).nox J (ndW R W' v0) (entryW (pinO W v0) Ps L.length) (defBody st)) : CalC P w K mg base own ps (k + 1) S := by
  obtain ⟨C, g, fd, h1, h2, h3, F, b⟩ := Mt.ex
  refine ⟨C, g, fd, h1, h2, h3, F.ok Sc (fun vs H Q E h => ?_) fun cdv A outer s H vs Q E hr h => ?_, b⟩
  · obtain ⟨W, Ps, R, W', B, v0, us, F, hS, rfl, _, _, _, h, _⟩ := h
    rw [List.length_cons, mn_len h, hl _ _ _ _ hS]
  · obtain ⟨W, Ps, R, W', B, v0, us, F, hS, rfl, hB, hW, hF, hv, q⟩ := h
    exact ⟨_, sSs, end_W rfl q (body W Ps R W' hS v0 g cdv A outer s H E hr ⟨H, F, [0]⟩ rfl B (L2.start L (v0 :: us)) B H _ (en_entryW hB ⟨rfl, hW⟩ hF hv hL) jn_entryW)⟩
end PL

set_option maxHeartbeats 2000000
namespace PL
open PySem PySem.Spec PyProof.Rows L2
section
variable {X : Cx} {J : Jd} {N : Nd} {Γ : Ga} {tg iter : Expr} {P : Mn} {W : Ow} {pos : Pos}
end
end PL

set_option maxHeartbeats 2000000
namespace PL
open PySem PySem.Spec PyProof.Rows L2
theorem Mu.trans {F F1 : List Addr} {B H B1 H1 B2 H2 : Hp} (m : Mu F B H B1 H1) (m2 : Mu F1 B1 H1 B2 H2) (hF : ∀ a ∈ F1, a ∈ F ∨ H a = none) : Mu F B H B2 H2 :=
  ⟨m.bb.trans m2.bb, m2.bh, (fun a o h hf => m2.hh a o (m.hh a o h hf) (fun z => (hF a z).elim hf (fun q => by rw [q] at h; exact nomatch h))), (fun a h => m2.hd a (m.hd a h)), (fun a h1 h2 => m2.nu a (m.nu a h1 h2) (m.hd a h2))⟩
theorem keepW {K : PySem.W.Frag} {W : Ow} {B H B2 H2 : Hp} {v : V} {F : List Addr} (hW : W.p K B H v F) (n : Nw B H B2 H2) : W.p K B2 H2 v F := W.loc (fun a ha => by
  cases q : H a with
  | none => exact absurd q (W.dom hW a ha)
  | some o => exact n.hh a o q) (W.upB n.bb hW)
section
variable {X : Cx} {J : Jd} {N : Nd} {Γ : Ga} {a b e : Expr} {es rest : List Expr} {P : Mn} {W W1 W2 : Ow} {x y d : D} {ds : List D} {pos : Pos} {i : Nat} {c k l : Bool} {op : CmpOp}
/-! ### a row of tests, some of them change the thing of the slot i -/
structure GoWM (X : Cx) (Γ : Ga) (e : Expr) (i : Nat) (W : Ow) (k : Bool) : Prop where
  run : ∀ σ B H Fs, En X.K B H σ Γ Fs → ∀ Q : Bool → Hp → Prop, (∀ v0 B2 H2 F2, Mu (Fs i) B H B2 H2 → σ[i]? = some (some v0) → W.p X.K B2 H2 v0 F2 → (∀ a ∈ F2, B2 a = none ∧ (a ∈ Fs i ∨ H a = none)) → Q k H2) → wpW X e σ H Q
theorem goWM_T (h : GoWM X Γ e i W k) : GoTM X Γ e i W k := .mk fun σ B H Fs E Q q pins s I => h.run σ B H Fs E Q q (eval e X.env) pins s I
end
end PL

set_option maxHeartbeats 2000000
namespace PL
open PySem PySem.Spec PyProof.Rows L2
/-- what isinstance(x, own class) asks of the top -/
structure IsiT (K : PySem.W.Frag) (mg : Str → Option Value) (own : Str) : Prop where
  ex : ∃ C, ClsAt K own C ∧ mg own = some (.ref C) ∧ Cls K C ∧ PySem.W.findIn K (.ref C) "__class__" = some (some (.builtin "object.__class__")) ∧ PySem.W.specialIn K (.builtin "object.__class__") "__get__" = some (some (.builtin "getset_descriptor.__get__")) ∧
    PySem.W.takesIn K (.builtin "object.__class__") = some true ∧ PySem.W.mroIn K C (.type "object") = some true ∧ PySem.W.kitOne K (.ref C) (.ref C) = some true
section
variable {X : Cx} {J : Jd} {N : Nd} {Γ : Ga} {a : Expr} {pos : Pos}
end
/-! ### own things whose parts are plain -/
def AnyB (W : Ow) : Prop := ∀ (K : PySem.W.Frag) (B B' H : Hp) (v : V) (F : List Addr), W.p K B H v F → W.p K B' H v F
inductive FlatSs : List (Str × Sl) → Prop
  | nil : FlatSs []
  | pr {f : Str} {d : D} {Ss : List (Str × Sl)} : flatD d = true → FlatSs Ss → FlatSs ((f, .dat d) :: Ss)
  | ob {f : Str} {W : Ow} {Ss : List (Str × Sl)} : AnyB W → FlatSs Ss → FlatSs ((f, .ob W) :: Ss)
theorem FlatSs.any {Ss : List (Str × Sl)} (h : FlatSs Ss) : ∀ {K : PySem.W.Frag} {B B' H : Hp} {vs : List (Str × V)} {F : List Addr}, FlO K B H vs Ss F → FlO K B' H vs Ss F := by
  induction h with
  | nil => intro K B B' H vs F z; cases z; exact .nil
  | pr hd _ ih => intro K B B' H vs F z; cases z with | pr z t => exact .pr (flat_any z hd) (ih t)
  | ob hd _ ih => intro K B B' H vs F z; cases z with | ob z hn t => exact .ob (hd _ _ _ _ _ _ z) hn (ih t)
section
variable {X : Cx} {Γ : Ga} {e : Expr} {W R : Ow} {P : Mn}
end
end PL

set_option maxHeartbeats 2000000
namespace PL
open PySem PySem.Spec PyProof.Rows L2
/-! ### a second name of a list within a list of our own -/
/-- such a list whose k-th list stands elsewhere: at p, in the slot of the second name -/
def llH (dss : List (List D)) (k : Nat) (c0 : Addr) : Ow where
  p := fun K B H v F => ∃ a ps, v = .ref a ∧ F = a :: ps.filter (fun b => decide (b ≠ c0)) ∧ H a = some (.lst (ps.map .ref)) ∧ (a :: ps).Nodup ∧ ps[k]? = some c0 ∧ LLs K B (L2.upd H c0 (.lst [])) ps (dss.set k [])
  upB := fun {K B B' H v F} e h => by
    obtain ⟨a, ps, h1, h2, h3, h4, h5, h6⟩ := h
    exact ⟨a, ps, h1, h2, h3, h4, h5, h6.mono e fun _ _ => rfl⟩
  loc := fun {K B H H' v F} e h => by
    obtain ⟨a, ps, h1, h2, h3, h4, h5, h6⟩ := h
    refine ⟨a, ps, h1, h2, (e a (by rw [h2]; exact List.mem_cons_self)).trans h3, h4, h5, h6.mono (.refl _) fun b hb => ?_⟩
    by_cases q : b = c0
    · rw [q, upd_same, upd_same]
    · rw [upd_ne q, upd_ne q]
      exact e b (by rw [h2]; exact List.mem_cons_of_mem _ (List.mem_filter.mpr ⟨hb, decide_eq_true q⟩))
  dom := fun {K B H v F} h b hb => by
    obtain ⟨a, ps, h1, h2, h3, h4, h5, h6⟩ := h
    rw [h2] at hb
    rcases List.mem_cons.mp hb with e | e
    · rw [e, h3]
      exact fun z => nomatch z
    · obtain ⟨e1, e2⟩ := List.mem_filter.mp e
      have := h6.dom b e1
      rwa [upd_ne (of_decide_eq_true e2)] at this
section
variable {K : PySem.W.Frag} {B H : Hp} {σ : L2.St} {Γ : Ga} {Fs : Nat → List Addr} {W : Ow}
end
section
variable {X : Cx} {J : Jd} {N : Nd} {Γ : Ga} {e : Expr} {sts : List Stmt} {pos : Pos} {ds es : List D} {dss : List (List D)}
theorem rn_to {Γ' : Ga} (e : Γ = Γ') (h : Rn X J N Γ' sts) : Rn X J N Γ sts := e ▸ h
end
/-! ### a list of new lists by a comprehension -/
section
variable {X : Cx} {Γ : Ga} {tg iter elt : Expr} {pos : Pos}
theorem LLs.len {K : PySem.W.Frag} {B H : Hp} : ∀ {ps : List Addr} {dss : List (List D)}, LLs K B H ps dss → ps.length = dss.length
  | _, _, .nil => rfl
  | _, _, .cons _ _ t => congrArg (· + 1) t.len
end
end PL

set_option maxHeartbeats 2000000
namespace PL
open PySem PySem.Spec PyProof.Rows L2
section
variable {X : Cx} {J : Jd} {N : Nd} {Γ : Ga} {tg iter : Expr} {pos : Pos}
end
/-! ### a op b op c -/
section
variable {X : Cx} {Γ : Ga} {a b c : Expr} {pos : Pos}
theorem go_chainI {op op' : CmpOp} {g g' : Int → Int → Bool} {i j k : Int} (ho : OpR X (compareOp op) (rI0 fun i j => .bl (g i j))) (ho' : OpR X (compareOp op') (rI0 fun i j => .bl (g' i j))) (ha : Go X Γ a (.int i)) (hb : Go X Γ b (.int j)) (hc : Go X Γ c (.int k))
    (hm : lastMarks [op, op'] [b, c] = false := by with_unfolding_all rfl) : Go X Γ (.Compare a [op, op'] [b, c] pos) (.bool (g i j && g' j k)) := .mk fun σ B H Fs E Q q => by
  refine toE (pe_chain ho ho' sE sE sE hm) (ha σ B H Fs E _ fun v B1 H1 n1 r1 => hb σ B1 H1 Fs (E.nw n1) _ fun w B2 H2 n2 r2 => ⟨i, j, dp_int (dpUp n2.bb r1), dp_int r2, g i j, rfl, ?_⟩)
  cases h : g i j with
  | false =>
    rw [h] at q
    exact iteF (q _ B2 H2 (n1.trans n2) (Dp.bl _))
  | true =>
    rw [h] at q
    exact iteT (hc σ B2 H2 Fs ((E.nw n1).nw n2) _ fun u B3 H3 n3 r3 => ⟨j, k, dp_int (dpUp n3.bb r2), dp_int r3, q _ B3 H3 ((n1.trans n2).trans n3) (Dp.bl _)⟩)
end
end PL

set_option maxHeartbeats 2000000
namespace PL
open PySem PySem.Spec PyProof.Rows L2
/-! ### a dict of our own: from ints to ints -/
def dcO (n : Nat) (g : Int → Option Int) : Ow where
  p := fun K B H v F => ∃ (a : Addr) (kvs : List (Key × V)), v = .ref a ∧ F = [a] ∧ H a = some (.dK kvs) ∧ kvs.length ≤ n ∧ ∀ k : Int, valV kvs (Sum.inl k : Key) = (g k).map V.int
  upB := fun _ h => h
  loc := fun e ⟨a, kvs, h1, h2, h3, h4, h5⟩ => ⟨a, kvs, h1, h2, (e a (by rw [h2]; exact List.mem_cons_self)).trans h3, h4, h5⟩
  dom := fun ⟨a, kvs, h1, h2, h3, h4, h5⟩ b hb => by
    rw [h2] at hb
    rw [List.mem_singleton.mp hb, h3]
    exact fun z => nomatch z
section
variable {X : Cx} {J : Jd} {N : Nd} {Γ : Ga} {e f : Expr} {pos apos cpos : Pos} {n : Nat} {g : Int → Option Int} {k z : Int}
end
end PL

set_option maxHeartbeats 2000000
namespace PL
open PySem PySem.Spec PyProof.Rows L2
/-! ### a for over a list of our own that stays -/
section
variable {K : PySem.W.Frag} {B H : Hp} {σ : L2.St} {Γ : Ga} {Fs : Nat → List Addr} {W : Ow}
theorem En.pin {i : Nat} {v : V} (E : En K B H σ Γ Fs) (hΓ : Γ[i]? = some (.ob W)) (hσ : σ[i]? = some (some v)) : En K B H σ (Γ.set i (.ob (pinO W v))) Fs := ⟨E.bh, by rw [List.length_set]; exact E.len, fun j s hs => by
  by_cases e : i = j
  · subst e
    rw [List.getElem?_set_self (List.getElem?_eq_some_iff.mp hΓ).1] at hs
    cases hs
    obtain ⟨u, h1, h2⟩ := E.at_ i _ hΓ
    rw [hσ] at h1
    cases h1
    exact ⟨v, hσ, rfl, h2⟩
  · rw [List.getElem?_set_ne e] at hs
    exact E.at_ j s hs, E.fre, E.dis⟩
end
section
variable {X : Cx} {J : Jd} {N : Nd} {Γ : Ga} {tg e e1 e2 e3 b : Expr} {body sts : List Stmt} {ds ds2 : List D} {dss : List (List D)} {pos p2 : Pos}
/-! ### a tuple of lists of our own -/
def tlO (dss : List (List D)) : Ow where
  p := fun K B H v F => ∃ a ps, v = .ref a ∧ F = a :: ps ∧ H a = some (.tup (ps.map .ref)) ∧ F.Nodup ∧ LLs K B H ps dss
  upB := fun e ⟨a, ps, h1, h2, h3, h4, h5⟩ => ⟨a, ps, h1, h2, h3, h4, h5.mono e fun _ _ => rfl⟩
  loc := fun e ⟨a, ps, h1, h2, h3, h4, h5⟩ => ⟨a, ps, h1, h2, (e a (by rw [h2]; exact List.mem_cons_self)).trans h3, h4, h5.mono (.refl _) fun b hb => e b (by rw [h2]; exact List.mem_cons_of_mem _ hb)⟩
  dom := fun ⟨a, ps, h1, h2, h3, h4, h5⟩ b hb => by
    rw [h2] at hb
    rcases List.mem_cons.mp hb with e | e
    · rw [e, h3]
      exact fun z => nomatch z
    · exact h5.dom b e
theorem fz_tl (dss : List (List D)) : Fz (tlO dss) (.tuple (dss.map .list)) := fun K B H v F h hF => by
  obtain ⟨a, ps, rfl, h2, h3, h4, h5⟩ := h
  exact .tup (.of (by rw [ovl_in (by rw [h2]; exact List.mem_cons_self)]; exact h3)) (h5.dps (ovl_ex hF) fun b hb => ovl_in (by rw [h2]; exact List.mem_cons_of_mem _ hb))
theorem gol_ixT (i : Nat) {x : Str} {k : Nat} {j p2 p3} (hk : dss[k]? = some ds) (hΓ : Γ[i]? = some (.ob (tlO dss)) := by rfl) (hN : X.N[i]? = some x := by rfl) (hv : Vis X.env.scope x := by first | exact Or.inl rfl | exact Or.inr (Or.inl rfl) | exact Or.inr (Or.inr rfl))
    (hd : (x == ("__debug__" : Str)) = false := by decide) (hcd : (x == ("__classdict__" : Str)) = false := by decide) : GoL X Γ (.Subscript (.Name x p2) (.Constant (.int (k : Nat)) j p3) pos) i ds fun es => tlO (dss.set k es) := .mk fun σ B H Fs E Q q => by
  obtain ⟨v, h1, a, ps, e1, e2, e3, e4, e5⟩ := E.at_ i _ hΓ
  subst e1
  obtain ⟨p, us, f1, f2, f3⟩ := e5.get hk
  have hp : p ∈ ps := List.mem_of_getElem? f1
  have np : p ≠ a := fun z => by
    rw [e2] at e4
    exact (List.nodup_cons.mp e4).1 (z ▸ hp)
  refine toE (pe_ix ix_tup (pe_var hN hv hd hcd) pe_int fun _ _ => rfl) ⟨_, h1, a, ps.map .ref, (k : Nat), .ref p, rfl, rfl, .of e3, atI_nat (by rw [List.getElem?_map, f1]; rfl), ?_⟩
  refine q p us _ B H (.same E.bh) h1 (by rw [e2]; exact List.mem_cons_of_mem _ hp) f2 f3 fun B' H' hB hH us es hu => ⟨a, ps, rfl, e2, ?_, e4, ?_⟩
  · rw [upd_ne (Ne.symm np), hH a (by rw [e2]; exact List.mem_cons_self)]
    exact e3
  · rw [e2] at e4
    exact (e5.mono hB fun b hb => hH b (by rw [e2]; exact List.mem_cons_of_mem _ hb)).set hu (List.nodup_cons.mp e4).2 f1
end
/-! ### a method that changes its object and hands back a new thing -/
def spWU (K : PySem.W.Frag) (S : Ow → List Mn → Ow → Ow → Prop) : Sp := fun vs H Q _ => ∃ (W : Ow) (Ps : List Mn) (R W' : Ow) (B : Hp) (v0 : V) (us : List V) (F : List Addr), S W Ps R W' ∧ vs = v0 :: us ∧ Ex B H ∧ W.p K B H v0 F ∧ (∀ a ∈ F, B a = none) ∧ MnAll K B us Ps ∧
  ∀ v B2 H2 F2 F3, Mu F B H B2 H2 → R.p K B2 H2 v F3 → W'.p K B2 H2 v0 F2 → (∀ a ∈ F2, B2 a = none ∧ (a ∈ F ∨ H a = none)) → (∀ a ∈ F3, H a = none ∧ B2 a = none ∧ a ∉ F2) → Q v H2
abbrev ndWU (R W' : Ow) (v0 : V) : Nd := { nx := fun _ => False, rt := datP .none, rG := fun Γ' => Γ'[0]? = some (.ob (pinO W' v0)), rn := some R }
section
variable {P : Program} {w : World} {K : PySem.W.Frag} {mg : Str → Option Value} {base : Heap}
end
/-- e changes the thing of the slot i and gives a new thing R -/
structure GoMU (X : Cx) (Γ : Ga) (e : Expr) (i : Nat) (W R : Ow) : Prop where
  run : ∀ σ B H Fs, En X.K B H σ Γ Fs → ∀ Q : VK, (∀ v v0 B2 H2 F2 F3, Mu (Fs i) B H B2 H2 → R.p X.K B2 H2 v F3 → σ[i]? = some (some v0) → W.p X.K B2 H2 v0 F2 → (∀ a ∈ F2, B2 a = none ∧ (a ∈ Fs i ∨ H a = none)) → (∀ a ∈ F3, H a = none ∧ B2 a = none ∧ a ∉ F2) → Q v H2) → wpE X e σ H Q
section
variable {X : Cx} {J : Jd} {N : Nd} {Γ : Ga} {e : Expr} {es : List Expr} {W W' R : Ow} {pos apos : Pos} {own m : Str} {ps : List Str} {k j : Nat} {pl : Sem Bool} {d : D}
end
/-! ### {'a': .., 'b': .., 'c': ..}[x] -/
section
variable {X : Cx} {Γ : Ga} {e1 e2 e3 b : Expr} {pos : Pos} {d1 d2 d3 d : D}
theorem lay_nw {B H H1 : Hp} {B1 : Hp} {p : Addr} {o u : HO} (hp : H p = none) (hB : Ex B H) (n : Nw B (upd H p o) B1 H1) : Nw B H B1 (upd H1 p u) := by
  have b1 : B1 p = none := n.nu p (hB.none hp) (by rw [upd_same]; exact fun z => nomatch z)
  refine ⟨n.bb, fun a z h => ?_, fun a z h => ?_, fun a h1 h2 => ?_⟩
  · rw [upd_ne (ne_of_none h b1)]
    exact n.bh a z h
  · have := ne_of_none h hp
    rw [upd_ne this]
    exact n.hh a z (by rw [upd_ne this]; exact h)
  · refine n.nu a h1 ?_
    by_cases w : a = p
    · rw [w, upd_same]
      exact fun z => nomatch z
    · rw [upd_ne w]
      exact h2
end
/-! ### list(range(n)) -/
section
variable {X : Cx} {Γ : Ga} {a : Expr} {p p1 pos pos1 : Pos}
end
/-! ### a, b = e, f -/
section
variable {X : Cx} {J : Jd} {N : Nd} {Γ : Ga} {a b : Expr} {d1 d2 : D} {pos : Pos}
theorem rs_par (i j : Nat) {x y : Str} {px py pt pt2 : Pos} {kt k2} (ha : Go X Γ a d1) (hb : Go X Γ b d2) (h : N.nx ((Γ.set i (.dat d1)).set j (.dat d2))) (hN : X.N.Nodup) (hc : X.calm = true) (hij : i ≠ j) (hi : X.N[i]? = some x := by rfl) (hj : X.N[j]? = some y := by rfl)
    (hx : X.env.scope.names.lookup x = some .local := by rfl) (hy : X.env.scope.names.lookup y = some .local := by rfl)
    (hw : swappedStores [.Tuple [.Name x px, .Name y py] kt pt] (.Tuple [a, b] k2 pt2) X.env = pure (some [x, y]) := by rfl)
    (hs : swapsWithSole [.Tuple [.Name x px, .Name y py] kt pt] (.Tuple [a, b] k2 pt2) pos.line X.env = pure false := by rfl)
    (he1 : starEach [a, b] X.env = (false, eval a X.env) :: starEach [b] X.env := by rfl) (he2 : starEach [b] X.env = (false, eval b X.env) :: starEach [] X.env := by rfl) :
    RnS X J N Γ (.Assign [.Tuple [.Name x px, .Name y py] kt pt] (.Tuple [a, b] k2 pt2) pos) := .mk fun B0 σ B H Fs E jn =>
  toS (ps_par hc hN hi hj hij hx hy (pa_cons sE (pa_cons sE pa_nil he2) he1) hw hs) (ha σ B H Fs E _ fun v B1 H1 n1 r1 => hb σ B1 H1 Fs (E.nw n1) _ fun w B2 H2 n2 r2 =>
    ⟨v, w, rfl, B2, _, _, ((E.nw (n1.trans n2)).setP i (P := datP d1) (dpUp n2.bb r1)).setP j (P := datP d2) r2, (jn.nw (n1.trans n2)).sub fun _ _ z => off_sub (off_sub z), h⟩)
end
end PL

set_option maxHeartbeats 2000000
namespace PL
open PySem PySem.Spec PyProof.Rows L2
/-! ### texts -/
section
variable {X : Cx} {J : Jd} {N : Nd} {Γ : Ga} {a b e : Expr} {d x y : D} {ds : List D} {pos p ap : Pos}
theorem dps_strs {K : PySem.W.Frag} {H : Hp} : ∀ ys : List Str, DpAll K H (ys.map V.str) (ys.map PyData.str)
  | [] => .nil
  | y :: r => .cons (.str y) (dps_strs r)
/-- z.join(xs) -/
theorem go_join {z : Str} {ys : List Str} (ho : Go X Γ a (.str z)) (he : Go X Γ e (.list (ys.map .str))) (hl : (ys.map (·.length)).sum + ys.length * z.length ≤ 16777216) (hbase : attributeBase a "join" X.env (eval a X.env) = eval a X.env := by rfl)
    (hfew : ((backTo pos (starEach [e] X.env)).all (fun x => !x.1) && (backToKw pos (keywordEach [] X.env)).all (fun x => x.1.isSome)
      && decide ([e].length + ([] : List Keyword).length + (if ([] : List Keyword).isEmpty then 0 else 1) < 30)) = true := by rfl)
    (hline : (ap.endLine == pos.line) = true := by rfl) (hs : starEach [e] X.env = (false, eval e X.env) :: starEach [] X.env := by rfl) (hplain : (backTo pos (starEach [] X.env)).any (·.1) = false := by rfl) :
    Go X Γ (.Call (.Attribute a "join" ap) [e] [] pos) (.str (Txt.join z ys)) := .mk fun σ B H Fs E Q q => by
  refine toE (pe_bm PySem.F.plainAttrs_str PySem.F.slot_str_join PySem.F.type_str_join mt_join sE (pa_cons sE pa_nil hs) hbase hfew hline hs hplain) (ho σ B H Fs E _ fun v B1 H1 n1 r1 => ?_)
  rw [dp_str r1]
  refine ⟨rfl, he σ B1 H1 Fs (E.nw n1) _ fun w B2 H2 n2 r2 => ?_⟩
  obtain ⟨l, vs, rfl, h3, h4⟩ := dp_lst r2
  have e4 := dps_strs_inv h4
  subst e4
  exact ⟨z, l, ys, rfl, rfl, .inl (n2.bh.sl h3), hl, q _ B2 H2 (n1.trans n2) (Dp.str _)⟩
/-- a sign in a text -/
theorem gc_inSign {c : Nat} {z : Str} (ha : Go X Γ a (.str ⟨#[c]⟩)) (hb : Go X Γ b (.str z)) : GoC X Γ .In a b (decide (c ∈ z.cps.toList)) := go_cmp2 op_in_sign ha hb (fun v w B H hB r1 r2 Q q => ⟨c, z, dp_str r1, dp_str r2, q⟩)
end
end PL

set_option maxHeartbeats 4000000
namespace PL
open PySem PySem.Spec PyProof.Rows L2
/-! ### dicts of data by texts, not changed any more -/
inductive DcR (K : PySem.W.Frag) (B : Hp) : List (Key × V) → List (Str × D) → Prop
  | nil : DcR K B [] []
  | cons {x : Str} {v : V} {d : D} {vs : List (Key × V)} {ds : List (Str × D)} : Dp K B v d → DcR K B vs ds → DcR K B ((Sum.inr x, v) :: vs) ((x, d) :: ds)
section
variable {K : PySem.W.Frag} {B B' : Hp} {vs : List (Key × V)} {ds : List (Str × D)}
theorem DcR.up (e : Ex B B') : ∀ {vs : List (Key × V)} {ds : List (Str × D)}, DcR K B vs ds → DcR K B' vs ds
  | _, _, .nil => .nil
  | _, _, .cons h t => .cons (dpUp e h) (DcR.up e t)
theorem DcR.len : ∀ {vs : List (Key × V)} {ds : List (Str × D)}, DcR K B vs ds → vs.length = ds.length
  | _, _, .nil => rfl
  | _, _, .cons _ t => by rw [List.length_cons, List.length_cons, t.len]
theorem DcR.keys : ∀ {vs : List (Key × V)} {ds : List (Str × D)}, DcR K B vs ds → vs.map (·.1) = (ds.map (·.1)).map Sum.inr
  | _, _, .nil => rfl
  | _, _, .cons _ t => by
    rw [List.map_cons, List.map_cons, List.map_cons, t.keys]
def getD' (ds : List (Str × D)) (k : Str) : Option D := (ds.find? fun p => decide (p.1 = k)).map (·.2)
theorem inr_iff {x k : Str} : ((Sum.inr x : Key) = Sum.inr k) ↔ x = k := ⟨fun e => Sum.inr.inj e, fun e => by rw [e]⟩
theorem DcR.val (k : Str) : ∀ {vs : List (Key × V)} {ds : List (Str × D)}, DcR K B vs ds → (∀ d, getD' ds k = some d → ∃ v, valV vs (Sum.inr k : Key) = some v ∧ Dp K B v d) ∧ (getD' ds k = none → valV vs (Sum.inr k : Key) = none)
  | _, _, .nil => ⟨fun d h => (nomatch h), fun _ => rfl⟩
  | (_, v0) :: vs, (_, d0) :: ds, .cons (x := x) h t => by
    have ih := DcR.val k t
    by_cases e : x = k
    · subst e
      refine ⟨fun d hd => ?_, fun hd => ?_⟩
      · have : d0 = d := by simpa [getD', List.find?_cons] using hd
        subst this
        exact ⟨v0, valV_pos rfl, h⟩
      · simp [getD', List.find?_cons] at hd
    · have e1 : getD' ((x, d0) :: ds) k = getD' ds k := by simp [getD', List.find?_cons, e]
      rw [e1, valV_neg (fun z => e (inr_iff.mp z))]
      exact ih
def putD (ds : List (Str × D)) (k : Str) (d : D) : List (Str × D) := if (ds.any fun p => decide (p.1 = k)) = true then ds.map (fun p => if p.1 = k then (p.1, d) else p) else ds ++ [(k, d)]
theorem DcR.app : ∀ {vs ws : List (Key × V)} {ds es : List (Str × D)}, DcR K B vs ds → DcR K B ws es → DcR K B (vs ++ ws) (ds ++ es)
  | _, _, _, _, .nil, s => s
  | _, _, _, _, .cons h t, s => .cons h (DcR.app t s)
theorem DcR.any (k : Str) : ∀ {vs : List (Key × V)} {ds : List (Str × D)}, DcR K B vs ds → (vs.any fun kv => decide (kv.1 = (Sum.inr k : Key))) = ds.any fun p => decide (p.1 = k)
  | _, _, .nil => rfl
  | _, _, .cons h t => by
    rw [List.any_cons, List.any_cons, DcR.any k t]
    exact congrArg (· || _) (decide_eq_decide.mpr inr_iff)
theorem DcR.mapP {k : Str} {v : V} {d : D} (h : Dp K B v d) : ∀ {vs : List (Key × V)} {ds : List (Str × D)}, DcR K B vs ds → DcR K B (vs.map fun kv => if kv.1 = (Sum.inr k : Key) then (kv.1, v) else kv) (ds.map fun p => if p.1 = k then (p.1, d) else p)
  | _, _, .nil => .nil
  | (_, v0) :: vs, (_, d0) :: ds, .cons (x := x) g t => by
    rw [List.map_cons, List.map_cons]
    by_cases e : x = k
    · rw [if_pos (inr_iff.mpr e), if_pos e]
      exact .cons h (DcR.mapP h t)
    · rw [if_neg (fun z => e (inr_iff.mp z)), if_neg e]
      exact .cons g (DcR.mapP h t)
theorem DcR.put {k : Str} {v : V} {d : D} (h : Dp K B v d) (r : DcR K B vs ds) : DcR K B (putK vs (Sum.inr k : Key) v) (putD ds k d) := by
  unfold putK putD
  rw [r.any k]
  split
  · exact r.mapP h
  · exact r.app (.cons h .nil)
end
/-- a dict of data by texts -/
def dctP (ds : List (Str × D)) : Mn := ⟨fun K B v => ∃ a vs, v = .ref a ∧ B a = some (.dK vs) ∧ DcR K B vs ds, fun e ⟨a, vs, h1, h2, h3⟩ => ⟨a, vs, h1, e _ _ h2, h3.up e⟩⟩
def putsD (ds : List (Str × D)) (l : List (Str × D)) : List (Str × D) := l.foldl (fun acc p => putD acc p.1 p.2) ds
theorem putD_new {ds : List (Str × D)} {k : Str} {d : D} (h : k ∉ ds.map (·.1)) : putD ds k d = ds ++ [(k, d)] := by
  unfold putD
  rw [if_neg]
  intro z
  obtain ⟨p, hp, e⟩ := List.any_eq_true.mp z
  exact h (List.mem_map.mpr ⟨p, hp, of_decide_eq_true e⟩)
theorem putsD_new : ∀ {l ds : List (Str × D)}, ((ds ++ l).map (·.1)).Nodup → putsD ds l = ds ++ l
  | [], ds, _ => (List.append_nil ds).symm
  | p :: l, ds, h => by
    have hn : p.1 ∉ ds.map (·.1) := by
      rw [List.map_append, List.map_cons] at h
      exact fun z => (List.nodup_append.mp h).2.2 _ z _ List.mem_cons_self rfl
    show putsD (putD ds p.1 p.2) l = _
    have e : ds ++ p :: l = (ds ++ [(p.1, p.2)]) ++ l := by rw [List.append_assoc]; rfl
    rw [putD_new hn, e]
    exact putsD_new (by rw [← e]; exact h)
theorem getD'_mem {ds : List (Str × D)} (h : (ds.map (·.1)).Nodup) {k : Str} {d : D} (hm : (k, d) ∈ ds) : getD' ds k = some d := by
  induction ds with
  | nil => cases hm
  | cons p l ih =>
    rw [List.map_cons] at h
    obtain ⟨h1, h2⟩ := List.nodup_cons.mp h
    rcases List.mem_cons.mp hm with e | e
    · subst e
      simp [getD', List.find?_cons]
    · have hne : p.1 ≠ k := fun z => h1 (z ▸ List.mem_map.mpr ⟨_, e, rfl⟩)
      have : getD' (p :: l) k = getD' l k := by simp [getD', List.find?_cons, hne]
      rw [this]
      exact ih h2 e
theorem rising_le : ∀ (l : List Str) (p : Str), risingS p l = true → (∀ x ∈ l, leS p x = true) ∧ l.Pairwise fun a b => leS a b = true
  | [], p, _ => ⟨fun x h => (nomatch h), .nil⟩
  | y :: r, p, h => by
    have h' : (!ltCps y.cps.toList p.cps.toList && risingS y r) = true := h
    rw [Bool.and_eq_true] at h'
    obtain ⟨ih1, ih2⟩ := rising_le r y h'.2
    have h1 : leS p y = true := by
      have q := h'.1
      rw [ltCps_eq, Bool.not_eq_true'] at q
      exact decide_eq_true (List.not_lt.mp (of_decide_eq_false q))
    refine ⟨fun x hx => ?_, List.pairwise_cons.mpr ⟨ih1, ih2⟩⟩
    rcases List.mem_cons.mp hx with e | e
    · rw [e]
      exact h1
    · exact leS_trans _ _ _ h1 (ih1 x e)
theorem sortedS_pw : ∀ (l : List Str), sortedS l = true → l.Pairwise fun a b => leS a b = true
  | [], _ => .nil
  | x :: r, h => List.pairwise_cons.mpr (rising_le r x h)
section
variable {X : Cx} {J : Jd} {N : Nd} {Γ : Ga} {a b e f tg iter kx vx : Expr} {P : Mn} {d z : D} {ds : List (Str × D)} {k : Str} {pos : Pos}
/-- a new thing, frozen -/
theorem goP_of_U {W : Ow} (h : GoU X Γ e W) (hz : FzM W P) : GoP X Γ e P := .mk fun σ B H Fs E Q q => h σ B H Fs E Q fun v F B2 H2 n hv hF => by
  have hb : ∀ a ∈ F, B2 a = none := fun a ha => (hF a ha).2
  refine q v _ H2 ⟨n.bb.trans (ovl_ex hb), ovl_exH n.bh, n.hh, fun a h1 h2 => ?_⟩ (hz _ _ _ _ _ hv hb)
  by_cases w : a ∈ F
  · exact absurd (hF a w).1 h2
  · rw [ovl_out w]
    exact n.nu a h1 h2
theorem go_dctIx (hu : UOk X) (ha : GoP X Γ a (dctP ds)) (hb : Go X Γ b (.str k)) (hk : getD' ds k = some d) (hs : NoSl b := by exact fun _ _ => rfl) : Go X Γ (.Subscript a b pos) d := .mk fun σ B H Fs E Q q =>
  toE (pe_dget (by have := hu.u65; omega) sE sE hs) (ha σ B H Fs E _ fun v B1 H1 n1 r1 => hb σ B1 H1 Fs (E.nw n1) _ fun w B2 H2 n2 r2 => by
    obtain ⟨p, vs, rfl, h2, h3⟩ := (dctP ds).up n2.bb r1
    obtain ⟨u, h4, h5⟩ := (h3.val k).1 d hk
    rw [dp_str r2]
    have g := DGet.k (k := (Sum.inr k : Key)) (n2.bh _ _ h2)
    rw [h4] at g
    exact ⟨p, u, rfl, g, q u B2 H2 (n1.trans n2) h5⟩)
/-! a dict written out -/
inductive GoPr (X : Cx) (Γ : Ga) : List (Option Expr) → List Expr → List (Str × D) → Prop
  | nil : GoPr X Γ [] [] []
  | cons {e f : Expr} {k : Str} {d : D} {ks : List (Option Expr)} {vs : List Expr} {ds : List (Str × D)} : Go X Γ e (.str k) → Go X Γ f d → GoPr X Γ ks vs ds → GoPr X Γ (some e :: ks) (f :: vs) ((k, d) :: ds)
def prT (X : Cx) : List (Option Expr) → List Expr → List (TE × TE)
  | some e :: ks, f :: vs => (wpE X e, wpE X f) :: prT X ks vs
  | _, _ => []
theorem GoPr.run {ks : List (Option Expr)} {vs : List Expr} (h : GoPr X Γ ks vs ds) : ∀ {σ B H Fs}, En X.K B H σ Γ Fs → ∀ Q : List (V × V) → Hp → Prop, (∀ ws B2 H2, Nw B H B2 H2 → DcR X.K B2 ws ds → Q (ws.map fun kv => (kV kv.1, kv.2)) H2) → tPairs (prT X ks vs) σ H Q := by
  induction h with
  | nil => exact fun {σ B H Fs} E Q q => q [] B H (.same E.bh) .nil
  | cons h1 h2 _ ih =>
    intro σ B H Fs E Q q
    refine h1 σ B H Fs E _ fun x B1 H1 n1 r1 => h2 σ B1 H1 Fs (E.nw n1) _ fun y B2 H2 n2 r2 => ih ((E.nw n1).nw n2) _ fun ws B3 H3 n3 r3 => ?_
    rw [dp_str r1]
    exact q ((Sum.inr _, y) :: ws) B3 H3 ((n1.trans n2).trans n3) (.cons (dpUp n3.bb r2) r3)
/-! sorted(d) -/
theorem goN_sortDct (hc : X.calm = true) (hm : X.mg "sorted" = none) (ha : GoP X Γ a (dctP ds)) (hl : ds.length < 64) (hg : Gl X "sorted" := by rfl) (he : starEach [a] X.env = (false, eval a X.env) :: starEach [] X.env := by rfl) {p : Pos} :
    GoN X Γ (.Call (.Name "sorted" p) [a] [] pos) ((sortS (ds.map (·.1))).map .str) :=
  goN_callB (call_sortedD hc) hg hm PyProof.Rows.boot_sorted (goA_cons ha goA_nil he) (fun vs B H hB r Q q => by
    obtain ⟨v, rfl, h⟩ := mn1 r
    obtain ⟨p, us, rfl, h3, h4⟩ := h
    refine ⟨p, us, ds.map (·.1), rfl, .of (hB _ _ h3), h4.keys, by rw [List.length_map]; exact hl, fun ys l hp hs hn => ?_⟩
    have e : ys = sortS (ds.map (·.1)) := by
      refine perm_sorted_eq (le := leS) leS_anti (hp.trans (sortS_perm _).symm) (sortedS_pw ys hs) (sortS_pw _)
    rw [e]
    exact q l _ hn (dps_strs _)) (by decide) (by decide) he rfl
/-! {k: v for .. in ..} -/
abbrev dcRd (X : Cx) (scope : Scope) (tg : Expr) (ifs : List Expr) (kx vx : Expr) (iter : Expr) (vs : List Nat) : TE :=
  tDc (wpI X tg iter) (fun v σ H Q => Blk X scope fun X' => wpG X' tg v σ H Q) (fun σ H Q => Blk X scope fun X' => wpTs X' ifs σ H Q) (fun σ H Q => Blk X scope fun X' => wpE X' kx σ H Q) (fun σ H Q => Blk X scope fun X' => wpE X' vx σ H Q) vs
theorem putsD_snoc (ds l : List (Str × D)) (p : Str × D) : putsD ds (l ++ [p]) = putD (putsD ds l) p.1 p.2 := by
  unfold putsD
  rw [List.foldl_append]
  rfl
theorem putD_len (ds : List (Str × D)) (k : Str) (d : D) : (putD ds k d).length ≤ ds.length + 1 := by
  unfold putD
  split
  · rw [List.length_map]
    omega
  · rw [List.length_append]
    exact Nat.le_refl _
theorem putsD_len : ∀ (l ds : List (Str × D)), (putsD ds l).length ≤ ds.length + l.length
  | [], ds => Nat.le_refl _
  | p :: l, ds => by
    have h := putsD_len l (putD ds p.1 p.2)
    have h2 := putD_len ds p.1 p.2
    show (putsD (putD ds p.1 p.2) l).length ≤ ds.length + (l.length + 1)
    omega
theorem dc_run {scope : Scope} {vs : List Nat} {α : Type} {xs : List α} {enc : α → D} (kf : α → Str) (f : α → D) (hi : GoI X Γ tg iter (xs.map enc)) (hz : xs.length < 1000000)
    (body : ∀ (k : Nat) x, xs[k]? = some x → ∃ Γ' ts, (∀ t ∈ ts, t ∈ vs) ∧ (Blk X scope fun X' => GoG X' (wipeG Γ vs) tg (enc x) Γ' ts) ∧ (Blk X scope fun X' => Go X' Γ' kx (.str (kf x))) ∧ (Blk X scope fun X' => Go X' Γ' vx (f x)))
    {σ B H Fs} (E : En X.K B H σ Γ Fs) (Q : VK)
    (q : ∀ l us B2 H2, Nw B H B2 H2 → H l = none → B2 l = none → H2 l = some (.dK us) → DcR X.K B2 us (putsD [] (xs.map fun x => (kf x, f x))) → Q (.ref l) H2) : dcRd X scope tg [] kx vx iter vs σ H Q := by
  refine hi σ B H Fs E _ fun I B1 H1 n1 it => ?_
  intro Dl hDl
  have E1 := E.nw n1
  have hl : (xs.map enc).length = xs.length := List.length_map _
  refine ⟨fun i m H' => m = xs.length - i ∧ i ≤ xs.length ∧ ∃ B' acc, Nw B1 H1 B' H' ∧ B' Dl = none ∧ H' Dl = some (.dK acc) ∧ DcR X.K B' acc (putsD [] ((xs.take i).map fun x => (kf x, f x))),
    ⟨xs.length, by omega, Nat.zero_le _, B1, [], .lay n1.bh hDl, n1.bh.none hDl, upd_same, by rw [List.take_zero]; exact .nil⟩, ?_⟩
  rintro i m H' ⟨rfl, hi', B', acc, n', hb, hH, hd⟩
  by_cases hlt : i < xs.length
  · refine .inr ⟨it.go i H' (by rw [hl]; exact hlt) (n'.bb.trans n'.bh), fun H' => i + 1 ≤ xs.length ∧ ∃ B' acc, Nw B1 H1 B' H' ∧ B' Dl = none ∧ H' Dl = some (.dK acc) ∧ DcR X.K B' acc (putsD [] ((xs.take (i + 1)).map fun x => (kf x, f x))), fun H' pp => ⟨xs.length - (i + 1), by omega, rfl, pp⟩, fun x H'' y => ?_⟩
    have ge : (xs.map enc)[i]? = some (enc xs[i]) := by
      rw [List.getElem?_map, List.getElem?_eq_getElem hlt]
      rfl
    obtain ⟨B2, n2, r2⟩ := it.yld i H' x H'' B' _ ge n'.bb n'.bh y
    obtain ⟨Γ', ts, hts, hg, hk, he⟩ := body i xs[i] (List.getElem?_eq_getElem hlt)
    have E2 : En X.K B2 H'' (wipe σ vs) (wipeG Γ vs) Fs := ((E1.nw n').nw n2).wipe vs
    have acl : acc.length < sizeLine := by
      rw [hd.len]
      refine Nat.lt_of_le_of_lt (putsD_len _ _) (ltZ ?_)
      rw [List.length_map, List.length_take, List.length_nil]
      omega
    have eT : xs.take (i + 1) = xs.take i ++ [xs[i]] := by rw [List.take_succ_eq_append_getElem hlt]
    intro s0 H0 C0 cl0 fp0
    refine hg s0 H0 C0 cl0 fp0 (wipe σ vs) B2 H'' Fs x E2 r2 _ fun σ2 F2 E3 sb hw => ⟨(hw vs hts).trans (wipe_wipe vs), ?_⟩
    intro s1 H1' C1 cl1 fp1
    refine (goTs_nil (X := X.blk s1 H1' scope (compEnvC scope cl1 C1 X.env) fp1) (Γ := Γ')) σ2 B2 H'' F2 E3 _ fun B4 H4 n4 => ?_
    have dk : B4 Dl = none := n4.nu Dl (n2.nu Dl hb (by rw [hH]; exact fun z => nomatch z)) (by rw [n2.hh Dl _ hH]; exact fun z => nomatch z)
    have dH : H4 Dl = some (.dK acc) := n4.hh Dl _ (n2.hh Dl _ hH)
    have nAll := (n'.trans n2).trans n4
    refine iteT ?_
    intro s2 H2' C2 cl2 fp2
    refine hk s2 H2' C2 cl2 fp2 σ2 B4 H4 F2 (E3.nw n4) _ fun y' B5 H5 n5 r5 => ?_
    intro s3 H3' C3 cl3 fp3
    refine he s3 H3' C3 cl3 fp3 σ2 B5 H5 F2 ((E3.nw n4).nw n5) _ fun z' B6 H6 n6 r6 => ?_
    have n56 := n5.trans n6
    have d5 : B6 Dl = none := n56.nu Dl dk (by rw [dH]; exact fun z => nomatch z)
    have dH5 : H6 Dl = some (.dK acc) := n56.hh Dl _ dH
    have n7 := nAll.trans n56
    refine ⟨acc, Sum.inr (kf xs[i]), dp_str r5, dH5, acl, hlt, B6, putK acc (Sum.inr (kf xs[i]) : Key) z', ⟨n7.bb, fun a u e => ?_, fun a u e => ?_, n7.nu⟩, d5, upd_same, ?_⟩
    · rw [upd_ne (ne_of_none e d5)]
      exact n7.bh a u e
    · rw [upd_ne (ne_of_none e hDl)]
      exact n7.hh a u e
    · rw [eT, List.map_append, List.map_cons, List.map_nil, putsD_snoc]
      exact (hd.up ((n2.bb.trans n4.bb).trans n56.bb)).put r6
  · have e : i = xs.length := by omega
    subst e
    rw [List.take_length] at hd
    refine .inl ⟨by rw [← hl]; exact it.stop H' (n'.bb.trans n'.bh), q Dl acc B' H' (n1.trans n') (n1.hh.none hDl) hb hH hd⟩
theorem goP_dc {scope : Scope} {α : Type} {xs : List α} {enc : α → D} {kf : α → Str} {f : α → D} (own : List (Str × Nat)) (hc : X.calm = true) (hN : X.N.Nodup) (hi : GoI X Γ tg iter (xs.map enc))
    (body : ∀ (k : Nat) x, xs[k]? = some x → ∃ Γ' ts, (Blk X scope fun X' => GoG X' (wipeG Γ (own.map (·.2))) tg (enc x) Γ' ts) ∧ (Blk X scope fun X' => Go X' Γ' kx (.str (kf x))) ∧ (Blk X scope fun X' => Go X' Γ' vx (f x)) ∧ (∀ t ∈ ts, t ∈ own.map (·.2)))
    (ok : blkC X.N X.env.scope scope own = true) (hz : xs.length < 1000000 := by walk_at "pside") (hs : ∀ x, foldedSetIterable iter X.env x = pure x := by intro _; rfl) :
    GoP X Γ (.DictComp kx vx [⟨tg, iter, [], 0⟩] scope pos) (dctP (putsD [] (xs.map fun x => (kf x, f x)))) := .mk fun σ B H Fs E Q q =>
  toE (pe_dc (own := own) hc hN sI (blkOk_by ok) (fun s H C cl fp => ⟨fun pins s' σ H v u Q I r h => (h s _ C cl fp) pins s' u I r⟩) (fun s H C cl fp => ⟨fun pins s' σ H Q I h => (h s _ C cl fp) pins s' I⟩) (fun s H C cl fp => ⟨fun pins s' σ H Q I h => (h s _ C cl fp) pins s' I⟩) (fun s H C cl fp => ⟨fun pins s' σ H Q I h => (h s _ C cl fp) pins s' I⟩) hs)
    (dc_run kf f hi hz (fun k x hx => let ⟨Γ', ts, h1, h2, h3, h4⟩ := body k x hx; ⟨Γ', ts, h4, h1, h2, h3⟩) E Q fun l us B2 H2 n hl hb hH hd => by
      obtain ⟨e1, e2⟩ := Nw.ice n.bh hb hH
      refine q _ _ _ ⟨n.bb.trans e1, e2, n.hh, fun a h1 h2 => ?_⟩ ⟨l, us, rfl, upd_same, hd.up e1⟩
      have : a ≠ l := fun z => h2 (by rw [z]; exact hl)
      rw [upd_ne this]
      exact n.nu a h1 h2)
/-! ### constants of the module -/
def GlobD (K : PySem.W.Frag) (mg : Str → Option Value) (x : Str) (d : D) : Prop := ∃ u v, mg x = some u ∧ RelV v u ∧ ∀ H, Dp K H v d
theorem go_gcon {x : Str} (T : GlobD X.K X.mg x d) (hg : Gl X x := by rfl) (hd : (x == ("__debug__" : Str)) = false := by decide) : Go X Γ (.Name x pos) d := .mk fun σ B H Fs E Q q => by
  obtain ⟨u, v, hm, r, h⟩ := T
  exact toE (pe_glob hg hm r hd) (q v B H (.same E.bh) (h B))
theorem globS {K : PySem.W.Frag} {mg : Str → Option Value} {x y : Str} {t : Tok} (h : mg x = some (.str y t)) : GlobD K mg x (.str y) := ⟨_, .str y, h, ⟨t, rfl⟩, fun _ => Dp.str y⟩
end
end PL

set_option maxHeartbeats 4000000
namespace PL
open PySem PySem.Spec PyProof.Rows L2
/-! ### errors of any kind -/
/-- an error: its class, and what is told of it -/
structure Er where
  x : Str
  p : Hp → Option Addr → Hp → Prop
  mono : ∀ {H0 H H2 : Hp} {d : Option Addr}, Ex H0 H → p H d H2 → p H0 d H2
/-- without fields -/
def er0 (x : Str) : Er := ⟨x, fun H d H2 => Ex H H2 ∧ d = none, fun e ⟨h1, h2⟩ => ⟨e.trans h1, h2⟩⟩
/-- with one field -/
def erF (x f : Str) (v : V) : Er := ⟨x, fun H d H2 => Ex H H2 ∧ ∃ a, d = some a ∧ H a = none ∧ H2 a = some (.xd [(f, v)]), fun e ⟨h1, a, h2, h3, h4⟩ => ⟨e.trans h1, a, h2, e.none h3, h4⟩⟩
def spE (K : PySem.W.Frag) (S : List Mn → Er → Prop) : Sp := fun vs H _ E => ∃ (Ps : List Mn) (r : Er) (B : Hp), S Ps r ∧ Ex B H ∧ MnAll K B vs Ps ∧ ∀ C d H2, ClsAt K r.x C → r.p H d H2 → E (.ref C) d H2
def WishE (K : PySem.W.Frag) (J : Jd) (E : XK) (r : Er) : Prop := ∀ C d H2, ClsAt K r.x C → r.p J.H d H2 → E (.ref C) d H2
section
variable {P : Program} {w : World} {K : PySem.W.Frag} {mg : Str → Option Value} {base : Heap}
/-- a def that may raise -/
theorem fX_ok {x : Str} {st : Stmt} {L ps : List Str} {k : Nat} {S : List Mn → Mn → Prop} {S2 : List Mn → Er → Prop} (Df : Dfn K mg x st ps) (Sc : FnScope L ps (defScope st)) (hl : ∀ Ps R, S Ps R → Ps.length = ps.length) (hl2 : ∀ Ps r, S2 Ps r → Ps.length = ps.length)
    (body : ∀ Ps R, S Ps R → ∀ (f : Addr) (cdv : Value) (A : Around) (outer : List Env) (s : Shared) (H : Hp) (E : XK), Room k (A.deeper (envOfC x (defScope st) s.heap.objs.size f cdv)) → ∀ J : Jd, J.S = [] →
      Rn (cxOf (L2.CX P w) P w K mg base L x (defScope st) f cdv A outer s H E).nox J { nx := fun _ => ∀ K B, R.p K B .non, rt := R } (entry Ps L.length) (defBody st))
    (body2 : ∀ Ps r, S2 Ps r → ∀ (f : Addr) (cdv : Value) (A : Around) (outer : List Env) (s : Shared) (H : Hp) (E : XK), Room k (A.deeper (envOfC x (defScope st) s.heap.objs.size f cdv)) → ∀ J : Jd, J.S = [] → J.M = [] → WishE K J E r →
      Rn (cxOf (L2.CX P w) P w K mg base L x (defScope st) f cdv A outer s H E) J { nx := fun _ => False, rt := botM } (entry Ps L.length) (defBody st)) : CalF P w K mg base (L2.CX P w) x ps (k + 1) (orSp (spS K S) (spE K S2)) := by
  obtain ⟨f, fd, F, m, b⟩ := Df.ex
  refine ⟨f, fd, F.okX Sc (fun vs H Q E h => ?_) fun cdv A outer s H vs Q E hr h => ?_, m, F.kp, b⟩
  · rcases h with ⟨Ps, R, B, hS, _, h, _⟩ | ⟨Ps, r, B, hS, _, h, _⟩
    · rw [mn_len h, hl _ _ hS]
    · rw [mn_len h, hl2 _ _ hS]
  · rcases h with ⟨Ps, R, B, hS, hB, hv, q⟩ | ⟨Ps, r, B, hS, hB, hv, q⟩
    · exact ⟨_, sSs.nox, end_S rfl q (body Ps R hS f cdv A outer s H E hr ⟨H, [], []⟩ rfl B (L2.start L vs) B H (fun _ => []) (en_entry hB hv) jn_entry)⟩
    · refine ⟨_, sSs, wpSs_mono (body2 Ps r hS f cdv A outer s H E hr ⟨H, [], []⟩ rfl rfl q B (L2.start L vs) B H (fun _ => []) (en_entry hB hv) jn_entry) ?_ ?_ ?_ ?_⟩
      · exact fun σ' H' ⟨B', Γ', Fs', e, j, n⟩ => n.elim
      · exact fun v H' ⟨σ', B', Γ', Fs', e, j, _, r⟩ => (show False from r).elim
      · exact fun σ' H' ⟨B', Γ', Fs', e, j, n⟩ => n.elim
      · exact fun σ' H' ⟨B', Γ', Fs', e, j, n⟩ => n.elim
/-! ### properties -/
structure MtdP (K : PySem.W.Frag) (own m qual : Str) (st : Stmt) (ps : List Str) : Prop where
  ex : ∃ C p g fd, ClsAt K own C ∧ Cls K C ∧ PropOf K C m p g ∧ Fun K m qual st g fd ∧ Binds K fd ps []
structure CalP (P : Program) (w : World) (K : PySem.W.Frag) (mg : Str → Option Value) (base : Heap) (own m : Str) (ps : List Str) (k : Nat) (S : List Mn → Mn → Prop) : Prop where
  ex : ∃ C p g fd, ClsAt K own C ∧ Cls K C ∧ PropOf K C m p g ∧ FnOk P w K mg base CX0 k g fd ps (spS K S) ∧ Binds K fd ps []
theorem mP_ok {own m qual : Str} {st : Stmt} {L ps : List Str} {k : Nat} {S : List Mn → Mn → Prop} (Mt : MtdP K own m qual st ps) (Sc : FnScope L ps (defScope st)) (hl : ∀ Ps R, S Ps R → Ps.length = ps.length)
    (body : ∀ Ps R, S Ps R → ∀ (f : Addr) (cdv : Value) (A : Around) (outer : List Env) (s : Shared) (H : Hp) (E : XK), Room k (A.deeper (envOfC qual (defScope st) s.heap.objs.size f cdv)) → ∀ J : Jd, J.S = [] →
      Rn (cxOf CX0 P w K mg base L qual (defScope st) f cdv A outer s H E).nox J { nx := fun _ => ∀ K B, R.p K B .non, rt := R } (entry Ps L.length) (defBody st)) : CalP P w K mg base own m ps (k + 1) S := by
  obtain ⟨C, p, g, fd, h1, h2, h3, F, b⟩ := Mt.ex
  refine ⟨C, p, g, fd, h1, h2, h3, F.ok Sc (fun vs H Q E h => ?_) fun cdv A outer s H vs Q E hr h => ?_, b⟩
  · obtain ⟨Ps, R, B, hS, _, h, _⟩ := h
    rw [mn_len h, hl _ _ hS]
  · obtain ⟨Ps, R, B, hS, hB, hv, q⟩ := h
    exact ⟨_, sSs, end_S rfl q (body Ps R hS g cdv A outer s H E hr ⟨H, [], []⟩ rfl B (L2.start L vs) B H (fun _ => []) (en_entry hB hv) jn_entry)⟩
end
section
variable {X : Cx} {J : Jd} {N : Nd} {Γ : Ga} {o e a : Expr} {es : List Expr} {st : Stmt} {sts rest body : List Stmt} {P R : Mn} {W : Ow} {d : D} {ds : List D} {pos apos p : Pos} {own m : Str} {ps : List Str} {j k : Nat} {pl : Sem Bool} {Ps : List (Str × Mn)} {Qs : List Mn} {Wx : WX} {r : Er}
theorem gx_prop {S : List Mn → Mn → Prop} (C : CalP X.prog X.w X.K X.mg X.base own m ps k S) (hr : Room j X.A) (hk : k + 1 ≤ j) (ho : GoP X Γ o (insP own Ps)) (hS : S [insP own Ps] R := by walk_at "pS") (hb : attributeBase o m X.env (eval o X.env) = eval o X.env := by rfl) : GoP X Γ (.Attribute o m pos) R := .mk fun σ B H Fs E Q q => by
  obtain ⟨C, pr, g, fd, h1, h2, h3, F, b⟩ := C.ex
  refine toE (pe_prop sE h2 h3 F (hr.mono hk) b .nil pass0 hb) (ho σ B H Fs E _ fun v B1 H1 n1 r1 => ?_)
  obtain ⟨C', a, dx, vs, e1, rfl, e3, e4⟩ := id r1
  cases h1.eq e1
  exact ⟨a, dx, vs, rfl, n1.bh _ _ e3, [insP own Ps], R, B1, hS, n1.bh, .cons r1 .nil, fun v B3 H3 n3 r3 => q v B3 H3 (n1.trans n3) r3⟩
/-! ### an expression that raises -/
structure GoE (X : Cx) (W : WX) (Γ : Ga) (e : Expr) (r : Er) : Prop where
  run : ∀ σ B H Fs, En X.K B H σ Γ Fs → (∀ C d H2, ClsAt X.K r.x C → r.p H d H2 → W (.ref C) d σ H2) → ∀ Q : VK, wpE X e σ H Q
structure GoEA (X : Cx) (W : WX) (Γ : Ga) (es : List Expr) (r : Er) : Prop where
  run : ∀ σ B H Fs, En X.K B H σ Γ Fs → (∀ C d H2, ClsAt X.K r.x C → r.p H d H2 → W (.ref C) d σ H2) → ∀ Q : List V → Hp → Prop, wpA X es σ H Q
/-- a def that may raise is called where it does not -/
theorem gx_callE {x : Str} {S : List Mn → Mn → Prop} {S2 : List Mn → Er → Prop} (C : CalF X.prog X.w X.K X.mg X.base (L2.CX X.prog X.w) x ps k (orSp (spS X.K S) (spE X.K S2))) (hr : Room j X.A) (hk : k ≤ j) (ha : GoA X Γ (e :: es) Qs) (hS : S Qs R := by walk_at "pS") (hg : Gl X x := by rfl) (hdb : (x == ("__debug__" : Str)) = false := by decide)
    (he : starEach (e :: es) X.env = (false, eval e X.env) :: starEach es X.env := by rfl) (hpl : (backTo pos (starEach es X.env)).any (·.1) = false := by rfl) : GoP X Γ (.Call (.Name x p) (e :: es) [] pos) R := .mk fun σ B H Fs E Q q => by
  obtain ⟨f, fd, F, m, kp, b⟩ := C.ex
  exact toE (pe_call (F.mono hk) hr hg m kp b .nil passL sA hdb he hpl) (ha σ B H Fs E _ fun us B2 H2 n2 r2 => .inl ⟨Qs, R, B2, hS, n2.bh, by rw [List.append_nil]; exact r2, fun v B3 H3 n3 r3 => q v B3 H3 (n2.trans n3) r3⟩)
/-! ### statements that raise, their slots untouched -/
structure SoE (X : Cx) (W : WX) (Γ : Ga) (st : Stmt) (r : Er) : Prop where
  run : ∀ σ B H Fs, En X.K B H σ Γ Fs → (∀ C d H2, ClsAt X.K r.x C → r.p H d H2 → W (.ref C) d σ H2) → ∀ D : Ends, wpS X st D σ H
/-- a class of errors without an __init__ of its own, over ValueError -/
structure Ec0 (K : PySem.W.Frag) (mg : Str → Option Value) (x : Str) : Prop where
  ex : ∃ C, ClsAt K x C ∧ mg x = some (.ref C) ∧ PySem.W.keepIn K (.ref C) = true ∧ PySem.W.excIn K C [.type "ValueError", .type "Exception", .type "BaseException", .type "object"] "ValueError.__new__" = true ∧
    PySem.W.subIn K (.ref C) (.type "BaseException") = some true ∧ PySem.W.typeIn K (.ref C) = some (.type "type") ∧ PySem.W.exmOne K (.ref C) (.ref C) = some true
theorem soe_raise {x t : Str} {j0 : Nat} {p2 pos2 : Pos} (T : Ec0 X.K X.mg x) (hc : X.calm = true) (tk : Takes X Wx) (hg : Gl X x := by rfl) (hdb : (x == ("__debug__" : Str)) = false := by decide) : SoE X Wx Γ (.Raise (some (.Call (.Name x p) [.Constant (.str t) j0 p2] [] pos)) none pos2) (er0 x) := .mk fun σ B H Fs E hw D => by
  obtain ⟨C, h1, h2, h3, h4, h5, h6, _⟩ := T.ex
  exact toS (ps_raise hc tk (pmk_own PySem.F.excBase_ValueError h4 h2 h3 (raises_own h5 h6) hg hdb)) (hw C none H h1 ⟨.refl H, rfl⟩)
/-- within a def -/
theorem rs_soe (he : SoE X Wx Γ st r) (hM : J.M = []) (hW : ∀ σ C d H2, ClsAt X.K r.x C → r.p J.H d H2 → Wx (.ref C) d σ H2) : RnS X J N Γ st := .mk fun B0 σ B H Fs E j =>
  he.run σ B H Fs E (fun C d H2 h1 h2 => hW σ C d H2 h1 (r.mono (fun a o h => j.h0 a o h (by rw [hM]; exact List.not_mem_nil)) h2)) _
/-! ### try: one statement that raises -/
/-- the error that a suite holds -/
def errI (a : Addr) : Mn := ⟨fun _ _ w => w = .ref a, fun _ h => h⟩
end
end PL

set_option maxHeartbeats 4000000
namespace PL
open PySem PySem.Spec PyProof.Rows L2
/-! ### [e for .. in .. for .. in ..] -/
section
variable {X : Cx} {Γ : Ga} {tg iter tg1 iter1 elt : Expr} {ifs ifs1 : List Expr} {pos : Pos}
/-- own things stay where they are not touched -/
theorem En.agree {K : PySem.W.Frag} {B H B2 H2 : Hp} {σ : L2.St} {Fs : Nat → List Addr} (E : En K B H σ Γ Fs) (bb : Ex B B2) (bh : Ex B2 H2) (ag : ∀ i a, a ∈ Fs i → H2 a = H a) (nu : ∀ i a, a ∈ Fs i → B2 a = none) : En K B2 H2 σ Γ Fs where
  bh := bh
  len := E.len
  at_ := fun i s hs => by
    have := E.at_ i s hs
    cases s with
    | any => trivial
    | pr P =>
      obtain ⟨v, h1, h2⟩ := this
      exact ⟨v, h1, P.up bb h2⟩
    | ob P =>
      obtain ⟨v, h1, h2⟩ := this
      exact ⟨v, h1, P.loc (fun a ha => ag i a ha) (P.upB bb h2)⟩
  fre := fun i a ha => ⟨nu i a ha, by rw [ag i a ha]; exact (E.fre i a ha).2⟩
  dis := E.dis
abbrev lcRd2 (X : Cx) (scope : Scope) (tg : Expr) (ifs : List Expr) (tg1 iter1 : Expr) (ifs1 : List Expr) (elt : Expr) (iter : Expr) (vs vs1 : List Nat) : TE :=
  tLc2 (wpI X tg iter) (fun v σ H Q => Blk X scope fun X' => wpG X' tg v σ H Q) (fun σ H Q => Blk X scope fun X' => wpTs X' ifs σ H Q)
    (fun σ H R => Blk X scope fun X' => wpI X' tg1 iter1 σ H R) (fun v σ H Q => Blk X scope fun X' => wpG X' tg1 v σ H Q) (fun σ H Q => Blk X scope fun X' => wpTs X' ifs1 σ H Q) (fun σ H Q => Blk X scope fun X' => wpE X' elt σ H Q) vs vs1
theorem lc2_run {scope : Scope} {vs vs1 : List Nat} {α β : Type} {xs : List α} {enc : α → D} (p : α → Bool) (ys : α → List β) (enc1 : α → β → D) (p1 : α → β → Bool) (f : α → β → D) (hi : GoI X Γ tg iter (xs.map enc)) (hz : ∀ n, ((xs.take n).flatMap fun x => ys x).length < 1000000)
    (body : ∀ (k : Nat) x, xs[k]? = some x → ∃ Γ' ts, (∀ t ∈ ts, t ∈ vs) ∧ (Blk X scope fun X' => GoG X' (wipeG Γ vs) tg (enc x) Γ' ts) ∧ (Blk X scope fun X' => GoTs X' Γ' ifs (p x)) ∧ (p x = true → (Blk X scope fun X' => GoI X' Γ' tg1 iter1 ((ys x).map (enc1 x))) ∧
      ∀ (j : Nat) y, (ys x)[j]? = some y → ∃ Γ'' ts1, (∀ t ∈ ts1, t ∈ vs1) ∧ (Blk X scope fun X' => GoG X' (wipeG Γ' vs1) tg1 (enc1 x y) Γ'' ts1) ∧ (Blk X scope fun X' => GoTs X' Γ'' ifs1 (p1 x y)) ∧ (p1 x y = true → Blk X scope fun X' => Go X' Γ'' elt (f x y))))
    {σ B H Fs} (E : En X.K B H σ Γ Fs) (Q : VK)
    (q : ∀ l us B2 H2, Nw B H B2 H2 → H l = none → B2 l = none → H2 l = some (.lst us) → DpAll X.K B2 us ((xs.filter p).flatMap fun x => ((ys x).filter (p1 x)).map (f x)) → Q (.ref l) H2) : lcRd2 X scope tg ifs tg1 iter1 ifs1 elt iter vs vs1 σ H Q := by
  refine hi σ B H Fs E _ fun I B1 H1 n1 it => ?_
  intro Dl hDl
  have E1 := E.nw n1
  have nD : ∀ i, Dl ∉ Fs i := fun i ha => (E1.fre i Dl ha).2 hDl
  have hl : (xs.map enc).length = xs.length := List.length_map _
  refine ⟨fun i m H' => m = xs.length - i ∧ i ≤ xs.length ∧ ∃ B' acc, Nw B1 H1 B' H' ∧ B' Dl = none ∧ H' Dl = some (.lst acc) ∧ acc.length ≤ ((xs.take i).flatMap fun x => ys x).length ∧ DpAll X.K B' acc (((xs.take i).filter p).flatMap fun x => ((ys x).filter (p1 x)).map (f x)),
    ⟨xs.length, by omega, Nat.zero_le _, B1, [], .lay n1.bh hDl, n1.bh.none hDl, upd_same, Nat.zero_le _, by rw [List.take_zero]; exact .nil⟩, ?_⟩
  rintro i m H' ⟨rfl, hi', B', acc, n', hb, hH, hal, hd⟩
  by_cases hlt : i < xs.length
  · refine .inr ⟨it.go i H' (by rw [hl]; exact hlt) (n'.bb.trans n'.bh), fun H' => i + 1 ≤ xs.length ∧ ∃ B' acc, Nw B1 H1 B' H' ∧ B' Dl = none ∧ H' Dl = some (.lst acc) ∧ acc.length ≤ ((xs.take (i + 1)).flatMap fun x => ys x).length ∧ DpAll X.K B' acc (((xs.take (i + 1)).filter p).flatMap fun x => ((ys x).filter (p1 x)).map (f x)), fun H' pp => ⟨xs.length - (i + 1), by omega, rfl, pp⟩, fun x H'' y => ?_⟩
    have ge : (xs.map enc)[i]? = some (enc xs[i]) := by
      rw [List.getElem?_map, List.getElem?_eq_getElem hlt]
      rfl
    obtain ⟨B2, n2, r2⟩ := it.yld i H' x H'' B' _ ge n'.bb n'.bh y
    obtain ⟨Γ', ts, hts, hg, ht, hin⟩ := body i xs[i] (List.getElem?_eq_getElem hlt)
    have E2 : En X.K B2 H'' (wipe σ vs) (wipeG Γ vs) Fs := ((E1.nw n').nw n2).wipe vs
    have eT : xs.take (i + 1) = xs.take i ++ [xs[i]] := by rw [List.take_succ_eq_append_getElem hlt]
    have eF : ((xs.take (i + 1)).flatMap fun x => ys x) = ((xs.take i).flatMap fun x => ys x) ++ ys xs[i] := by
      rw [eT, List.flatMap_append]
      simp
    intro s0 H0 C0 cl0 fp0
    refine hg s0 H0 C0 cl0 fp0 (wipe σ vs) B2 H'' Fs x E2 r2 _ fun σ2 F2 E3 sb hw => ⟨(hw vs hts).trans (wipe_wipe vs), ?_⟩
    intro s1 H1' C1 cl1 fp1
    refine ht s1 H1' C1 cl1 fp1 σ2 B2 H'' F2 E3 _ fun B4 H4 n4 => ?_
    have dk : B4 Dl = none := n4.nu Dl (n2.nu Dl hb (by rw [hH]; exact fun z => nomatch z)) (by rw [n2.hh Dl _ hH]; exact fun z => nomatch z)
    have dH : H4 Dl = some (.lst acc) := n4.hh Dl _ (n2.hh Dl _ hH)
    have nAll := (n'.trans n2).trans n4
    cases hp : p xs[i] with
    | false =>
      refine iteF ⟨hlt, B4, acc, nAll, dk, dH, ?_, ?_⟩
      · rw [eF, List.length_append]
        omega
      · rw [eT, List.filter_append, List.filter_cons_of_neg (by rw [hp]; exact Bool.false_ne_true), List.filter_nil, List.append_nil]
        exact dpsUp (n2.bb.trans n4.bb) hd
    | true =>
      obtain ⟨hi1, hb1⟩ := hin hp
      refine iteT ?_
      intro s2 H2' C2 cl2 fp2
      refine hi1 s2 H2' C2 cl2 fp2 σ2 B4 H4 F2 (E3.nw n4) _ fun I1 B5 H5 n5 it1 => ?_
      have nAll5 := nAll.trans n5
      have dk5 : B5 Dl = none := n5.nu Dl dk (by rw [dH]; exact fun z => nomatch z)
      have dH5 : H5 Dl = some (.lst acc) := n5.hh Dl _ dH
      have E5 := (E3.nw n4).nw n5
      have hl1 : ((ys xs[i]).map (enc1 xs[i])).length = (ys xs[i]).length := List.length_map _
      refine ⟨fun j k H' => k = (ys xs[i]).length - j ∧ j ≤ (ys xs[i]).length ∧ ∃ B' acc, Nw B1 H1 B' H' ∧ Ex B5 B' ∧ B' Dl = none ∧ H' Dl = some (.lst acc) ∧ acc.length ≤ ((xs.take i).flatMap fun x => ys x).length + j ∧ DpAll X.K B' acc ((((xs.take i).filter p).flatMap fun x => ((ys x).filter (p1 x)).map (f x)) ++ (((ys xs[i]).take j).filter (p1 xs[i])).map (f xs[i])),
        ⟨(ys xs[i]).length, by omega, Nat.zero_le _, B5, acc, nAll5, .refl _, dk5, dH5, by omega, by rw [List.take_zero]; simpa using dpsUp ((n2.bb.trans n4.bb).trans n5.bb) hd⟩, ?_⟩
      rintro j k H6 ⟨rfl, hj', B6, acc6, n6, x6, hb6, hH6, hal6, hd6⟩
      by_cases hjl : j < (ys xs[i]).length
      · refine .inr ⟨it1.go j H6 (by rw [hl1]; exact hjl) (x6.trans n6.bh), fun H' => j + 1 ≤ (ys xs[i]).length ∧ ∃ B' acc, Nw B1 H1 B' H' ∧ Ex B5 B' ∧ B' Dl = none ∧ H' Dl = some (.lst acc) ∧ acc.length ≤ ((xs.take i).flatMap fun x => ys x).length + (j + 1) ∧ DpAll X.K B' acc ((((xs.take i).filter p).flatMap fun x => ((ys x).filter (p1 x)).map (f x)) ++ (((ys xs[i]).take (j + 1)).filter (p1 xs[i])).map (f xs[i])), fun H' pp => ⟨(ys xs[i]).length - (j + 1), by omega, rfl, pp⟩, fun x' H7 y' => ?_⟩
        have ge1 : ((ys xs[i]).map (enc1 xs[i]))[j]? = some (enc1 xs[i] (ys xs[i])[j]) := by
          rw [List.getElem?_map, List.getElem?_eq_getElem hjl]
          rfl
        obtain ⟨B7, n7, r7⟩ := it1.yld j H6 x' H7 B6 _ ge1 x6 n6.bh y'
        obtain ⟨Γ'', ts1, hts1, hg1, ht1, he1⟩ := hb1 j (ys xs[i])[j] (List.getElem?_eq_getElem hjl)
        have n67 := n6.trans n7
        have sub2 : ∀ t a, a ∈ F2 t → a ∈ Fs t := fun t a ha => sb t a ha
        have E7 : En X.K B7 H7 σ2 Γ' F2 := E5.agree (x6.trans n7.bb) n7.bh (fun t a ha => by
          have h1 := (E1.fre t a (sub2 t a ha)).2
          cases w : H1 a with
          | none => exact absurd w h1
          | some o => rw [n67.hh a o w, nAll5.hh a o w]) (fun t a ha => n67.nu a (E1.fre t a (sub2 t a ha)).1 (E1.fre t a (sub2 t a ha)).2)
        intro s3 H3' C3 cl3 fp3
        refine hg1 s3 H3' C3 cl3 fp3 (wipe σ2 vs1) B7 H7 F2 x' (E7.wipe vs1) r7 _ fun σ3 F3 E8 sb3 hw3 => ⟨(hw3 vs1 hts1).trans (wipe_wipe vs1), ?_⟩
        intro s4 H4' C4 cl4 fp4
        refine ht1 s4 H4' C4 cl4 fp4 σ3 B7 H7 F3 E8 _ fun B8 H8 n8 => ?_
        have eT1 : (ys xs[i]).take (j + 1) = (ys xs[i]).take j ++ [(ys xs[i])[j]] := by rw [List.take_succ_eq_append_getElem hjl]
        have d8 : B8 Dl = none := n8.nu Dl (n7.nu Dl hb6 (by rw [hH6]; exact fun z => nomatch z)) (by rw [n7.hh Dl _ hH6]; exact fun z => nomatch z)
        have dH8 : H8 Dl = some (.lst acc6) := n8.hh Dl _ (n7.hh Dl _ hH6)
        have n68 := n67.trans n8
        cases hp1 : p1 xs[i] (ys xs[i])[j] with
        | false =>
          refine iteF ⟨hjl, B8, acc6, n68, (x6.trans n7.bb).trans n8.bb, d8, dH8, by omega, ?_⟩
          rw [eT1, List.filter_append, List.filter_cons_of_neg (by rw [hp1]; exact Bool.false_ne_true), List.filter_nil, List.append_nil]
          exact dpsUp (n7.bb.trans n8.bb) hd6
        | true =>
          refine iteT ?_
          intro s5 H5' C5 cl5 fp5
          refine he1 hp1 s5 H5' C5 cl5 fp5 σ3 B8 H8 F3 (E8.nw n8) _ fun y9 B9 H9 n9 r9 => ?_
          have d9 : B9 Dl = none := n9.nu Dl d8 (by rw [dH8]; exact fun z => nomatch z)
          have dH9 : H9 Dl = some (.lst acc6) := n9.hh Dl _ dH8
          have n69 := n68.trans n9
          have hz1 := hz (i + 1)
          rw [eF, List.length_append] at hz1
          refine ⟨acc6, dH9, ltZ (by omega), hjl, B9, acc6 ++ [y9], ⟨n69.bb, fun a u e => ?_, fun a u e => ?_, n69.nu⟩, ((x6.trans n7.bb).trans n8.bb).trans n9.bb, d9, upd_same, by rw [List.length_append, List.length_singleton]; omega, ?_⟩
          · rw [upd_ne (ne_of_none e d9)]
            exact n69.bh a u e
          · rw [upd_ne (ne_of_none e hDl)]
            exact n69.hh a u e
          · rw [eT1, List.filter_append, List.filter_cons_of_pos hp1, List.filter_nil, List.map_append, ← List.append_assoc]
            exact dps_app (dpsUp ((n7.bb.trans n8.bb).trans n9.bb) hd6) (.cons r9 .nil)
      · have e : j = (ys xs[i]).length := by omega
        subst e
        rw [List.take_length] at hd6
        refine .inl ⟨by rw [← hl1]; exact it1.stop H6 (x6.trans n6.bh), hlt, B6, acc6, n6, hb6, hH6, ?_, ?_⟩
        · rw [eF, List.length_append]
          exact hal6
        · rw [eT, List.filter_append, List.filter_cons_of_pos hp, List.filter_nil, List.flatMap_append]
          simpa using hd6
  · have e : i = xs.length := by omega
    subst e
    rw [List.take_length] at hd
    refine .inl ⟨by rw [← hl]; exact it.stop H' (n'.bb.trans n'.bh), q Dl acc B' H' (n1.trans n') (n1.hh.none hDl) hb hH hd⟩
theorem gx_lc2 {scope : Scope} {α β : Type} {xs : List α} {enc : α → D} {ys : α → List β} {enc1 : α → β → D} {f : α → β → D} (own : List (Str × Nat)) (vs1 : List Nat) (hc : X.calm = true) (hN : X.N.Nodup) (hi : GoI X Γ tg iter (xs.map enc))
    (body : ∀ (k : Nat) x, xs[k]? = some x → ∃ Γ' ts, (Blk X scope fun X' => GoG X' (wipeG Γ (own.map (·.2))) tg (enc x) Γ' ts) ∧ (Blk X scope fun X' => GoI X' Γ' tg1 iter1 ((ys x).map (enc1 x))) ∧
      (∀ (j : Nat) y, (ys x)[j]? = some y → ∃ Γ'' ts1, (Blk X scope fun X' => GoG X' (wipeG Γ' vs1) tg1 (enc1 x y) Γ'' ts1) ∧ (Blk X scope fun X' => Go X' Γ'' elt (f x y)) ∧ (∀ t ∈ ts1, t ∈ vs1)) ∧ (∀ t ∈ ts, t ∈ own.map (·.2)))
    (ok : blkC X.N X.env.scope scope own = true) (hz : ∀ n, ((xs.take n).flatMap fun x => ys x).length < 1000000) (hv : ∀ i ∈ vs1, i ∈ own.map (·.2) := by decide) (hs : ∀ x, foldedSetIterable iter X.env x = pure x := by intro _; rfl) (hs1 : ∀ env x, foldedSetIterable iter1 env x = pure x := by intro _ _; rfl) :
    GoN X Γ (.ListComp elt [⟨tg, iter, [], 0⟩, ⟨tg1, iter1, [], 0⟩] scope pos) (xs.flatMap fun x => (ys x).map (f x)) := .mk fun σ B H Fs E Q q =>
  toE (pe_lc2 (own := own) (vs1 := vs1) hc hN sI (blkOk_by ok) hv (fun s H C cl fp => ⟨fun pins s' σ H v u Q I r h => (h s _ C cl fp) pins s' u I r⟩) (fun s H C cl fp => ⟨fun pins s' σ H Q I h => (h s _ C cl fp) pins s' I⟩)
    (fun s H C cl fp => ⟨fun pins s' σ H R I h => (h s _ C cl fp) pins s' I⟩) (fun s H C cl fp => ⟨fun pins s' σ H v u Q I r h => (h s _ C cl fp) pins s' u I r⟩) (fun s H C cl fp => ⟨fun pins s' σ H Q I h => (h s _ C cl fp) pins s' I⟩) (fun s H C cl fp => ⟨fun pins s' σ H Q I h => (h s _ C cl fp) pins s' I⟩) hs hs1)
    (lc2_run (fun _ => true) ys enc1 (fun _ _ => true) f hi hz (fun k x hx => let ⟨Γ', ts, h1, h2, h3, h4⟩ := body k x hx; ⟨Γ', ts, h4, h1, fun _ _ _ _ _ => goTs_nil, fun _ => ⟨h2, fun j y hy => let ⟨Γ'', ts1, g1, g2, g3⟩ := h3 j y hy; ⟨Γ'', ts1, g3, g1, fun _ _ _ _ _ => goTs_nil, fun _ => g2⟩⟩⟩) E Q fun l us B2 H2 n hl hb hH hd => q l us B2 H2 n hl hb hH (by
      have e1 : xs.filter (fun _ => true) = xs := List.filter_eq_self.mpr fun _ _ => rfl
      rw [e1] at hd
      have e2 : (fun x => ((ys x).filter fun _ => true).map (f x)) = fun x => (ys x).map (f x) := funext fun x => by rw [List.filter_eq_self.mpr fun _ _ => rfl]
      rw [e2] at hd
      exact hd))
end
end PL

set_option maxHeartbeats 4000000
namespace PL
open PySem PySem.Spec PyProof.Rows L2
/-! ### data without lists, read through a thing of our own -/
mutual
inductive NoL : D → Prop
  | non : NoL .none
  | bl (b : Bool) : NoL (.bool b)
  | int (i : Int) : NoL (.int i)
  | str (x : Str) : NoL (.str x)
  | tup {ds : List D} : NoLs ds → NoL (.tuple ds)
inductive NoLs : List D → Prop
  | nil : NoLs []
  | cons {d : D} {ds : List D} : NoL d → NoLs ds → NoLs (d :: ds)
end
/-- what is no tuple -/
def NT (o : Option HO) : Prop := ∀ vs, o ≠ some (.tup vs) ∧ ∀ x, o ≠ some (.frz x (.tup vs))
/-- without the places of F -/
def cutF (B : Hp) (F : List Addr) : Hp := fun a => if a ∈ F then none else B a
/-- a thing of our own whose plain parts have no lists -/
def CutW (W : Ow) : Prop := ∀ (K : PySem.W.Frag) (B H : Hp) (v : V) (G F : List Addr), W.p K B H v G → (∀ a ∈ F, NT (B a)) → W.p K (cutF B F) H v G
/-- a thing of our own whose places are no tuples -/
def NtW (W : Ow) : Prop := ∀ (K : PySem.W.Frag) (B H : Hp) (v : V) (F : List Addr), W.p K B H v F → ∀ a ∈ F, NT (H a)
inductive NtSs : List (Str × Sl) → Prop
  | nil : NtSs []
  | pr {f : Str} {P : Mn} {Ss : List (Str × Sl)} : NtSs Ss → NtSs ((f, .pr P) :: Ss)
  | ob {f : Str} {W : Ow} {Ss : List (Str × Sl)} : NtW W → NtSs Ss → NtSs ((f, .ob W) :: Ss)
inductive CutSs : List (Str × Sl) → Prop
  | nil : CutSs []
  | pr {f : Str} {d : D} {Ss : List (Str × Sl)} : NoL d → CutSs Ss → CutSs ((f, .dat d) :: Ss)
  | ob {f : Str} {W : Ow} {Ss : List (Str × Sl)} : CutW W → CutSs Ss → CutSs ((f, .ob W) :: Ss)
section
variable {X : Cx} {J : Jd} {N : Nd} {Γ : Ga} {e : Expr} {W R : Ow} {P : Mn} {d : D} {pos : Pos}
/-- a thing of our own is not changed any more -/
theorem rn_iceM (i : Nat) (hΓ : Γ[i]? = some (.ob W)) (hz : FzM W P) (hi : i ∉ J.S) {sts : List Stmt} (h : Rn X J N (Γ.set i (.pr P)) sts) : Rn X J N Γ sts := .mk fun B0 σ B H Fs E j => by
  have E2 := E.iceM hΓ hz
  have e1 : Ex B (ovl B H (Fs i)) := ovl_ex fun a ha => (E.fre i a ha).1
  refine h B0 σ _ H _ E2 ⟨j.b0.trans e1, fun b h1 h2 => ?_, j.h0, j.h1, fun k a ha => j.fm k a (off_sub ha)⟩
  by_cases q : b ∈ Fs i
  · rcases j.fm i b q with z | z
    · exact z
    · exact absurd z.2 hi
  · rw [ovl_out q] at h1
    exact j.nb b h1 h2
end
/-! ### a dict of lists of our own, by texts -/
def lsts (es : List (Str × List D)) : List (List D) := es.map fun p => p.2
def keyed : List (Str × List D) → List Addr → List (Key × V)
  | (k, _) :: r, p :: ps => (Sum.inr k, .ref p) :: keyed r ps
  | _, _ => []
def dclO (es : List (Str × List D)) : Ow where
  p := fun K B H v F => ∃ a ps, v = .ref a ∧ F = a :: ps ∧ H a = some (.dK (keyed es ps)) ∧ F.Nodup ∧ LLs K B H ps (lsts es)
  upB := fun e ⟨a, ps, h1, h2, h3, h4, h5⟩ => ⟨a, ps, h1, h2, h3, h4, h5.mono e fun _ _ => rfl⟩
  loc := fun e ⟨a, ps, h1, h2, h3, h4, h5⟩ => ⟨a, ps, h1, h2, (e a (by rw [h2]; exact List.mem_cons_self)).trans h3, h4, h5.mono (.refl _) fun b hb => e b (by rw [h2]; exact List.mem_cons_of_mem _ hb)⟩
  dom := fun ⟨a, ps, h1, h2, h3, h4, h5⟩ b hb => by
    rw [h2] at hb
    rcases List.mem_cons.mp hb with e | e
    · rw [e, h3]
      exact fun z => nomatch z
    · exact h5.dom b e
theorem dcr_keyed {K : PySem.W.Frag} {B B' H : Hp} (eB : Ex B B') : ∀ {es : List (Str × List D)} {ps : List Addr}, LLs K B H ps (lsts es) → (∀ a ∈ ps, B' a = H a) → DcR K B' (keyed es ps) (es.map fun p => (p.1, .list p.2))
  | [], _, .nil, _ => .nil
  | (k, ds) :: r, p :: ps, .cons h1 h2 t, h => .cons (.lst (.of ((h _ List.mem_cons_self).trans h1)) (dpsUp eB h2)) (dcr_keyed eB t fun a ha => h a (List.mem_cons_of_mem _ ha))
theorem fz_dcl (es : List (Str × List D)) : FzM (dclO es) (dctP (es.map fun p => (p.1, .list p.2))) := fun K B H v F h hF => by
  obtain ⟨a, ps, rfl, h2, h3, h4, h5⟩ := h
  exact ⟨a, _, rfl, (ovl_in (by rw [h2]; exact List.mem_cons_self)).trans h3, dcr_keyed (ovl_ex hF) h5 fun b hb => ovl_in (by rw [h2]; exact List.mem_cons_of_mem _ hb)⟩
/-! ### a new thing that takes up the thing of the slot j -/
structure GoV (X : Cx) (Γ : Ga) (e : Expr) (j : Nat) (R : Ow) : Prop where
  run : ∀ σ B H Fs, En X.K B H σ Γ Fs → ∀ Q : VK, (∀ v F B2 H2, Nw B H B2 H2 → R.p X.K B2 H2 v F → (∀ a ∈ F, B2 a = none ∧ (a ∈ Fs j ∨ H a = none)) → Q v H2) → wpE X e σ H Q
section
variable {X : Cx} {J : Jd} {N : Nd} {Γ : Ga} {e : Expr} {pos : Pos} {ds1 ds2 ds3 ds4 : List D}
theorem goV_dct4 (j : Nat) {k1 k2 k3 k4 x : Str} {e1 e2 e3 e4 f1 f3 f4 : Expr} {px : Pos} (h1 : Go X Γ e1 (.str k1)) (h2 : Go X Γ e2 (.str k2)) (h3 : Go X Γ e3 (.str k3)) (h4 : Go X Γ e4 (.str k4)) (g1 : GoN X Γ f1 ds1) (g3 : GoN X Γ f3 ds3) (g4 : GoN X Γ f4 ds4) (hΓ : Γ[j]? = some (.own ds2))
    (hm : ∀ w1 w2 w3 w4 : V, mergeK [] [((Sum.inr k1 : Key), w1), (Sum.inr k2, w2), (Sum.inr k3, w3), (Sum.inr k4, w4)] = [((Sum.inr k1 : Key), w1), (Sum.inr k2, w2), (Sum.inr k3, w3), (Sum.inr k4, w4)])
    (hN : X.N[j]? = some x := by rfl) (hv : Vis X.env.scope x := by first | exact Or.inl rfl | exact Or.inr (Or.inl rfl) | exact Or.inr (Or.inr rfl)) (hd : (x == ("__debug__" : Str)) = false := by decide) (hcd : (x == ("__classdict__" : Str)) = false := by decide) :
    GoV X Γ (.Dict [some e1, some e2, some e3, some e4] [f1, .Name x px, f3, f4] pos) j (dclO [(k1, ds1), (k2, ds2), (k3, ds3), (k4, ds4)]) := .mk fun σ B H Fs E Q q => by
  obtain ⟨a2, us2, s1, s2, s3, s4, s5⟩ := E.own hΓ
  refine toE (pe_disp (pps_cons sE sE (pps_cons sE (pe_var hN hv hd hcd) (pps_cons sE sE (pps_cons sE sE pps_nil)))) rfl rfl (fun z => nomatch z) (by show 4 ≤ 15; decide)) fun p hp => ?_
  have n0 : Nw B H B (upd H p (.dK [])) := .lay E.bh hp
  refine h1 σ B _ Fs (E.nw n0) _ fun y1 B1 H1 m1 r1 => g1 σ B1 H1 Fs ((E.nw n0).nw m1) _ fun p1 us1 B2 H2 m2 a1 b1 c1 d1 => h2 σ B2 H2 Fs (((E.nw n0).nw m1).nw m2) _ fun y2 B3 H3 m3 r2 => ⟨_, s1, ?_⟩
  refine h3 σ B3 H3 Fs ((((E.nw n0).nw m1).nw m2).nw m3) _ fun y3 B4 H4 m4 r3 => g3 σ B4 H4 Fs (((((E.nw n0).nw m1).nw m2).nw m3).nw m4) _ fun p3 us3 B5 H5 m5 a3 b3 c3 d3 => ?_
  refine h4 σ B5 H5 Fs ((((((E.nw n0).nw m1).nw m2).nw m3).nw m4).nw m5) _ fun y4 B6 H6 m6 r4 => g4 σ B6 H6 Fs (((((((E.nw n0).nw m1).nw m2).nw m3).nw m4).nw m5).nw m6) _ fun p4 us4 B7 H7 m7 a4 b4 c4 d4 => ?_
  have n36 := (m3.trans m4).trans m5
  have n67 := m6.trans m7
  have nA := ((m1.trans m2).trans n36).trans n67
  refine ⟨nA.hh _ _ upd_same, [((Sum.inr k1 : Key), .ref p1), (Sum.inr k2, .ref a2), (Sum.inr k3, .ref p3), (Sum.inr k4, .ref p4)], ?_, by show 4 ≤ 15; decide, ?_⟩
  · rw [dp_str r1, dp_str r2, dp_str r3, dp_str r4]
    rfl
  rw [hm]
  have n7 := lay_nw (u := .dK [((Sum.inr k1 : Key), .ref p1), (Sum.inr k2, .ref a2), (Sum.inr k3, .ref p3), (Sum.inr k4, .ref p4)]) hp E.bh nA
  have hp1 : H p1 = none := n0.hh.none (m1.hh.none a1)
  have hp3 : H p3 = none := n0.hh.none (((m1.trans m2).trans (m3.trans m4)).hh.none a3)
  have hp4 : H p4 = none := n0.hh.none ((((m1.trans m2).trans n36).trans m6).hh.none a4)
  have t1 : H7 p1 = some (.lst us1) := (n36.trans n67).hh _ _ c1
  have t3 : H7 p3 = some (.lst us3) := n67.hh _ _ c3
  have t2 : H7 a2 = some (.lst us2) := nA.hh _ _ (n0.hh _ _ s2)
  have tp : H7 p = some (.dK []) := nA.hh _ _ upd_same
  have q12 : p1 ≠ a2 := fun z => by rw [z, s2] at hp1; cases hp1
  have q32 : p3 ≠ a2 := fun z => by rw [z, s2] at hp3; cases hp3
  have q42 : p4 ≠ a2 := fun z => by rw [z, s2] at hp4; cases hp4
  have q13 : p1 ≠ p3 := fun z => by
    have := (m3.trans m4).hh _ _ c1
    rw [z, a3] at this
    cases this
  have q14 : p1 ≠ p4 := fun z => by
    have := (n36.trans m6).hh _ _ c1
    rw [z, a4] at this
    cases this
  have q34 : p3 ≠ p4 := fun z => by
    have := m6.hh _ _ c3
    rw [z, a4] at this
    cases this
  have w1 : p ≠ p1 := fun z => by rw [z, t1] at tp; cases tp
  have w2 : p ≠ a2 := fun z => by rw [z, t2] at tp; cases tp
  have w3 : p ≠ p3 := fun z => by rw [z, t3] at tp; cases tp
  have w4 : p ≠ p4 := fun z => by rw [z, c4] at tp; cases tp
  refine q _ [p, p1, a2, p3, p4] B7 _ n7 ⟨p, [p1, a2, p3, p4], rfl, rfl, upd_same, ?_, ?_⟩ fun a ha => ?_
  · simp only [List.nodup_cons, List.mem_cons, List.not_mem_nil, or_false, not_or, not_false_eq_true, List.nodup_nil, and_true]
    exact ⟨⟨w1, w2, w3, w4⟩, ⟨q12, q13, q14⟩, ⟨Ne.symm q32, Ne.symm q42⟩, q34⟩
  · exact .cons ((upd_ne (Ne.symm w1)).trans t1) (dpsUp (n36.trans n67).bb d1) (.cons ((upd_ne (Ne.symm w2)).trans t2) (dpsUp nA.bb s4) (.cons ((upd_ne (Ne.symm w3)).trans t3) (dpsUp n67.bb d3) (.cons ((upd_ne (Ne.symm w4)).trans c4) d4 .nil)))
  · simp only [List.mem_cons, List.not_mem_nil, or_false] at ha
    rcases ha with rfl | rfl | rfl | rfl | rfl
    · exact ⟨nA.nu _ (E.bh.none hp) (by rw [upd_same]; exact fun z => nomatch z), .inr hp⟩
    · exact ⟨(n36.trans n67).nu _ b1 (by rw [c1]; exact fun z => nomatch z), .inr hp1⟩
    · exact ⟨n7.nu _ s5 (by rw [s2]; exact fun z => nomatch z), .inl (by rw [s3]; exact List.mem_cons_self)⟩
    · exact ⟨n67.nu _ b3 (by rw [c3]; exact fun z => nomatch z), .inr hp3⟩
    · exact ⟨b4, .inr hp4⟩
end
section
variable {K : PySem.W.Frag} {B H B2 H2 : Hp} {σ : L2.St} {Γ : Ga} {Fs : Nat → List Addr} {W : Ow} {J : Jd} {B0 : Hp}
theorem En.take {i j : Nat} {v : V} {F2 : List Addr} (E : En K B H σ Γ Fs) (m : Mu (Fs i ++ Fs j) B H B2 H2) (hij : i ≠ j) (hi : i < Γ.length) (hσ : σ[i]? = some (some v)) (hW : W.p K B2 H2 v F2) (hF : ∀ a ∈ F2, B2 a = none ∧ (a ∈ Fs i ∨ a ∈ Fs j ∨ H a = none)) :
    En K B2 H2 σ ((Γ.set i (.ob W)).set j .any) (off (off Fs i F2) j []) where
  bh := m.bh
  len := by rw [List.length_set, List.length_set, E.len]
  at_ := fun k s hs => by
    by_cases e : k = j
    · subst e
      by_cases hl : k < (Γ.set i (.ob W)).length
      · rw [List.getElem?_set_self hl] at hs
        cases hs
        trivial
      · rw [List.getElem?_eq_none (by rw [List.length_set]; omega)] at hs
        cases hs
    rw [List.getElem?_set_ne (Ne.symm e)] at hs
    rw [off_ne e]
    by_cases e2 : k = i
    · subst e2
      rw [List.getElem?_set_self hi] at hs
      cases hs
      rw [off_same]
      exact ⟨v, hσ, hW⟩
    · rw [List.getElem?_set_ne (Ne.symm e2)] at hs
      rw [off_ne e2]
      have := E.at_ k s hs
      cases s with
      | any => trivial
      | pr P =>
        obtain ⟨v, h1, h2⟩ := this
        exact ⟨v, h1, P.up m.bb h2⟩
      | ob P =>
        obtain ⟨v, h1, h2⟩ := this
        refine ⟨v, h1, P.loc (fun a ha => ?_) (P.upB m.bb h2)⟩
        cases q : H a with
        | none => exact absurd q (E.fre k a ha).2
        | some o =>
          exact m.hh a o q fun z => by
            rcases List.mem_append.mp z with z | z
            · exact e2 (E.dis k i a ha z)
            · exact e (E.dis k j a ha z)
  fre := fun k a ha => by
    by_cases e : k = j
    · rw [e, off_same] at ha
      cases ha
    rw [off_ne e] at ha
    by_cases e2 : k = i
    · subst e2
      rw [off_same] at ha
      exact ⟨(hF a ha).1, W.dom hW a ha⟩
    · rw [off_ne e2] at ha
      exact ⟨m.nu a (E.fre k a ha).1 (E.fre k a ha).2, m.hd a (E.fre k a ha).2⟩
  dis := fun k l a h1 h2 => by
    have key : ∀ k, k ≠ i → k ≠ j → a ∈ F2 → a ∈ Fs k → False := fun k n1 n2 h1 h2 => by
      rcases (hF a h1).2 with z | z | z
      · exact n1 (E.dis k i a h2 z)
      · exact n2 (E.dis k j a h2 z)
      · exact (E.fre k a h2).2 z
    by_cases k1 : k = j
    · rw [k1, off_same] at h1
      cases h1
    by_cases l1 : l = j
    · rw [l1, off_same] at h2
      cases h2
    rw [off_ne k1] at h1
    rw [off_ne l1] at h2
    by_cases k2 : k = i
    · by_cases l2 : l = i
      · rw [k2, l2]
      · rw [k2, off_same] at h1
        rw [off_ne l2] at h2
        exact (key l l2 l1 h1 h2).elim
    · rw [off_ne k2] at h1
      by_cases l2 : l = i
      · rw [l2, off_same] at h2
        exact (key k k2 k1 h2 h1).elim
      · rw [off_ne l2] at h2
        exact E.dis k l a h1 h2
theorem Jn.take {i k : Nat} {F2 : List Addr} (j : Jn J B0 B H Fs) (m : Mu (Fs i ++ Fs k) B H B2 H2) (hk : k ∉ J.S) (hF : ∀ a ∈ F2, a ∈ Fs i ∨ a ∈ Fs k ∨ H a = none) : Jn J B0 B2 H2 (off (off Fs i F2) k []) where
  b0 := j.b0.trans m.bb
  nb := fun a h1 h2 => by
    cases q : B a with
    | some o => exact j.nb a (by rw [q]; exact fun z => nomatch z) h2
    | none =>
      cases r : J.H a with
      | none => rfl
      | some o => exact absurd (m.nu a q (j.h1 a (by rw [r]; exact fun z => nomatch z))) h1
  h0 := fun a o h1 h2 => m.hh a o (j.h0 a o h1 h2) fun z => by
    rcases List.mem_append.mp z with z | z
    · rcases j.fm i a z with q | q
      · rw [q] at h1
        cases h1
      · exact h2 q.1
    · rcases j.fm k a z with q | q
      · rw [q] at h1
        cases h1
      · exact h2 q.1
  h1 := fun a h => m.hd a (j.h1 a h)
  fm := fun l a ha => by
    by_cases e1 : l = k
    · rw [e1, off_same] at ha
      cases ha
    rw [off_ne e1] at ha
    by_cases e : l = i
    · subst e
      rw [off_same] at ha
      rcases hF a ha with z | z | z
      · exact j.fm l a z
      · rcases j.fm k a z with q | q
        · exact .inl q
        · exact absurd q.2 hk
      · left
        cases q : J.H a with
        | none => rfl
        | some o => exact absurd z (j.h1 a (by rw [q]; exact fun z => nomatch z))
    · rw [off_ne e] at ha
      exact j.fm l a ha
end
section
variable {X : Cx} {J : Jd} {N : Nd} {Γ : Ga} {e : Expr} {W W' R : Ow} {pos : Pos} {own f : Str} {Ss : List (Str × Sl)} {fl : List Str}
/-- x.f = e, e a new thing that takes up the thing of the slot j -/
theorem rs_fldV (i j : Nat) {x : Str} {p' q : Pos} {Ss' : List (Str × Sl)} (O : ClsOk X.K own fl) (he : GoV X Γ e j R) (hΓ : Γ[i]? = some (.ob W)) (hp : Pin (insO own Ss) (insO own Ss') W W') (hij : i ≠ j) (hj : j ∉ J.S) (h : N.nx ((Γ.set i (.ob W')).set j .any)) (hS : putS f (.ob R) Ss = Ss' := by repeat (first | rfl | (unfold putS; first | rw [if_neg (by decide +kernel)] | rw [if_pos rfl]))) (hi : i < Γ.length := by first | decide | exact of_decide_eq_true rfl | (simp only [List.length_set, List.length_cons, List.length_nil]; decide)) (hl : Ss.length < 900 := by first | decide | exact of_decide_eq_true rfl | (simp only [List.length_set, List.length_cons, List.length_nil]; decide)) (hm : f ∈ fl := by first | exact List.mem_cons_self | decide)
    (hN : X.N[i]? = some x := by rfl) (hv : Vis X.env.scope x := by first | exact Or.inl rfl | exact Or.inr (Or.inl rfl) | exact Or.inr (Or.inr rfl)) (hd : (x == ("__debug__" : Str)) = false := by decide) (hcd : (x == ("__classdict__" : Str)) = false := by decide)
    (hs : swapsWith e (some (.Attribute (.Name x p') f q)) pos.line X.env = pure false := by rfl) : RnS X J N Γ (.Assign [.Attribute (.Name x p') f q] e pos) := .mk fun B0 σ B H Fs E j' =>
  toS (ps_fld (pe_var hN hv hd hcd) sE hs) (he.run σ B H Fs E _ fun l G B2 H2 n hG hGn => by
    subst hS
    obtain ⟨u, h1, h2⟩ := (E.nw n).at_ i _ hΓ
    obtain ⟨i1, i2⟩ := hp.inn h2
    obtain ⟨C, a, dx, vs, F', c1, rfl, c3, c4, c5, c6⟩ := i1
    have nG : ∀ b ∈ G, b ∉ Fs i := fun b hb z => by
      rcases (hGn b hb).2 with y | y
      · exact hij (E.dis i j b z y)
      · exact (E.fre i b z).2 y
    have aF : a ∈ Fs i := by rw [c3]; exact List.mem_cons_self
    obtain ⟨F2, g1, g2⟩ := c6.putO (f := f) (W := R) (G := G) hG (fun b hb z => nG b hb (by rw [c3]; exact List.mem_cons_of_mem _ z))
    have m : Mu (Fs i ++ Fs j) B2 H2 B2 (upd H2 a (.ins C dx (putF f l vs))) := ⟨.refl _, fun b o z => by
      have nb : b ≠ a := fun q => by
        have := ((E.nw n).fre i a aF).1
        rw [q, this] at z
        cases z
      rw [upd_ne nb]
      exact n.bh b o z, fun b o z hF => by
      rw [upd_ne (fun q => hF (by rw [q]; exact List.mem_append_left _ aF))]
      exact z, fun b z q => by
      by_cases y : b = a
      · rw [y, upd_same] at q
        cases q
      · rw [upd_ne y] at q
        exact z q, fun _ z _ => z⟩
    have na : a ∉ F2 := fun z => by
      rcases g2 a z with y | y
      · exact nG a y aF
      · exact c4 y
    have mm : Mu (Fs i ++ Fs j) B H B2 (upd H2 a (.ins C dx (putF f l vs))) := n.thenMu m
    have hFF : ∀ b ∈ a :: F2, b ∈ Fs i ∨ b ∈ G := fun b hb => by
      rcases List.mem_cons.mp hb with rfl | hb
      · exact .inl aF
      · rcases g2 b hb with y | y
        · exact .inr y
        · exact .inl (by rw [c3]; exact List.mem_cons_of_mem _ y)
    refine ⟨_, h1, a, C, dx, vs, rfl, c5, O.cl C c1, O.na C f c1 hm, by rw [c6.len]; omega, B2, _, _, E.take mm hij hi h1 (F2 := a :: F2) (i2 _ _ _ ⟨C, a, dx, _, F2, c1, rfl, rfl, na, upd_same, FlO.loc (fun b hb => upd_ne fun z => na (z ▸ hb)) g1⟩) (fun b hb => ?_), j'.take mm hj (fun b hb => ?_), h⟩
    · rcases hFF b hb with y | y
      · exact ⟨((E.nw n).fre i b y).1, .inl y⟩
      · exact ⟨(hGn b y).1, .inr (hGn b y).2⟩
    · rcases hFF b hb with y | y
      · exact .inl y
      · exact .inr (hGn b y).2)
end
/-! ### a tuple: lists of our own, then data -/
def tqO (dss : List (List D)) (d : D) : Ow where
  p := fun K B H v F => ∃ a ps u, v = .ref a ∧ F = a :: ps ∧ H a = some (.tup (ps.map .ref ++ [u])) ∧ F.Nodup ∧ LLs K B H ps dss ∧ Dp K B u d
  upB := fun e ⟨a, ps, u, h1, h2, h3, h4, h5, h6⟩ => ⟨a, ps, u, h1, h2, h3, h4, h5.mono e fun _ _ => rfl, dpUp e h6⟩
  loc := fun e ⟨a, ps, u, h1, h2, h3, h4, h5, h6⟩ => ⟨a, ps, u, h1, h2, (e a (by rw [h2]; exact List.mem_cons_self)).trans h3, h4, h5.mono (.refl _) fun b hb => e b (by rw [h2]; exact List.mem_cons_of_mem _ hb), h6⟩
  dom := fun ⟨a, ps, u, h1, h2, h3, h4, h5, h6⟩ b hb => by
    rw [h2] at hb
    rcases List.mem_cons.mp hb with e | e
    · rw [e, h3]
      exact fun z => nomatch z
    · exact h5.dom b e
structure GoNq (X : Cx) (Γ : Ga) (es : List Expr) (dss : List (List D)) (d : D) : Prop where
  run : ∀ σ B H Fs, En X.K B H σ Γ Fs → ∀ Q : List V → Hp → Prop,
  (∀ ps u B2 H2, Nw B H B2 H2 → (∀ a ∈ ps, H a = none ∧ B2 a = none) → ps.Nodup → LLs X.K B2 H2 ps dss → Dp X.K B2 u d → Q (ps.map .ref ++ [u]) H2) → wpA X es σ H Q
section
variable {X : Cx} {J : Jd} {N : Nd} {Γ : Ga} {e : Expr} {es : List Expr} {pos : Pos} {ds : List D} {dss : List (List D)} {d : D}
end
end PL

set_option maxHeartbeats 2000000
namespace PL
open PySem PySem.Spec PyProof.Rows L2
/-! ### numbers by their places -/
/-- the number with 1 at the places ps -/
def ofP (ps : List Nat) : Nat := (ps.map fun p => 2 ^ p).sum
/-- the places of a number below 2 ^ n -/
def bitsOf (n N : Nat) : List Nat := (List.range n).filter fun p => N.testBit p
end PL

set_option maxHeartbeats 2000000
namespace PL
open PySem PySem.Spec PyProof.Rows L2
/-! ### rows, their digits, their spot -/
def dig (n : Nat) : List Nat := bitsOf 64 n
def xs : List Nat → Nat
  | [] => 0
  | p :: r => p ^^^ xs r
def spN (n : Nat) : Nat := xs (dig n)
/-! ### words -/
def tO (b : Nat) : Nat := if b ≤ 4 then 2 else if b ≤ 11 then 3 else if b ≤ 26 then 4 else 5
def pls (b : Nat) : Nat := b + tO b + 2
def pws (t : Nat) : List Nat := (List.range (t + 1)).map fun k => 2 ^ k
def chks (b : Nat) : List Nat := 0 :: pws (tO b)
def dat (b : Nat) : List Nat := (List.range (pls b)).filter fun p => !(chks b).contains p
def dat_ (b k : Nat) : Nat := (dat b).getD k 0
/-- the checks that bring a spot to nothing -/
def cks (t s : Nat) : List Nat := ((List.range (t + 1)).filter fun k => s.testBit k).map fun k => 2 ^ k
def on1 (b v : Nat) : List Nat := (dig v).map (dat_ b)
def s1 (b v : Nat) : Nat := spN (ofP (on1 b v))
def on2 (b v : Nat) : List Nat := on1 b v ++ cks (tO b) (s1 b v)
def on3 (b v : Nat) : List Nat := on2 b v ++ (if (on2 b v).length % 2 = 1 then [0] else [])
def codeN (b v : Nat) : Nat := ofP (on3 b v)
section
variable {b v : Nat} (h : 4 ≤ b ∧ b ≤ 32) (hv : v < 2 ^ b)
include h hv
end
/-- the value within a row -/
def valN (b row : Nat) : Nat := ofP ((List.range b).filter fun j => row.testBit (dat_ b j))
end PL

set_option maxHeartbeats 2000000
namespace PL
open PySem PySem.Spec PyProof.Rows L2
/-! ### natural numbers as data -/
abbrev nz (l : List Nat) : List Int := l.map fun p => ((p : Nat) : Int)
abbrev nats (l : List Nat) : D := .list ((nz l).map .int)
abbrev nat (n : Nat) : D := .int ((n : Nat) : Int)
/-- the state of a row as it is told -/
def stD (b row : Nat) : D := if (dig row).length % 2 = 1 then (if spN row < pls b then .tuple [.str "one", nat (spN row)] else .tuple [.str "more", .none])
  else (if spN row = 0 then .tuple [.str "clean", .none] else .tuple [.str "more", .none])
def Bt4 (b : Nat) : Prop := 4 ≤ b ∧ b ≤ 32
end PL

set_option maxHeartbeats 4000000
namespace PL
open PySem PySem.Spec PyProof.Rows L2
/-! ### x in ys, of texts -/
theorem hasD_strs (ks : List Str) (x : Str) : hasD (ks.map .str) (.str x) = decide (x ∈ ks) := by
  induction ks with
  | nil => rfl
  | cons k r ih =>
    unfold hasD at ih ⊢
    rw [List.map_cons, List.any_cons, ih, eqv_str]
    by_cases e : k = x
    · subst e
      simp
    · rw [beq_eq_false_iff_ne.mpr e, Bool.false_or]
      refine decide_eq_decide.mpr ⟨List.mem_cons_of_mem _, fun h => ?_⟩
      rcases List.mem_cons.mp h with h | h
      · exact absurd h.symm e
      · exact h
theorem strs_flat (ks : List Str) : (ks.map PyData.str).all flatD = true := List.all_eq_true.mpr fun d hd => by
  obtain ⟨x, _, rfl⟩ := List.mem_map.mp hd
  rfl
def InOk (x y : D) (k : Bool) : Prop := match x, y with
  | .str s, .list ds => ∃ ks : List Str, ds = ks.map .str ∧ k = decide (s ∈ ks)
  | .str s, .tuple ds => ∃ ks : List Str, ds = ks.map .str ∧ k = decide (s ∈ ks)
  | .str s, .str z => ∃ c, s = ⟨#[c]⟩ ∧ k = decide (c ∈ z.cps.toList)
  | _, _ => False
section
variable {X : Cx} {Γ : Ga} {a b : Expr} {x y : D} {k : Bool}
theorem gc_inL {ds : List D} (ha : Go X Γ a x) (hb : Go X Γ b (.list ds)) (h1 : flatD x = true) (h2 : ds.all flatD = true) : GoC X Γ .In a b (hasD ds x) := go_cmp2 op_in_seq ha hb fun v w B H hB r1 r2 Q q => by
  obtain ⟨l, vs, rfl, h3, h4⟩ := dp_lst r2
  obtain ⟨e1, e2⟩ := flat_in r1 h1 h4 h2
  refine ⟨l, vs, rfl, .inl (hB.sl h3), flat_v r1 h1, e2, ?_⟩
  rw [e1]
  exact q
theorem gc_ninL {ds : List D} (ha : Go X Γ a x) (hb : Go X Γ b (.list ds)) (h1 : flatD x = true) (h2 : ds.all flatD = true) : GoC X Γ .NotIn a b (!hasD ds x) := go_cmp2 op_notIn_seq ha hb fun v w B H hB r1 r2 Q q => by
  obtain ⟨l, vs, rfl, h3, h4⟩ := dp_lst r2
  obtain ⟨e1, e2⟩ := flat_in r1 h1 h4 h2
  refine ⟨l, vs, rfl, .inl (hB.sl h3), flat_v r1 h1, e2, ?_⟩
  rw [e1]
  exact q
theorem gx_in (ha : Go X Γ a x) (hb : Go X Γ b y) (h : InOk x y k := by exact ⟨_, rfl, rfl⟩) : GoC X Γ .In a b k := by
  cases x <;> cases y <;> (try exact h.elim)
  · obtain ⟨c, rfl, rfl⟩ := h
    exact gc_inSign ha hb
  · obtain ⟨ks, rfl, rfl⟩ := h
    rw [← hasD_strs]
    exact gc_inL ha hb rfl (strs_flat _)
  · obtain ⟨ks, rfl, rfl⟩ := h
    rw [← hasD_strs]
    exact gc_inT ha hb rfl (strs_flat _)
theorem gx_nin (ha : Go X Γ a x) (hb : Go X Γ b y) (h : InOk x y k := by exact ⟨_, rfl, rfl⟩) (hl : ∀ z, y ≠ .str z := by exact fun _ h => nomatch h) : GoC X Γ .NotIn a b (!k) := by
  cases x <;> cases y <;> (try exact h.elim)
  · exact absurd rfl (hl _)
  · obtain ⟨ks, rfl, rfl⟩ := h
    rw [← hasD_strs]
    exact gc_ninL ha hb rfl (strs_flat _)
  · obtain ⟨ks, rfl, rfl⟩ := h
    rw [← hasD_strs]
    exact gc_notInT ha hb rfl (strs_flat _)
end
section
variable {X : Cx} {Γ : Ga} {a : Expr} {x : D} {xs : List Str} {p p2 q pos : Pos}
theorem gx_lenSet (hc : X.calm = true) (hm : X.mg "len" = none) (hm2 : X.mg "set" = none) (ha : Go X Γ a x) (hs : SeqOk x (xs.map .str) := by exact rfl) (hl : xs.length < 4000 := by walk_at "pside") (hg : Gl X "len" := by rfl) (hg2 : Gl X "set" := by rfl)
    (na : starEach [a] X.env = (false, eval a X.env) :: starEach [] X.env := by rfl) : Go X Γ (.Call (.Name "len" p) [.Call (.Name "set" p2) [a] [] q] [] pos) (.int (dif xs).length) := go_lenSetS hc hm hm2 ha hs hl hg hg2 na
theorem gx_sort (hu : UOk X) (hm : X.mg "sorted" = none) (ha : Go X Γ a x) (hs : SeqOk x (xs.map .str) := by exact rfl) (hl : xs.length ≤ 1000000 := by walk_at "pside") (hg : Gl X "sorted" := by rfl) (he : starEach [a] X.env = (false, eval a X.env) :: starEach [] X.env := by rfl) :
    GoN X Γ (.Call (.Name "sorted" p) [a] [] pos) ((sortS xs).map .str) := goN_sortS hu hm ha hs hl hg he
theorem gx_sortSet (hu : UOk X) (hc : X.calm = true) (hm : X.mg "sorted" = none) (hm2 : X.mg "set" = none) (ha : Go X Γ a x) (hs : SeqOk x (xs.map .str) := by exact rfl) (hl : xs.length < 4000 := by walk_at "pside") (hg : Gl X "sorted" := by rfl) (hg2 : Gl X "set" := by rfl)
    (na : starEach [a] X.env = (false, eval a X.env) :: starEach [] X.env := by rfl) : GoN X Γ (.Call (.Name "sorted" p) [.Call (.Name "set" p2) [a] [] q] [] pos) ((sortS (dif xs)).map .str) := goN_sortSetS hu hc hm hm2 ha hs hl hg hg2 na
end
/-! ### names, lots -/
def letS : Str := "abcdefghijklmnopqrstuvwxyz0123456789"
def isNmB (x : Str) : Bool := (decide ((1 : Int) ≤ (x.length : Int)) && decide ((x.length : Int) ≤ 12)) && x.cps.toList.all fun c => decide (c ∈ letS.cps.toList)
def eL (l : List Str) : D := .tuple (l.map .str)
def eO : Option Str → D
  | none => .none
  | some x => .str x
def risB (l : List Str) : Bool := (List.range (l.length - 1)).all fun k => ltS (l.getD k ⟨#[]⟩) (l.getD (k + 1) ⟨#[]⟩)
def isLotB (l : List Str) : Bool := l.all isNmB && risB l
def inB (l ks : List Str) : Bool := l.all fun x => decide (x ∈ ks)
def lotOfB (l ks : List Str) : Bool := isLotB l && inB l ks
def turnB (on off hs : List Str) : Bool := lotOfB on hs && (lotOfB off hs && !(on.any fun x => decide (x ∈ off)))
theorem ris_iff {l : List Str} : risB l = true ↔ l.Pairwise fun a b => ltS a b = true := by
  have trans : ∀ {a b c : Str}, ltS a b = true → ltS b c = true → ltS a c = true := fun {a b c} h1 h2 => by
    obtain ⟨p1, q1⟩ := ltS_iff.mp h1
    obtain ⟨p2, q2⟩ := ltS_iff.mp h2
    refine ltS_iff.mpr ⟨leS_trans _ _ _ p1 p2, fun e => ?_⟩
    subst e
    exact q1 (leS_anti p1 p2)
  have key : (∀ k, k + 1 < l.length → ltS (l.getD k ⟨#[]⟩) (l.getD (k + 1) ⟨#[]⟩) = true) ↔ l.Pairwise fun a b => ltS a b = true := by
    induction l with
    | nil => exact ⟨fun _ => .nil, fun _ k h => absurd h (by simp)⟩
    | cons x r ih =>
      constructor
      · intro h
        have hr := ih.mp fun k hk => by
          have := h (k + 1) (by rw [List.length_cons]; omega)
          simpa using this
        refine List.pairwise_cons.mpr ⟨fun y hy => ?_, hr⟩
        cases r with
        | nil => cases hy
        | cons z r' =>
          have h0 : ltS x z = true := by
            have := h 0 (by simp)
            simpa using this
          rcases List.mem_cons.mp hy with e | e
          · rw [e]
            exact h0
          · exact trans h0 ((List.pairwise_cons.mp hr).1 y e)
      · intro h k hk
        obtain ⟨h1, h2⟩ := List.pairwise_cons.mp h
        cases k with
        | zero =>
          cases r with
          | nil => simp at hk
          | cons z r' => simpa using h1 z List.mem_cons_self
        | succ k =>
          have := ih.mpr h2 k (by rw [List.length_cons] at hk; omega)
          simpa using this
  rw [← key]
  unfold risB
  rw [List.all_eq_true]
  exact ⟨fun h k hk => h k (List.mem_range.mpr (by omega)), fun h k hk => h k (by have := List.mem_range.mp hk; omega)⟩
/-! ### books -/
structure Md where
  n : Str
  on : List Str
  off : List Str
structure Cm where
  n : Str
  ms : List Str
  on : List Str
  off : List Str
  to : Option Str
structure Al where
  n : Str
  on : List Str
  off : List Str
  to : Option Str
structure Rw where
  n : Str
  st : List (Int × Str)
structure Bk where
  holds : List Str
  modes : List Md
  barred : List (List Str)
  cmds : List Cm
  alarms : List Al
  rows : List Rw
  quiet : Option Int
def eM (m : Md) : D := .tuple [.str m.n, eL m.on, eL m.off]
def eC (c : Cm) : D := .tuple [.str c.n, eL c.ms, eL c.on, eL c.off, eO c.to]
def eA (a : Al) : D := .tuple [.str a.n, eL a.on, eL a.off, eO a.to]
def eSt (s : Int × Str) : D := .tuple [.int s.1, .str s.2]
def eR (r : Rw) : D := .tuple [.str r.n, .tuple (r.st.map eSt)]
def eQ : Option Int → D
  | none => .none
  | some q => .int q
/-- what names must be -/
structure NmsOk (l : List Str) (lo hi : Nat) : Prop where
  lo : lo ≤ l.length
  hi : l.length ≤ hi
  nm : ∀ x ∈ l, isNmB x = true
  nd : l.Nodup
def toOk (to : Option Str) (ms : List Str) : Prop := ∀ x, to = some x → x ∈ ms
abbrev Bk.mn (b : Bk) : List Str := b.modes.map Md.n
abbrev Bk.cn (b : Bk) : List Str := b.cmds.map Cm.n
abbrev Bk.an (b : Bk) : List Str := b.alarms.map Al.n
abbrev Bk.rn (b : Bk) : List Str := b.rows.map Rw.n
structure BkOk (b : Bk) : Prop where
  h : NmsOk b.holds 1 6
  m : NmsOk b.mn 1 5
  c : NmsOk b.cn 0 8
  a : NmsOk b.an 0 4
  r : NmsOk b.rn 0 3
  mT : ∀ m ∈ b.modes, turnB m.on m.off b.holds = true
  cM : ∀ c ∈ b.cmds, lotOfB c.ms b.mn = true
  cE : ∀ c ∈ b.cmds, turnB c.on c.off b.holds = true ∧ toOk c.to b.mn
  aE : ∀ a ∈ b.alarms, turnB a.on a.off b.holds = true ∧ toOk a.to b.mn
  rS : ∀ r ∈ b.rows, 1 ≤ r.st.length ∧ r.st.length ≤ 4 ∧ ∀ s ∈ r.st, 1 ≤ s.1 ∧ s.1 ≤ 9 ∧ s.2 ∈ b.cn
  q : ∀ q, b.quiet = some q → 1 ≤ q ∧ q ≤ 30
  b1 : b.barred.length ≤ 8
  b2 : b.barred.Nodup
  b3 : ∀ l ∈ b.barred, 2 ≤ l.length ∧ lotOfB l b.holds = true
theorem nm_len {x : Str} (h : isNmB x = true) : 1 ≤ x.length ∧ x.length ≤ 12 := by
  unfold isNmB at h
  rw [Bool.and_eq_true, Bool.and_eq_true, decide_eq_true_iff, decide_eq_true_iff] at h
  omega
theorem nm_ok {x : Str} (h : isNmB x = true) : PyData.strOk x = true := by
  unfold isNmB at h
  rw [Bool.and_eq_true] at h
  have h2 := List.all_eq_true.mp h.2
  unfold PyData.strOk
  rw [Array.all_eq_true']
  intro c hc
  have hm := of_decide_eq_true (h2 c (Array.mem_toList_iff.mpr hc))
  have hall : letS.cps.toList.all (fun c => decide (c < 0x110000)) = true := by decide +kernel
  exact List.all_eq_true.mp hall c hm
theorem shp_nm {x : Str} (h : isNmB x = true) (n : Nat) : Shp n (.str x) := ⟨nm_ok h, Nat.zero_le _⟩
theorem lot_nm {l : List Str} (h : isLotB l = true) : ∀ x ∈ l, isNmB x = true := by
  unfold isLotB at h
  rw [Bool.and_eq_true] at h
  exact fun x hx => List.all_eq_true.mp h.1 x hx
theorem lot_pw {l : List Str} (h : isLotB l = true) : l.Pairwise fun a b => ltS a b = true := by
  unfold isLotB at h
  rw [Bool.and_eq_true] at h
  exact ris_iff.mp h.2
theorem lot_nd {l : List Str} (h : isLotB l = true) : l.Nodup := (lot_pw h).imp fun h => (ltS_iff.mp h).2
theorem lot_sort {l : List Str} (h : isLotB l = true) : sortS l = l := sortS_self ((lot_pw h).imp fun h => (ltS_iff.mp h).1)
theorem lotOf {l ks : List Str} (h : lotOfB l ks = true) : isLotB l = true ∧ ∀ x ∈ l, x ∈ ks := by
  unfold lotOfB inB at h
  rw [Bool.and_eq_true] at h
  exact ⟨h.1, fun x hx => of_decide_eq_true (List.all_eq_true.mp h.2 x hx)⟩
theorem turn_of {on off hs : List Str} (h : turnB on off hs = true) : lotOfB on hs = true ∧ lotOfB off hs = true ∧ ∀ x ∈ on, x ∉ off := by
  unfold turnB at h
  rw [Bool.and_eq_true, Bool.and_eq_true, Bool.not_eq_true'] at h
  refine ⟨h.1, h.2.1, fun x hx hy => ?_⟩
  have := List.any_eq_false.mp h.2.2 x hx
  exact this (decide_eq_true hy)
theorem nodup_len {l m : List Str} (h : l.Nodup) (hs : ∀ x ∈ l, x ∈ m) : l.length ≤ m.length := by
  rcases Nat.lt_or_ge l.length m.length with q | q
  · omega
  · exact Nat.le_of_eq (sub_perm h hs q).length_eq
end PL
namespace PL
open PySem PySem.Spec PyProof.Rows L2
/-! ### what the class Book asks -/
theorem atI_head {d : D} {ds : List D} : atI (d :: ds) 0 = some d := atI_get' (k := 0) rfl rfl
theorem allT {l : List D} (h : ∀ d ∈ l, d = .bool true) : l.all truB = true := List.all_eq_true.mpr fun d hd => by
  rw [h d hd]
  rfl
theorem boolsT {l : List D} (h : ∀ d ∈ l, d = .bool true) : IsBools l := fun d hd => ⟨true, h d hd⟩
theorem mapT {α : Type} {xs : List α} {f : α → Bool} (h : ∀ x ∈ xs, f x = true) : ((xs.map fun x => PyData.bool (f x)).all truB) = true := allT fun d hd => by
  obtain ⟨x, hx, rfl⟩ := List.mem_map.mp hd
  rw [h x hx]
def Bk.cmdsS (b : Bk) : List Cm := b.cmds.mergeSort fun x y => leS x.n y.n
def Bk.partsL (b : Bk) : List (Str × List D) := [("mode", b.modes.map eM), ("command", b.cmdsS.map eC), ("alarm", b.alarms.map eA), ("row", b.rows.map eR)]
def Bk.parts (b : Bk) : List (Str × D) := [("mode", .list (b.modes.map eM)), ("command", .list (b.cmdsS.map eC)), ("alarm", .list (b.alarms.map eA)), ("row", .list (b.rows.map eR))]
def bookO (b : Bk) : Ow := insO "Book" [("_holds", .own ((sortS b.holds).map .str)), ("_barred", .own (srt (b.barred.map eL))), ("_parts", .ob (dclO b.partsL)), ("_quiet", .dat (eQ b.quiet))]
def bookP (b : Bk) : Mn := insP "Book" [("_holds", datP (.list ((sortS b.holds).map .str))), ("_barred", datP (.list (srt (b.barred.map eL)))), ("_parts", dctP b.parts), ("_quiet", datP (eQ b.quiet))]
theorem fz_book (b : Bk) : FzM (bookO b) (bookP b) := fz_ins (.ob (fzM_of (fz_lst _)) (.ob (fzM_of (fz_lst _)) (.ob (fz_dcl b.partsL) (.pr .nil))))
theorem cmds_n (b : Bk) : b.cmdsS.map Cm.n = sortS b.cn := (merge_map Cm.n (le := leS) (le' := fun x y : Cm => leS x.n y.n) (fun _ _ => rfl) b.cmds).symm
theorem cmds_perm (b : Bk) : b.cmdsS.Perm b.cmds := List.mergeSort_perm _ _
/-- the lengths of names in lots -/
def LotS (l : List Str) : Prop := l.length ≤ 1000 ∧ ∀ x ∈ l, x.length ≤ 1000
theorem lotS_of {l ks : List Str} (h : lotOfB l ks = true) (hk : ks.length ≤ 1000) : LotS l := by
  obtain ⟨h1, h2⟩ := lotOf h
  have := nodup_len (lot_nd h1) h2
  exact ⟨by omega, fun x hx => by have := nm_len (lot_nm h1 x hx); omega⟩
theorem turnS {on off hs : List Str} (h : turnB on off hs = true) (hk : hs.length ≤ 1000) : LotS on ∧ LotS off := by
  obtain ⟨h1, h2, _⟩ := turn_of h
  exact ⟨lotS_of h1 hk, lotS_of h2 hk⟩
theorem goP_is {X : Cx} {Γ : Ga} {e : Expr} {P P' : Mn} (h : GoP X Γ e P) (he : P = P') : GoP X Γ e P' := he ▸ h
end PL

set_option maxHeartbeats 2000000
namespace PL
open PySem PySem.Spec PyProof.Rows L2
theorem goi_is {X : Cx} {Γ : Ga} {tg it : Expr} {ds ds' : List D} (h : GoI X Γ tg it ds) (e : ds = ds') : GoI X Γ tg it ds' := e ▸ h
/-- the part of the ones that the first k digits bring -/
def onK (b v k : Nat) : List Nat := ((List.range k).filter fun j => v.testBit j).map (dat_ b)
end PL

set_option maxHeartbeats 2000000
namespace PL
open PySem PySem.Spec PyProof.Rows L2 PySem.Calls PySem.W
/-! ### shapes -/
theorem Shp.str {x : Str} (n : Nat) (h : PyData.strOk x = true := by decide +kernel) : Shp n (.str x) := ⟨h, Nat.zero_le _⟩
theorem Shp.tints (ns : List Int) (n : Nat) : Shp (n + 1) (.tuple (ns.map .int)) := Shp.tup fun d hd => by
  obtain ⟨i, _, rfl⟩ := List.mem_map.mp hd
  exact Shp.int i n
theorem ShpA.nil {n : Nat} : ∀ d ∈ ([] : List D), Shp n d := fun d h => nomatch h
theorem ShpA.cons {n : Nat} {d : D} {ds : List D} (h : Shp n d) (t : ∀ x ∈ ds, Shp n x) : ∀ x ∈ d :: ds, Shp n x := fun x hx => by
  rcases List.mem_cons.mp hx with rfl | hx
  · exact h
  · exact t x hx
/-! ### sum and min of a tuple of ints; a tuple's slice -/
def rSumT (K : PySem.W.Frag) : List V → Hp → VK → Prop := fun vs H Q => ∃ (a : Addr) (ns : List Int), vs = [V.ref a] ∧ SqT K H a (ns.map V.int) ∧ Q (.int ns.sum) H
def rMinT (K : PySem.W.Frag) : List V → Hp → VK → Prop := fun vs H Q => ∃ (a : Addr) (n : Int) (ns : List Int), vs = [V.ref a] ∧ SqT K H a ((n :: ns).map V.int) ∧ Q (.int (ns.foldl min n)) H
section
variable {X : Cx} {Γ : Ga} {a : Expr} {p pos : Pos}
theorem slD_whole {ds : List D} {lo hi : Option Int} (hw : HT.sIx ds.length 0 lo = 0 ∧ HT.sIx ds.length ds.length hi = ds.length) : slD ds lo hi = ds := by
  unfold slD
  rw [hw.1, hw.2, List.drop_zero, Nat.sub_zero, List.take_length]
theorem go_slT {ds : List D} {lo hi : Option Expr} {x y : Option Int} {p2 : Pos} (ha : Go X Γ a (.tuple ds)) (hl : GoO X Γ lo x) (hh : GoO X Γ hi y) : Go X Γ (.Subscript a (.Slice lo hi none p2) pos) (.tuple (slD ds x y)) := .mk fun σ B H Fs E Q q =>
  toE (pe_slice sl_tupA sE sO sO) (ha σ B H Fs E _ fun v B1 H1 n1 r1 => goO_run hl (E.nw n1) fun B2 H2 n2 => goO_run hh ((E.nw n1).nw n2) fun B3 H3 n3 => by
    have r3 := dpUp (n2.bb.trans n3.bb) r1
    obtain ⟨p, vs, e1, e2, e3⟩ := dp_tup r3
    have n := (n1.trans n2).trans n3
    subst e1
    refine ⟨p, vs, rfl, n3.bh.st e2, fun hw => ?_, fun hw l hl => ?_⟩
    · rw [dps_len e3] at hw
      rw [slD_whole hw] at q
      exact q _ B3 H3 n r3
    · have m := Nw.new (o := .tup (cutV vs x y)) n.bh hl
      exact q _ _ _ (n.trans m) (Dp.tup (.of upd_same) (dpsUp m.bb (dps_cut e3 x y))))
end
end PL

set_option maxHeartbeats 4000000
namespace PL
open PySem PySem.Spec PyProof.Rows L2
/-- what isinstance tells of an error of the class x: it stands under y and under ValueError -/
structure IsE0 (K : PySem.W.Frag) (mg : Str → Option Value) (x y : Str) : Prop where
  ex : ∃ C CF, ClsAt K x C ∧ ExcC K C ∧ mg y = some (.ref CF) ∧ PySem.W.kitOne K (.ref C) (.ref CF) = some true ∧ PySem.W.kitOne K (.ref C) (.type "ValueError") = some true ∧ mg "ValueError" = none
section
variable {X : Cx} {Γ : Ga} {a : Expr} {ds : List D} {pos p p2 : Pos} {A C : Addr} {oe : Obj} {pn : List (Addr × Obj)} {x y : Str}
end
end PL
namespace PL
open PySem PySem.Spec PyProof.Rows L2
section
variable {X : Cx} {Wx : WX} {Γ : Ga} {e : Expr} {es : List Expr} {r : Er} {pos : Pos}
end
end PL

set_option maxHeartbeats 4000000
namespace PL
open PySem PySem.Spec PyProof.Rows L2
/-! ### properties that hand back a new thing -/
structure CalPU (P : Program) (w : World) (K : PySem.W.Frag) (mg : Str → Option Value) (base : Heap) (own m : Str) (ps : List Str) (k : Nat) (S : List Mn → Ow → Prop) : Prop where
  ex : ∃ C p g fd, ClsAt K own C ∧ Cls K C ∧ PropOf K C m p g ∧ FnOk P w K mg base CX0 k g fd ps (spSU K S) ∧ Binds K fd ps []
section
variable {P : Program} {w : World} {K : PySem.W.Frag} {mg : Str → Option Value} {base : Heap}
theorem mPU_ok {own m qual : Str} {st : Stmt} {L ps : List Str} {k : Nat} {S : List Mn → Ow → Prop} (Mt : MtdP K own m qual st ps) (Sc : FnScope L ps (defScope st)) (hl : ∀ Ps R, S Ps R → Ps.length = ps.length)
    (body : ∀ Ps R, S Ps R → ∀ (f : Addr) (cdv : Value) (A : Around) (outer : List Env) (s : Shared) (H : Hp) (E : XK), Room k (A.deeper (envOfC qual (defScope st) s.heap.objs.size f cdv)) → ∀ J : Jd, J.S = [] →
      Rn (cxOf CX0 P w K mg base L qual (defScope st) f cdv A outer s H E).nox J { nx := fun _ => False, rt := datP .none, rn := some R } (entry Ps L.length) (defBody st)) : CalPU P w K mg base own m ps (k + 1) S := by
  obtain ⟨C, p, g, fd, h1, h2, h3, F, b⟩ := Mt.ex
  refine ⟨C, p, g, fd, h1, h2, h3, F.ok Sc (fun vs H Q E h => ?_) fun cdv A outer s H vs Q E hr h => ?_, b⟩
  · obtain ⟨Ps, R, B, hS, _, h, _⟩ := h
    rw [mn_len h, hl _ _ hS]
  · obtain ⟨Ps, R, B, hS, hB, hv, q⟩ := h
    refine ⟨_, sSs, wpSs_mono (body Ps R hS g cdv A outer s H E hr ⟨H, [], []⟩ rfl B (L2.start L vs) B H (fun _ => []) (en_entry hB hv) jn_entry) ?_ ?_ ?_ ?_⟩
    · exact fun σ' H' ⟨B', Γ', Fs', e, j, n⟩ => n.elim
    · exact fun v H' ⟨σ', B', Γ', Fs', e, j, _, F, r1, r2, _⟩ => q v F B' H' ⟨j.b0, e.bh, fun a o h => j.h0 a o h (by simp), fun a h1 h2 => by
        cases r : B' a with
        | none => rfl
        | some o => exact absurd (j.nb a (by rw [r]; exact fun z => nomatch z) h1) h2⟩ r1 r2
    · exact fun σ' H' ⟨B', Γ', Fs', e, j, n⟩ => n.elim
    · exact fun σ' H' ⟨B', Γ', Fs', e, j, n⟩ => n.elim
end
section
variable {X : Cx} {J : Jd} {N : Nd} {Γ : Ga} {o e a : Expr} {es : List Expr} {P R : Mn} {W : Ow} {d : D} {ds : List D} {pos apos p : Pos} {own m : Str} {ps : List Str} {j k : Nat} {Ps : List (Str × Mn)} {Wx : WX} {r : Er}
theorem goU_prop {S : List Mn → Ow → Prop} (C : CalPU X.prog X.w X.K X.mg X.base own m ps k S) (hr : Room j X.A) (hk : k + 1 ≤ j) (ho : GoP X Γ o (insP own Ps)) (hS : S [insP own Ps] W := by walk_at "pS") (hb : attributeBase o m X.env (eval o X.env) = eval o X.env := by rfl) : GoU X Γ (.Attribute o m pos) W := .mk fun σ B H Fs E Q q => by
  obtain ⟨C, pr, g, fd, h1, h2, h3, F, b⟩ := C.ex
  refine toE (pe_prop sE h2 h3 F (hr.mono hk) b .nil pass0 hb) (ho σ B H Fs E _ fun v B1 H1 n1 r1 => ?_)
  obtain ⟨C', a, dx, vs, e1, rfl, e3, e4⟩ := id r1
  cases h1.eq e1
  exact ⟨a, dx, vs, rfl, n1.bh _ _ e3, [insP own Ps], W, B1, hS, n1.bh, .cons r1 .nil, fun v F B3 H3 n3 r3 r4 => q v F B3 H3 (n1.trans n3) r3 fun a ha => ⟨n1.hh.none (r4 a ha).1, (r4 a ha).2⟩⟩
/-! ### try: one statement that raises an error with a field; behind it the def goes on -/
end
end PL

set_option maxHeartbeats 4000000
/-! sets of keys of any kind that are objects (tuples of texts and the like), fewer than 64, told by their members -/
namespace PL
open PySem PySem.Spec PyProof.Rows L2
/-- a kind of keys that are objects: what a set asks of them -/
structure KD (P : Program) (w : World) (κ : Type) [DecidableEq κ] where
  is : Heap → κ → Addr → Prop
  hash : κ → Int
  draws : κ → Nat
  mv : ∀ {h h' : Heap} {k : κ} {b : Addr}, is h k b → (∀ o, h.get? b = some o → h'.get? b = some o) → is h' k b
  noSet : ∀ {h : Heap} {k : κ} {b : Addr} {o : Obj} {es : Array (Int × Value)} {ep : Nat} {t : SetTable}, is h k b → h.get? b = some o → o.data = .set es ep t → False
  eqb : ∀ {A : Around} {E : Value → Shared → Prop} {s : Shared} {x y : κ} {b c : Addr} {Q : Bool → Shared → Prop}, A.units + 8 < cLine → is s.heap x b → is s.heap y c → Q (decide (x = y)) s → wpAny (model P w) A (eqBool (.ref b) (.ref c)) Q E s
  hsh : ∀ {A : Around} {E : Value → Shared → Prop} {s : Shared} {x : κ} {b : Addr} {Q : Int → Shared → Prop}, A.units + 8 < cLine → is s.heap x b → Q (hash x) { s with toks := s.toks + draws x } → wpAny (model P w) A (pyHash (.ref b)) Q E s
  quiet : ∀ {A : Around} {E : Value → Shared → Prop} {s : Shared} {x : κ} {b : Addr} {Q : Bool → Shared → Prop}, is s.heap x b → Q true s → wpAny (model P w) A (eqIsQuiet 8 (.ref b)) Q E s
  ofc : ∀ {A : Around} {E : Value → Shared → Prop} {s : Shared} {x : κ} {b : Addr} {Q : Bool → Shared → Prop}, is s.heap x b → Q false s → wpAny (model P w) A (ofAClassStatement 8 (.ref b)) Q E s
  hby : ∀ {A : Around} {E : Value → Shared → Prop} {s : Shared} {x : κ} {b : Addr} {Q : Bool → Shared → Prop}, is s.heap x b → (∀ v, Q v s) → wpAny (model P w) A (hashByValue 8 (.ref b)) Q E s
section
variable {P : Program} {w : World} {κ : Type} [DecidableEq κ] {D : KD P w κ} {A : Around} {E : Value → Shared → Prop} {s : Shared}
/-- the rows of the table -/
def rwG (D : KD P w κ) (l : List (Addr × κ)) : List (Int × Value) := l.map fun e => (D.hash e.2, .ref e.1)
theorem rwG_len (D : KD P w κ) (l : List (Addr × κ)) : (rwG D l).length = l.length := List.length_map _
theorem rwG_get (D : KD P w κ) {l : List (Addr × κ)} {i : Nat} {e : Addr × κ} (h : l[i]? = some e) : (rwG D l)[i]? = some (D.hash e.2, .ref e.1) := by
  unfold rwG
  rw [List.getElem?_map, h]
  rfl
structure SetG (D : KD P w κ) (h : Heap) (a : Addr) (l : List (Addr × κ)) (o : Obj) (es : Array (Int × Value)) (ep : Nat) (t : SetTable) : Prop where
  get : h.get? a = some o
  ex : o.ExactSet
  dat : o.data = .set es ep t
  rows : es.toList = rwG D l
  tab : TabOk t (l.map fun e => D.hash e.2)
  nd : (l.map (·.2)).Nodup
  keys : ∀ e ∈ l, D.is h e.2 e.1
  led : w.params.followText "set-order" = true ∨ t.led = true
  room : l.length * 5 < t.mask * 3
  few : l.length < 64
/-- a search shows nothing -/
theorem seenG {x : κ} {b : Addr} {Q : Bool → Shared → Prop} (hx : D.is s.heap x b) {ys : List Value} (hy : ∀ y ∈ ys, ∃ z c, y = Value.ref c ∧ D.is s.heap z c) (h : Q false s) :
    wpAny (model P w) A (searchCouldBeSeen (.ref b) ys) Q E s := by
  unfold searchCouldBeSeen
  refine wpAny_bind (wpAny_forIn_list _ (fun rest r s1 => r.1 = none ∧ s1 = s ∧ ∀ y ∈ rest, ∃ z c, y = Value.ref c ∧ D.is s.heap z c) _ ?_ ?_ _ _ ⟨rfl, rfl, hy⟩)
  · rintro v rest r s1 ⟨e1, rfl, all⟩
    obtain ⟨z, c, rfl, hz⟩ := all v List.mem_cons_self
    have more := fun u hu => all u (List.mem_cons_of_mem _ hu)
    dsimp only
    by_cases c0 : (b == c || (carriedByValue (.ref b) && carriedByValue (.ref c))) = true
    · exact wp_if_pos c0 (wpAny_pure ⟨rfl, rfl, more⟩)
    · refine wp_if_neg c0 (wpAny_bind (D.quiet hx ?_))
      simp only [Bool.not_true, Bool.false_eq_true, if_false]
      refine wpAny_bind (D.quiet hz ?_)
      simp only [Bool.not_true, Bool.false_eq_true, if_false]
      refine wpAny_bind (D.ofc hx ?_)
      simp only [Bool.false_eq_true, if_false]
      refine wpAny_bind (D.ofc hz ?_)
      simp only [Bool.false_eq_true, if_false]
      exact wpAny_pure ⟨rfl, rfl, more⟩
  · rintro ⟨r1, r2⟩ s1 ⟨e1, rfl, _⟩
    simp only at e1
    subst e1
    exact wpAny_pure h
variable {a : Addr} {l : List (Addr × κ)} {o : Obj} {es : Array (Int × Value)} {ep : Nat} {t : SetTable}
theorem SetG.size {h : Heap} (R : SetG D h a l o es ep t) : es.size = l.length := by rw [← rwG_len D l, ← R.rows, Array.length_toList]
theorem SetG.tsize {h : Heap} (R : SetG D h a l o es ep t) : t.place.size = l.length := by
  have := R.tab.sz
  rwa [List.length_map] at this
theorem SetG.ent {h : Heap} (R : SetG D h a l o es ep t) {i : Nat} {e : Addr × κ} (hi : l[i]? = some e) : es[i]? = some (D.hash e.2, .ref e.1) := by
  rw [← Array.getElem?_toList, R.rows]
  exact rwG_get D hi
theorem SetG.fit {h : Heap} (R : SetG D h a l o es ep t) : t.fits es.size = true := by
  have h1 := R.tsize
  have h2 := R.size
  have h3 := R.room
  unfold SetTable.fits SetTable.fill
  rw [R.tab.dm, Bool.and_eq_true, beq_iff_eq, decide_eq_true_eq]
  exact ⟨by omega, by show t.place.size + 0 ≤ t.mask; omega⟩
/-- the probe at the c-th step -/
abbrev stp (t : SetTable) (z : Int) (c : Nat) : SetTable.Probe := L2.nth t.mask (runAt t.mask (SetTable.bits z % (t.mask + 1)) (SetTable.bits z)) c
theorem stp_dummy (t : SetTable) (z : Int) (c : Nat) : (stp t z c).dummy = none := by
  have all : ∀ (n : Nat) (p : SetTable.Probe), p.dummy = none → (L2.nth t.mask p n).dummy = none := by
    intro n
    induction n with
    | zero => exact fun p h => h
    | succ n ih =>
      intro p h
      refine ih (adv t.mask p) ?_
      unfold adv
      split <;> exact h
  exact all c _ rfl
theorem stp_add (t : SetTable) (z : Int) (c q : Nat) : L2.nth t.mask (stp t z c) q = stp t z (c + q) := (nth_add t.mask c _ q).symm
/-- the search from the c-th step on -/
theorem searchG (R : SetG D s.heap a l o es ep t) {x : Addr} {k : κ} (hx : D.is s.heap k x) (hu : A.units + 8 < cLine) {K : Nat} (hKf : K < 10 * SetTable.turns t.mask) (hK : way t.mask (D.hash k) K ∉ t.place.toList)
    (hKb : ∀ c, c < K → way t.mask (D.hash k) c ∈ t.place.toList) {Q : SetFound → Shared → Prop} (hin : k ∈ l.map (·.2) → Q (.there none) s) (hout : k ∉ l.map (·.2) → Q (.free (way t.mask (D.hash k) K) false) s) :
    ∀ (f c : Nat) (st : Option SetTable.Probe), st.getD (t.probeStart (D.hash k)) = stp t (D.hash k) c → c ≤ K → K - c < f → (∀ (i : Nat) e, l[i]? = some e → e.2 = k → ∃ c1, c ≤ c1 ∧ c1 < K ∧ t.place.toList[i]? = some (way t.mask (D.hash k) c1)) →
      wpAny (model P w) A (setSearchFrom a (.ref x) (D.hash k) true f st) Q E s := by
  have odd : ¬ t.gaveWay = true := by
    unfold SetTable.gaveWay
    rw [mask_odd R.tab.mok]
    decide
  intro f
  induction f with
  | zero => exact fun c st _ _ hf => absurd hf (Nat.not_lt_zero _)
  | succ f ih =>
    intro c st hst hc hf hre
    rw [setSearchFrom_succ]
    refine wpAny_bind (wpAny_setState_of R.get R.dat R.fit ?_)
    dsimp only
    refine wp_if_neg odd ?_
    try refine wpAny_bind (wpAny_pure ?_)
    have ej : ∀ q, (L2.nth t.mask (stp t (D.hash k) c) q).j = way t.mask (D.hash k) (c + q) := fun q => congrArg SetTable.Probe.j (stp_add t _ c q)
    have hat : ∀ (i : Nat) e, l[i]? = some e → (fun i => (es[i]?.map (·.1)).getD 0) i = D.hash e.2 := fun i e he => by
      show (es[i]?.map (·.1)).getD 0 = _
      rw [R.ent he]
      rfl
    have bck : c + (K - c) = K := by omega
    have sp := go_spec t R.tab.ris R.tab.dm (fun i => (es[i]?.map (·.1)).getD 0) (D.hash k) (10 * SetTable.turns t.mask) (K - c) (stp t (D.hash k) c) (stp_dummy t _ c) (by omega) (fun q hq => by rw [ej]; exact hKb _ (by omega)) (by rw [ej, bck]; exact hK)
    rcases sp with ⟨q, i, hq, hi, hh, hno, hp⟩ | ⟨hno, hp⟩
    · rw [ej] at hi
      have hp2 : t.probe (fun i => (es[i]?.map (·.1)).getD 0) (D.hash k) (st.getD (t.probeStart (D.hash k))) = some (.candidate (way t.mask (D.hash k) (c + q)) i (stp t (D.hash k) (c + (q + 1)))) := by
        rw [hst, ← ej, ← stp_add]
        exact hp
      rw [hp2]
      dsimp only
      have hil : i < l.length := by
        have h1 := (List.getElem?_eq_some_iff.mp hi).1
        rw [Array.length_toList, R.tsize] at h1
        exact h1
      obtain ⟨e, he⟩ : ∃ e, l[i]? = some e := ⟨_, List.getElem?_eq_getElem hil⟩
      have hem := List.mem_of_getElem? he
      have hek := R.keys e hem
      have live : t.slot (way t.mask (D.hash k) (c + q)) = .live i := slot_live R.tab.ris hi
      have rest : wpAny (model P w) A (searchRest a (.ref x) (D.hash k) true f es t (way t.mask (D.hash k) (c + q)) i (stp t (D.hash k) (c + (q + 1)))) Q E s := by
        unfold searchRest
        rw [R.ent he]
        dsimp only
        refine wpAny_bind (wpAny_holding (D.eqb (by simpa using hu) hek hx (wpAny_bind (wpAny_setState_of R.get R.dat R.fit ?_))))
        dsimp only
        by_cases c1 : e.2 = k
        · exact wp_if_pos (by simp [c1]) (wpAny_pure (hin (List.mem_map.mpr ⟨e, hem, c1⟩)))
        · refine wp_if_neg (by simp [c1]) ?_
          try refine wpAny_bind (wpAny_pure ?_)
          rw [sameMem]
          dsimp only
          simp only [if_true, live, R.ent he]
          refine wpAny_bind (wpAny_isSame_ref_self (wpAny_bind (wpAny_pure ?_)))
          simp only [if_true]
          refine wp_if_neg (by simp [c1]) (ih (c + (q + 1)) _ rfl (by omega) (by omega) fun i0 e0 h0 k0 => ?_)
          obtain ⟨c2, a1, a2, a3⟩ := hre i0 e0 h0 k0
          refine ⟨c2, ?_, a2, a3⟩
          rcases Nat.lt_trichotomy c2 (c + q) with z | z | z
          · exact absurd ((hat i0 e0 h0).trans (congrArg D.hash k0)) (hno (c2 - c) i0 (by omega) (by rw [ej, show c + (c2 - c) = c2 by omega]; exact a3))
          · rw [z] at a3
            have s0 := slot_live R.tab.ris a3
            rw [live] at s0
            injection s0 with s0
            rw [← s0, he] at h0
            exact absurd ((congrArg Prod.snd (Option.some.inj h0)).trans k0) c1
          · omega
      by_cases c1 : t.led = true
      · refine wp_if_neg (by simp [c1]) ?_
        try refine wpAny_bind (wpAny_pure ?_)
        exact rest
      · refine wp_if_pos (by simp [c1]) (wpAny_bind (seenG hx (fun y hy => ?_) ?_))
        · obtain ⟨r, hr, rfl⟩ := List.mem_map.mp hy
          have hr1 : r ∈ es ∧ r.1 = D.hash k := by simpa using hr
          have hr2 : r ∈ es.toList := by simpa using hr1.1
          rw [R.rows] at hr2
          obtain ⟨g, hg, rfl⟩ := List.mem_map.mp hr2
          exact ⟨g.2, g.1, rfl, R.keys g hg⟩
        · refine wp_if_neg (by decide) ?_
          try refine wpAny_bind (wpAny_pure ?_)
          exact rest
    · have hp2 : t.probe (fun i => (es[i]?.map (·.1)).getD 0) (D.hash k) (st.getD (t.probeStart (D.hash k))) = some (.empty (way t.mask (D.hash k) K) none) := by
        have e2 := ej (K - c)
        rw [bck] at e2
        rw [hst, ← e2]
        exact hp
      rw [hp2]
      dsimp only
      refine wpAny_pure (hout fun hm => ?_)
      obtain ⟨e0, h0, k0⟩ := List.mem_map.mp hm
      obtain ⟨i0, g0⟩ := List.mem_iff_getElem?.mp h0
      obtain ⟨c2, a1, a2, a3⟩ := hre i0 e0 g0 k0
      exact hno (c2 - c) i0 (by omega) (by rw [ej, show c + (c2 - c) = c2 by omega]; exact a3) ((hat i0 e0 g0).trans (congrArg D.hash k0))
/-- the search as adding asks for it -/
theorem searchG0 (R : SetG D s.heap a l o es ep t) {x : Addr} {k : κ} (hx : D.is s.heap k x) (hu : A.units + 8 < cLine) {Q : SetFound → Shared → Prop} (hin : k ∈ l.map (·.2) → Q (.there none) s)
    (hout : ∀ K, k ∉ l.map (·.2) → way t.mask (D.hash k) K ∉ t.place.toList → (∀ c, c < K → way t.mask (D.hash k) c ∈ t.place.toList) → Q (.free (way t.mask (D.hash k) K) false) s) :
    wpAny (model P w) A (setSearch a (.ref x) (D.hash k) true) Q E s := by
  have r1 := R.room
  obtain ⟨K, k1, k2, k3⟩ := R.tab.first (by rw [List.length_map]; omega) (D.hash k)
  have big : K < 100000 := by
    have : 10 * SetTable.turns t.mask ≤ 1420 := by
      unfold SetTable.turns
      rcases R.tab.mok with e | e | e <;> omega
    omega
  unfold setSearch
  refine searchG R hx hu k1 k2 k3 hin (fun hn => hout K hn k2 k3) 100000 0 none rfl (Nat.zero_le _) (by omega) fun i e he hk => ?_
  have hi : (l.map fun e => D.hash e.2)[i]? = some (D.hash k) := by rw [List.getElem?_map, he, ← hk]; rfl
  have hil : i < t.place.toList.length := by
    rw [Array.length_toList, R.tsize]
    exact (List.getElem?_eq_some_iff.mp he).1
  have hj := List.getElem?_eq_getElem hil
  obtain ⟨c, hc, e2⟩ := R.tab.before k2 hi hj
  exact ⟨c, Nat.zero_le _, hc, by rw [hj, e2]⟩
end
end PL

set_option maxHeartbeats 4000000
namespace PL
open PySem PySem.Spec PyProof.Rows L2
section
variable {P : Program} {w : World} {κ : Type} [DecidableEq κ] {D : KD P w κ} {A : Around} {E : Value → Shared → Prop} {s : Shared}
theorem KD.same {h h' : Heap} {k : κ} {a b : Addr} {o : Obj} {es : Array (Int × Value)} {ep : Nat} {t : SetTable} (hb : D.is h k b) (ho : h.get? a = some o) (hd : o.data = .set es ep t) (hs : Heap.SameBut a h h') : D.is h' k b :=
  D.mv hb fun o' e => (hs.2 b fun z => D.noSet hb (z ▸ ho) hd).trans e
/-- rows in another order -/
theorem rowsOrder {l : List (Addr × κ)} {es : Array (Int × Value)} {order : Array Nat} (hr : es.toList = rwG D l) (hp : order.toList.Perm (List.range l.length)) :
    ∃ m, (order.filterMap (es[·]?)).toList = rwG D m ∧ m.Perm l ∧ (m.map fun e => D.hash e.2) = order.toList.map fun i => (es.map (·.1)).getD i 0 := by
  have hz : es.size = l.length := by rw [← rwG_len D l, ← hr, Array.length_toList]
  have one : ∀ (i : Nat) (e : Addr × κ), l[i]? = some e → es[i]? = some (D.hash e.2, Value.ref e.1) := fun i e he => by
    rw [← Array.getElem?_toList, hr]
    exact rwG_get D he
  have all : ∀ js : List Nat, (∀ i ∈ js, i < l.length) → js.filterMap (fun i => es[i]?) = rwG D (js.filterMap fun i => l[i]?) ∧ ((js.filterMap fun i => l[i]?).map fun e => D.hash e.2) = js.map fun i => (es.map (·.1)).getD i 0 := by
    intro js
    induction js with
    | nil => exact fun _ => ⟨rfl, rfl⟩
    | cons i js ih =>
      intro hj
      obtain ⟨i1, i2⟩ := ih fun j h => hj j (List.mem_cons_of_mem _ h)
      have he := List.getElem?_eq_getElem (hj i List.mem_cons_self)
      have hv := one i _ he
      rw [List.filterMap_cons_some hv, List.filterMap_cons_some he]
      refine ⟨by rw [i1]; rfl, ?_⟩
      rw [List.map_cons, List.map_cons, i2]
      have h5 : (es.map (·.1))[i]? = some (D.hash (l[i]'(hj i List.mem_cons_self)).2) := by
        rw [Array.getElem?_map, hv]
        rfl
      rw [Array.getD_eq_getD_getElem?, h5]
      rfl
  obtain ⟨q1, q2⟩ := all order.toList fun i hi => List.mem_range.mp (hp.mem_iff.mp hi)
  refine ⟨_, by first | (rw [Array.toList_filterMap]; exact q1) | simpa using q1, ?_, q2⟩
  have full : ∀ n, n ≤ l.length → (List.range n).filterMap (fun i => l[i]?) = l.take n := by
    intro n
    induction n with
    | zero => exact fun _ => rfl
    | succ n ih =>
      intro hn
      have hl : l[n]? = some l[n] := List.getElem?_eq_getElem hn
      rw [List.range_succ, List.filterMap_append, ih (by omega), List.take_add_one, List.filterMap_cons_some hl, hl]
      rfl
  have h1 := hp.filterMap fun i => l[i]?
  rw [full l.length (Nat.le_refl _), List.take_length] at h1
  exact h1
variable {a : Addr} {l : List (Addr × κ)} {o : Obj} {es : Array (Int × Value)} {ep : Nat} {t : SetTable}
/-- a set as it stands -/
def StdG (D : KD P w κ) (h : Heap) (a : Addr) (l : List (Addr × κ)) : Prop := ∃ o es ep t, SetG D h a l o es ep t
theorem relayG (ho : s.heap.get? a = some o) (hx : o.ExactSet) (hd : o.data = .set es ep t) (hrow : es.toList = rwG D l) (hsz : t.place.size = es.size) (hdm : t.dummies = #[]) (hfl : es.size ≤ t.mask) (hnd : (l.map (·.2)).Nodup) (hks : ∀ e ∈ l, D.is s.heap e.2 e.1)
    (hld : w.params.followText "set-order" = true ∨ t.led = true) (hfew : l.length < 64) {wanted M : Nat} (hw : SetTable.sizeAbove wanted - 1 = M) (hM : MaskOk M) (hw2 : SetTable.sizeAbove wanted ≤ 128) (hn : l.length * 5 < M * 3) {Q : Unit → Shared → Prop}
    (hQ : ∀ h' l', Heap.SameBut a s.heap h' → StdG D h' a l' → l'.Perm l → Q () { s with heap := h' }) : wpAny (model P w) A (setRelay a wanted) Q E s := by
  have hz : es.size = l.length := by rw [← rwG_len D l, ← hrow, Array.length_toList]
  have fit : t.fits es.size = true := by
    unfold SetTable.fits SetTable.fill
    rw [hdm, Bool.and_eq_true, beq_iff_eq, decide_eq_true_eq]
    exact ⟨hsz, by show t.place.size + 0 ≤ t.mask; omega⟩
  obtain ⟨t2, order, e1, e2, T, e3, e4, e5, e6⟩ := relaid_ok t (hs := es.map (·.1)) (wanted := wanted) hw hM (by rw [Array.size_map, hz]; omega)
  rw [Array.size_map, hz] at e2
  obtain ⟨m, r1, r2, r3⟩ := rowsOrder hrow e2
  rw [← r3] at T
  have hz2 : (order.filterMap (es[·]?)).size = es.size := by rw [← Array.length_toList, r1, rwG_len, r2.length_eq, hz]
  rw [setRelay_eq]
  refine wpAny_bind (wpAny_setState_of ho hd fit ?_)
  dsimp only
  refine wp_if_neg (by rw [sizeLine_eq]; omega) ?_
  try refine wpAny_bind (wpAny_pure ?_)
  rw [e1]
  dsimp only
  refine wpAny_bind (wp_if_neg (by rw [hz2]; simp) ?_)
  try refine wpAny_bind (wpAny_pure ?_)
  refine wpAny_pure ?_
  dsimp only
  have sb : Heap.SameBut a s.heap (s.heap.update a (Obj.putSet (order.filterMap (es[·]?)) t2)) := Heap.SameBut.update ..
  refine wpAny_storeSet_of ho hd (hQ _ m sb ⟨_, _, _, _, ⟨store_at ho hd, ⟨hx.1, hx.2.1, hx.2.2⟩, rfl, r1, T, (r2.map (·.2)).nodup_iff.mpr hnd, fun e he => KD.same (hks e (r2.mem_iff.mp he)) ho hd sb, by rw [e4]; exact hld, by rw [r2.length_eq, e3]; exact hn, by rw [r2.length_eq]; exact hfew⟩⟩ r2) (by rw [hz2, hz, sizeLine_eq]; omega)
/-- a key is added -/
theorem addG (R : StdG D s.heap a l) {x : Addr} {k : κ} (hx : D.is s.heap k x) (hu : A.units + 8 < cLine) (hfew : l.length + 1 < 64) {Q : Bool → Shared → Prop}
    (hQ : ∀ b h' l', Heap.SameBut a s.heap h' → StdG D h' a l' → (k ∈ l.map (·.2) → l' = l) → (k ∉ l.map (·.2) → l'.Perm ((x, k) :: l)) → Q b { s with heap := h' }) :
    wpAny (model P w) A (setAddHashed a (.ref x) (D.hash k)) Q E s := by
  obtain ⟨o, es, ep, t, R⟩ := R
  have hz := R.size
  have hroom := R.room
  unfold setAddHashed
  refine wpAny_holding ?_
  rw [show (100000 : Nat) = 99999 + 1 from rfl, setAddHashedIn_succ]
  refine wpAny_bind (wpAny_setState_of R.get R.dat R.fit ?_)
  dsimp only
  refine wp_if_neg (by simp [byScan, Value.scannable]) ?_
  try refine wpAny_bind (wpAny_pure ?_)
  refine wpAny_bind (searchG0 R hx (by simpa using hu) (fun hm => ?_) fun K hm hK hb => ?_)
  · dsimp only
    exact wpAny_pure (hQ false s.heap l (Heap.SameBut.refl a s.heap) ⟨_, _, _, _, R⟩ (fun _ => rfl) fun z => absurd hm z)
  dsimp only
  refine wpAny_bind (wpAny_setState_of R.get R.dat R.fit ?_)
  dsimp only
  obtain ⟨q1, q2, q3, q4, q5, q6, q7, q8, q9⟩ := R.tab.put hK hb
  generalize t.put (way t.mask (D.hash k) K) = pt at q1 q3 q4 q5 q6 q7 q8 q9 ⊢
  obtain ⟨t1, p⟩ := pt
  dsimp only at q1 q3 q4 q5 q6 q7 q8 q9 ⊢
  subst q1
  generalize SetTable.below t.place (way t.mask (D.hash k) K) = p at q2 q3 ⊢
  have rows1 : (SetTable.insertAt es p (D.hash k, Value.ref x)).toList = rwG D (l.take p ++ (x, k) :: l.drop p) := by
    rw [SetTable.toList_insertAt, R.rows]
    unfold rwG
    rw [List.map_append, List.map_cons, List.map_take, List.map_drop]
  have pm : (l.take p ++ (x, k) :: l.drop p).Perm ((x, k) :: l) := put_perm l p (x, k)
  have tab1 : (l.map fun e => D.hash e.2).take p ++ D.hash k :: (l.map fun e => D.hash e.2).drop p = (l.take p ++ (x, k) :: l.drop p).map fun e => D.hash e.2 := by rw [List.map_append, List.map_cons, List.map_take, List.map_drop]
  rw [tab1] at q3
  generalize l.take p ++ (x, k) :: l.drop p = m at pm q3 rows1
  have len1 : m.length = l.length + 1 := pm.length_eq
  have nd1 : (m.map (·.2)).Nodup := by
    refine (pm.map (·.2)).nodup_iff.mpr ?_
    rw [List.map_cons]
    exact List.nodup_cons.mpr ⟨hm, R.nd⟩
  have hz1 : (SetTable.insertAt es p (D.hash k, Value.ref x)).size = l.length + 1 := by rw [← Array.length_toList, rows1, rwG_len, len1]
  generalize SetTable.insertAt es p (D.hash k, Value.ref x) = es1 at rows1 hz1 ⊢
  suffices fin : ∀ t2 : SetTable, TabOk t2 (m.map fun e => D.hash e.2) → t2.mask = t.mask → t2.led = t.led → (t2.tooFull = true ↔ (l.length + 1) * 5 ≥ t2.mask * 3) →
      wpAny (model P w) A (do storeSet a es1 t2; if (!false && t2.tooFull) = true then (do setRelay a (SetTable.grown (es.size + 1)); pure true) else pure true) Q E s by
    have f1 : t1.tooFull = true ↔ (l.length + 1) * 5 ≥ t1.mask * 3 := by
      unfold SetTable.tooFull
      rw [decide_eq_true_eq, q9, List.length_map]
    by_cases pl : t1.plain = true
    · refine wp_if_pos pl (wpAny_bind (D.hby hx fun v => ?_))
      cases v with
      | true =>
        simp only [if_true]
        exact fin t1 q3 q4 q5 f1
      | false =>
        simp only [Bool.false_eq_true, if_false]
        exact fin { t1 with plain := false } ⟨q3.1, q3.2, q3.3, q3.4, q3.5, q3.6⟩ q4 q5 f1
    · refine wp_if_neg pl (wpAny_bind (wpAny_pure ?_))
      simp only [if_true]
      exact fin t1 q3 q4 q5 f1
  clear q2 q3 q4 q5 q6 q7 q8 q9
  intro t1 q3 q4 q5 full
  refine wpAny_bind (wpAny_storeSet_of R.get R.dat ?_ (by rw [hz1, sizeLine_eq]; omega))
  have sb : Heap.SameBut a s.heap (s.heap.update a (Obj.putSet es1 t1)) := Heap.SameBut.update ..
  have ho1 := store_at (es' := es1) (t' := t1) R.get R.dat
  generalize s.heap.update a (Obj.putSet es1 t1) = h1 at sb ho1 ⊢
  have ks1 : ∀ e ∈ m, D.is h1 e.2 e.1 := fun e he => by
    rcases List.mem_cons.mp (pm.mem_iff.mp he) with z | z
    · rw [z]
      exact KD.same hx R.get R.dat sb
    · exact KD.same (R.keys e z) R.get R.dat sb
  have ld1 : w.params.followText "set-order" = true ∨ t1.led = true := by rw [q5]; exact R.led
  have sz1 : t1.place.size = es1.size := by
    have h := q3.sz
    rw [List.length_map, len1] at h
    rw [h, hz1]
  by_cases hf : t1.tooFull = true
  · first
      | (refine wpAny_bind ?_; refine wp_if_pos (by simp [hf]) ?_)
      | (refine wp_if_pos (by simp [hf]) ?_; refine wpAny_bind ?_)
    have hfu := full.mp hf
    rw [hz]
    have two : (t.mask = 7 ∧ l.length = 4) ∨ (t.mask = 31 ∧ l.length = 18) := by
      rcases R.tab.mok with e | e | e
      · exact .inl ⟨e, by rw [q4, e] at hfu; rw [e] at hroom; omega⟩
      · exact .inr ⟨e, by rw [q4, e] at hfu; rw [e] at hroom; omega⟩
      · rw [q4, e] at hfu
        omega
    have go : ∀ M, SetTable.sizeAbove (SetTable.grown (l.length + 1)) - 1 = M → MaskOk M → SetTable.sizeAbove (SetTable.grown (l.length + 1)) ≤ 128 → (l.length + 1) * 5 < M * 3 →
        wpAny (model P w) A (setRelay a (SetTable.grown (l.length + 1))) (fun _ s' => wpAny (model P w) A (pure true) Q E s') E { s with heap := h1 } := fun M m1 m2 m3 m4 =>
      relayG (s := { s with heap := h1 }) ho1 ⟨R.ex.1, R.ex.2.1, R.ex.2.2⟩ rfl rows1 sz1 q3.dm (by rw [hz1, q4]; rcases two with ⟨e, e2⟩ | ⟨e, e2⟩ <;> omega) nd1 ks1 ld1 (by rw [len1]; exact hfew) m1 m2 m3 (by rw [len1]; exact m4)
        fun h2 l2 sb2 R2 pm2 => wpAny_pure (hQ true h2 l2 (sb.trans sb2) R2 (fun z => absurd z hm) fun _ => pm2.trans pm)
    rcases two with ⟨_, e2⟩ | ⟨_, e2⟩
    · exact go 31 (by rw [e2, size_20]) (.inr (.inl rfl)) (by rw [e2, size_20]; decide) (by omega)
    · exact go 127 (by rw [e2, size_76]) (.inr (.inr rfl)) (by rw [e2, size_76]; decide) (by omega)
  · have hfu : ¬ ((l.length + 1) * 5 ≥ t1.mask * 3) := fun z => hf (full.mpr z)
    first
      | refine wp_if_neg (by simp [hf]) ?_
      | (refine wpAny_bind ?_; refine wp_if_neg (by simp [hf]) ?_; refine wpAny_pure ?_)
    exact wpAny_pure (hQ true h1 m sb ⟨_, es1, ep + 1, t1, ⟨ho1, ⟨R.ex.1, R.ex.2.1, R.ex.2.2⟩, rfl, rows1, q3, nd1, ks1, ld1, by rw [len1]; omega, by rw [len1]; exact hfew⟩⟩ (fun z => absurd z hm) fun _ => pm)
end
end PL

set_option maxHeartbeats 4000000
namespace PL
open PySem PySem.Spec PyProof.Rows L2 PySem.Calls PySem.W
section
variable {P : Program} {w : World} {κ : Type} [DecidableEq κ] {D : KD P w κ} {A : Around} {E : Value → Shared → Prop} {s : Shared}
theorem StdG.keep {h h' : Heap} {a : Addr} {l : List (Addr × κ)} (R : StdG D h a l) (ha : ∀ o, h.get? a = some o → h'.get? a = some o) (hk : ∀ e ∈ l, D.is h' e.2 e.1) : StdG D h' a l := by
  obtain ⟨o, es, ep, t, R⟩ := R
  exact ⟨o, es, ep, t, { R with get := ha o R.get, keys := hk }⟩
theorem freshLed (w : World) : w.params.followText "set-order" = true ∨ (SetTable.fresh 0 0 (!w.params.followText "set-order")).led = true := by
  show _ ∨ (!w.params.followText "set-order") = true
  cases w.params.followText "set-order"
  · exact .inr rfl
  · exact .inl rfl
theorem stdG_fresh {h : Heap} {a : Addr} (g : h.get? a = some (sob w)) : StdG D h a [] :=
  ⟨_, #[], 0, _, { get := g, ex := ⟨rfl, rfl, rfl⟩, dat := rfl, rows := rfl, tab := ⟨List.Pairwise.nil, rfl, rfl, .inl rfl, fun x hx => (by cases hx), fun i h j hi => (by simp at hi)⟩, nd := List.nodup_nil, keys := fun e he => (by cases he), led := freshLed w, room := (by decide : 0 * 5 < 7 * 3), few := (by decide : 0 < 64) }⟩
/-- what the set holds behind the first i ones -/
structure HoldG (D : KD P w κ) (h : Heap) (S : Addr) (xs : List (Addr × κ)) (i : Nat) (l : List (Addr × κ)) : Prop where
  std : StdG D h S l
  sub : ∀ e ∈ l, e ∈ xs
  has : ∀ k, k ∈ l.map (·.2) ↔ k ∈ (xs.take i).map (·.2)
  len : l.length ≤ i
theorem loopG {I : Addr} {fp wr : List Addr} {G : Array GenState → Array GenState → Prop} {n : Nat} {Pv : Nat → Value → Prop} {St : Nat → Shared → Prop} {R : Result → Shared → Prop} (W : WalksS P w A.in1 I fp wr G n Pv St) (S : Addr) (hS0 : S ∉ fp) (xs : List (Addr × κ)) (hn : n = xs.length) (hfew : xs.length < 64)
    (hval : ∀ i v, Pv i v → ∃ e, xs[i]? = some e ∧ v = .ref e.1) (h0 : Heap) (hks : ∀ e ∈ xs, D.is h0 e.2 e.1) (hS1 : h0.get? S = none) (hw : ∀ b ∈ wr, h0.get? b = none) (hu : A.units + 16 < cLine) :
    ∀ (m i : Nat) (s : Shared) (l : List (Addr × κ)), n - i = m → i ≤ n → St i s → (∀ b o, h0.get? b = some o → s.heap.get? b = some o) → HoldG D s.heap S xs i l →
      (∀ s' l', Moved (S :: wr) G s s' → HoldG D s'.heap S xs n l' → (∀ b o, h0.get? b = some o → s'.heap.get? b = some o) → R (.ok (.ret .none)) s') →
      codeAny (model P w) A (.builtin "set.update.loop" ⟨[.ref S, .ref I], []⟩) R s := by
  have nw : S ∉ wr := fun h => hS0 (W.sub _ h)
  have up : ∀ b ∈ wr, b ∈ S :: wr := fun b h => List.mem_cons_of_mem _ h
  have old : ∀ {s s' : Shared}, Moved wr G s s' → (∀ b o, h0.get? b = some o → s.heap.get? b = some o) → ∀ b o, h0.get? b = some o → s'.heap.get? b = some o := fun hm k b o e =>
    hm.heap b o (fun z => nomatch (hw b z).symm.trans e) (k b o e)
  have isK : ∀ {h : Heap}, (∀ b o, h0.get? b = some o → h.get? b = some o) → ∀ e ∈ xs, D.is h e.2 e.1 := fun k e he => D.mv (hks e he) fun o => k _ o
  have carry : ∀ {i : Nat} {s s' : Shared} {l : List (Addr × κ)}, Moved wr G s s' → (∀ b o, h0.get? b = some o → s'.heap.get? b = some o) → HoldG D s.heap S xs i l → HoldG D s'.heap S xs i l := fun hm k r =>
    { r with std := r.std.keep (fun o ho => hm.heap S _ nw ho) fun e he => isK k e (r.sub e he) }
  intro m
  induction m with
  | zero =>
    intro i s l em hi hst hk hS fin
    obtain rfl : i = n := by omega
    refine codeAny_builtin F.entry_set_update_loop ?_
    rw [Around.under_plainId F.plain_set_update_loop _]
    show wpAny _ A.in1 (pyNext (.ref I) >>= _) _ _ s
    exact wpAny_bind (W.done s _ _ hst fun s' hm => by
      show wpAny _ A.in1 (ret Value.none) _ _ s'
      exact wpAny_pure (fin s' l (hm.mono up) (carry hm (old hm hk) hS) (old hm hk)))
  | succ m ih =>
    intro i s l em hi hst hk hS fin
    have lt : i < n := by omega
    refine codeAny_builtin F.entry_set_update_loop ?_
    rw [Around.under_plainId F.plain_set_update_loop _]
    show wpAny _ A.in1 (pyNext (.ref I) >>= _) _ _ s
    refine wpAny_bind (W.item i s _ _ lt hst fun v s' hP hst' hm => ?_)
    obtain ⟨e, he, rfl⟩ := hval i v hP
    have hk' := old hm hk
    have hx := isK hk' e (List.mem_of_getElem? he)
    have hS' := carry hm hk' hS
    show wpAny _ A.in1 (holding [Value.ref e.1] (setAdd S (.ref e.1)) >>= _) _ _ s'
    refine wpAny_bind (wpAny_holding ?_)
    unfold setAdd
    refine wpAny_holding (wpAny_bind (D.hsh (by simp; omega) hx ?_))
    refine addG (s := { s' with toks := s'.toks + D.draws e.2 }) hS'.std hx (by simp; omega) (by have := hS'.len; omega) fun b h' l' sb R' c1 c2 => ?_
    have kk : ∀ b o, h0.get? b = some o → h'.get? b = some o := fun b o z => (sb.2 b fun q => nomatch (q ▸ hS1).symm.trans z).trans (hk' b o z)
    have tk : (xs.take (i + 1)).map (·.2) = (xs.take i).map (·.2) ++ [e.2] := by rw [List.take_add_one, he, List.map_append]; rfl
    have next : HoldG D h' S xs (i + 1) l' := by
      by_cases c : e.2 ∈ l.map (·.2)
      · obtain rfl := c1 c
        refine ⟨R', hS'.sub, fun k => ?_, Nat.le_succ_of_le hS'.len⟩
        rw [tk, List.mem_append, List.mem_singleton, ← hS'.has k]
        exact ⟨.inl, fun z => z.elim id fun z => z ▸ c⟩
      · have pm := c2 c
        refine ⟨R', fun g hg => ?_, fun k => ?_, by rw [pm.length_eq]; exact Nat.succ_le_succ hS'.len⟩
        · rcases List.mem_cons.mp (pm.mem_iff.mp hg) with z | z
          · exact z ▸ List.mem_of_getElem? he
          · exact hS'.sub g z
        · rw [(pm.map (·.2)).mem_iff, List.map_cons, List.mem_cons, tk, List.mem_append, List.mem_singleton, ← hS'.has k]
          exact Or.comm
    refine wpAny_pure ⟨plainId_quiet F.plain_set_update_loop _, ih (i + 1) _ l' (by omega) lt (W.frame _ s' _ _ hst' (Nat.le_add_right _ _) fun b hbf o z => (sb.2 b fun q : b = S => hS0 (q ▸ hbf)).trans z) kk next fun s'' l'' hm2 hS2 k2 => ?_⟩
    exact fin s'' l'' (Moved.trans W.gtrans ((hm.mono up).then_heap (Nat.le_add_right _ _) fun b o nb z => (sb.2 b fun q : b = S => nb (q ▸ List.mem_cons_self)).trans z) hm2) hS2 k2
structure MadeG (D : KD P w κ) (xs : List (Addr × κ)) (s s' : Shared) : Prop where
  set : ∃ l, HoldG D s'.heap s.heap.objs.size xs xs.length l
  heap : ∀ b o, s.heap.get? b = some o → s'.heap.get? b = some o
  gens : s'.gens = s.gens
  drawn : s'.drawn = s.drawn
  os : s'.os = s.os
set_option maxHeartbeats 3200000 in
/-- set(xs) of a list of such keys -/
theorem setG_list {l : Addr} {its : Array Value} (xs : List (Addr × κ)) {Q : Value → Shared → Prop} (hh : A.handled = none) (hl : s.heap.IsList l its) (hi : its.toList = xs.map fun e => Value.ref e.1) (hks : ∀ e ∈ xs, D.is s.heap e.2 e.1) (hfew : xs.length < 64) (hu : A.units + 24 < cLine)
    (h : ∀ s', MadeG D xs s s' → Q (.ref s.heap.objs.size) s') : wpAny (model P w) A (call (.type "set") [.ref l]) Q E s := by
  have sz : its.size = xs.length := by rw [← Array.length_toList, hi, List.length_map]
  obtain ⟨c0, t0, mr0⟩ := F.called_set.mro
  have md0 := F.called_set.made
  have sb0 := F.called_set.sub
  refine wpAny_call (codeAny_of_tree ?_); show wpAny _ _ (callAny (.type "set") _) _ _ _
  refine wpAny_pure ⟨Code.quiet_builtin _ (by decide +kernel), codeAny_builtin F.entry_type_call ?_⟩; rw [Around.under_plain (weight_type_call_type "set" [.ref l] []) rfl]
  have nt0 := F.called_set.notType
  have cc0 := F.called_set.canCreate
  have tc0 := F.typeCall_set_1 (.ref l)
  repeat (any_goals (first | assumption | wp_step))
  refine codeAny_mono (code_set_led1 (.ref l) (E := E) (Q₁ := fun obj s₁ => obj = .ref s.heap.objs.size ∧ s₁ = { s with heap := s.heap.push (sob w) }) ⟨rfl, rfl⟩) fun r s₁ hr => ?_
  cases r with
  | error e => exact hr
  | ok fl =>
    cases fl with
    | ret obj =>
      obtain ⟨rfl, rfl⟩ := hr
      have g0 : (s.heap.push (sob w)).get? s.heap.objs.size = some (sob w) := Heap.get?_push_size _ rfl
      have ty0 : Shared.TypeIs { s with heap := s.heap.push (sob w) } (.ref s.heap.objs.size) "set" := ⟨_, g0, rfl⟩
      have li0 := F.called_set.init.lookup
      have bi0 := F.called_set.init.bind (.ref s.heap.objs.size)
      repeat (any_goals (first | assumption | wp_step))
      refine codeAny_mono (codeAny_call_builtin (R := wants (fun r s₂ => r = .none ∧ MadeG D xs s s₂) E) F.called_set.init.plain F.entry_set_init (check_set_init_1 ty0 ?_)) fun r₂ s₂ hr₂ => ?_
      · obtain ⟨ol, gl, cl, nl, dl⟩ := hl
        obtain ⟨ocls, odict, odata, oslots⟩ := ol
        simp only at cl dl
        subst cl; subst dl
        have gl' : (s.heap.push (sob w)).get? l = some { cls := .type "list", dict := odict, data := .seq its nl, slots := oslots } := Heap.get?_push_of_some _ gl
        have s1 := F.sub_list_set
        have s2 := F.sub_list_frozenset
        have s3 : (Value.type "list" == Value.type "dict") = false := by decide
        have il : (s.heap.push (sob w)).IsList l its := ⟨_, gl', rfl, nl, rfl⟩
        unfold Builtin.«set.__init__» noKeywords Builtin.Frozenset.updateFrom
        generalize hPI : pyIter = PI
        wp_walk
        subst hPI
        refine wpAny_pyIter_list il (wpAny_bind (wpAny_runValue ?_))
        have lt0 : l < s.heap.objs.size := Heap.lt_size gl
        have h3 : A.in1.in1.in1.handled = none := by simp [hh]
        have ne0 : l ≠ (s.heap.push (sob w)).objs.size := by rw [Heap.size_push]; exact Nat.ne_of_lt (Nat.lt_succ_of_lt lt0)
        have no0 : s.heap.objs.size ∉ [(s.heap.push (sob w)).objs.size, l] := by
          rw [Heap.size_push]
          intro z
          rcases List.mem_cons.mp z with z | z
          · exact absurd z (Nat.ne_of_lt (Nat.lt_succ_self _))
          · exact absurd (List.mem_singleton.mp z) (Nat.ne_of_gt lt0)
        have val0 : ∀ (i : Nat) (v : Value), its[i]? = some v → ∃ e, xs[i]? = some e ∧ v = .ref e.1 := fun i v hv => by
          have q : its.toList[i]? = some v := by rw [Array.getElem?_toList]; exact hv
          rw [hi, List.getElem?_map] at q
          obtain ⟨e, h1, h2⟩ := Option.map_eq_some_iff.mp q
          exact ⟨e, h1, h2.symm⟩
        have gone : ∀ b, s.heap.objs.size ≤ b → s.heap.get? b = none := fun b hb => by
          cases q : s.heap.get? b with
          | none => rfl
          | some o => exact absurd (Nat.lt_of_lt_of_le (Heap.lt_size q) hb) (Nat.lt_irrefl _)
        refine loopG (D := D) ((Walks.list h3 _ l ne0 its).toS) s.heap.objs.size no0 xs sz hfew val0 s.heap hks (gone _ (Nat.le_refl _)) (fun b hb => gone b (by
          rw [List.mem_singleton.mp hb, Heap.size_push]
          exact Nat.le_succ _)) (by simp; omega) (its.size - 0) 0 _ [] (by omega) (Nat.zero_le _) ⟨⟨_, Heap.get?_push_size _ rfl, rfl, rfl⟩, (il.push _)⟩ (fun b o e => Heap.get?_push_of_some _ (Heap.get?_push_of_some _ e)) ?st0 ?en0
        case st0 => exact ⟨stdG_fresh (Heap.get?_push_of_some _ g0), fun e he => (by cases he), fun k => by simp, Nat.le_refl _⟩
        case en0 =>
          intro s' l' hm hS kp
          exact wpAny_pure (wpAny_pure ⟨rfl, ⟨⟨l', by rw [← sz]; exact hS⟩, kp, hm.gens, hm.drawn, hm.os⟩⟩)
      · cases r₂ with
        | error e => exact hr₂
        | ok fl₂ =>
          cases fl₂ with
          | ret r =>
            obtain ⟨rfl, M⟩ := hr₂
            repeat (any_goals (first | assumption | wp_step))
            exact h _ M
          | _ => exact hr₂.elim
    | _ => exact hr.elim
end
/-! ### tuples of texts -/
section
variable {P : Program} {w : World}
theorem itemsS : ∀ {k : List Str} {vs : List Value}, ItemsAre (strKind P w) k vs → ∀ v ∈ vs, ∃ x t, v = Value.str x t
  | _, _, .nil, v, hv => by cases hv
  | _, _, .cons (v := u) h1 h2, v, hv => by
    rcases List.mem_cons.mp hv with e | hv
    · obtain ⟨t, e2⟩ := Value.isStrOf_shape h1
      exact ⟨_, t, e.trans e2⟩
    · exact itemsS h2 v hv
/-- the kind of tuples of texts -/
def kdTS (P : Program) (w : World) : KD P w (List Str) where
  is h k a := IsTupleKey (strKind P w) h k a
  hash k := tupleKeyHash (strKind P w) k
  draws k := k.length + 1
  mv := fun ⟨o, items, n, ho, r⟩ hk => ⟨o, items, n, hk o ho, r⟩
  noSet := fun ⟨o, items, n, ho, _, hd, _⟩ ho2 hd2 => by
    rw [ho] at ho2
    cases ho2
    rw [hd] at hd2
    cases hd2
  eqb := fun hu hx hy h => wpAny_eqBool_tuple (by omega) hx hy h
  hsh := fun hu hx h => wpAny_pyHash_tuple (by omega) hx h
  quiet := fun hx h => wpAny_eqIsQuiet_tuple hx h
  ofc := fun {A E s x b Q} hx h => by
    have hT := IsTupleKey.typeIs hx
    obtain ⟨o, items, n, ho, _, hd, hi⟩ := hx
    unfold ofAClassStatement
    refine wpAny_bind (wpAny_typeOf hT ?_)
    dsimp only
    have e : (("tuple" : String) == "tuple") = true := by decide
    simp only [e, if_true, Bool.not_true, Bool.false_eq_true, if_false]
    try refine wpAny_bind (wpAny_pure ?_)
    try simp only [Bool.not_true, Bool.false_eq_true, if_false]
    show wpAny _ _ (seqItems? (.ref b) >>= _) _ _ s
    refine wpAny_bind (wpAny_seqItems ho hd ?_)
    dsimp only
    refine wpAny_bind ?_
    show wpAny _ _ (forIn items _ _) _ _ s
    rw [← Array.forIn_toList]
    refine wpAny_forIn_list _ (fun rest r s1 => r.1 = none ∧ s1 = s ∧ ∀ v ∈ rest, ∃ x t, v = Value.str x t) _ ?_ ?_ _ _ ⟨rfl, rfl, itemsS hi⟩
    · rintro v rest r s1 ⟨e1, rfl, all⟩
      obtain ⟨x, t, rfl⟩ := all v List.mem_cons_self
      rw [show ofAClassStatement 7 (.str x t) = pure false from rfl]
      refine wpAny_bind (wpAny_pure ?_)
      simp only [Bool.false_eq_true, if_false]
      exact wpAny_pure ⟨rfl, rfl, fun u hu => all u (List.mem_cons_of_mem _ hu)⟩
    · rintro ⟨r1, r2⟩ s1 ⟨e1, rfl, _⟩
      simp only at e1
      subst e1
      exact wpAny_pure h
  hby := fun {A E s x b Q} hx h => by
    have hT := IsTupleKey.typeIs hx
    obtain ⟨o, items, n, ho, _, hd, hi⟩ := hx
    unfold hashByValue
    refine wpAny_bind (wpAny_specialOf hT F.slot_tuple_hash.lookup ?_)
    show wpAny _ _ (seqItems? (.ref b) >>= _) _ _ s
    refine wpAny_bind (wpAny_seqItems ho hd (wpAny_bind ?_))
    show wpAny _ _ (forIn items _ _) _ _ s
    rw [← Array.forIn_toList]
    have all := itemsS hi
    clear hi hd
    generalize items.toList = il at all ⊢
    cases il with
    | nil =>
      rw [List.forIn_nil]
      exact wpAny_pure (wpAny_pure (h true))
    | cons v rest =>
      obtain ⟨x, t, rfl⟩ := all v List.mem_cons_self
      rw [List.forIn_cons, show hashByValue 7 (.str x t) = pure false from by first | rfl | (unfold hashByValue; rfl) | simp [hashByValue]]
      exact wpAny_pure (wpAny_pure (h false))
end
end PL

set_option maxHeartbeats 4000000
namespace PL
open PySem PySem.Spec PyProof.Rows L2
/-! ### len(set(xs)) of tuples of texts -/
def ddL {α : Type} [DecidableEq α] : List α → List α
  | [] => []
  | x :: r => if x ∈ r then ddL r else x :: ddL r
theorem mem_ddL {α : Type} [DecidableEq α] {y : α} : ∀ {l : List α}, y ∈ ddL l ↔ y ∈ l
  | [] => Iff.rfl
  | x :: r => by
    have ih := mem_ddL (y := y) (l := r)
    unfold ddL
    split
    · rw [ih, List.mem_cons]
      rename_i hx
      exact ⟨.inr, fun h => h.elim (fun e => e ▸ hx) id⟩
    · rw [List.mem_cons, List.mem_cons, ih]
theorem nd_ddL {α : Type} [DecidableEq α] : ∀ l : List α, (ddL l).Nodup
  | [] => List.nodup_nil
  | x :: r => by
    have ih := nd_ddL r
    unfold ddL
    split
    · exact ih
    · rename_i hx
      exact List.nodup_cons.mpr ⟨fun h => hx (mem_ddL.mp h), ih⟩
theorem ddL_perm {α : Type} [DecidableEq α] {l m : List α} (h1 : l.Nodup) (h2 : ∀ x, x ∈ l ↔ x ∈ m) : l.Perm (ddL m) := nodup_perm h1 (nd_ddL m) fun x => (h2 x).trans mem_ddL.symm
theorem ddL_len {α : Type} [DecidableEq α] {l : List α} (h : l.Nodup) : (ddL l).length = l.length := (ddL_perm h fun _ => Iff.rfl).length_eq.symm
theorem ddL_le {α : Type} [DecidableEq α] : ∀ l : List α, (ddL l).length ≤ l.length
  | [] => Nat.le_refl _
  | x :: r => by
    have ih := ddL_le r
    unfold ddL
    split
    · rw [List.length_cons]
      omega
    · rw [List.length_cons, List.length_cons]
      omega
section
variable {X : Cx} {Γ : Ga} {a : Expr} {pos p p2 q : Pos}
theorem dp_lots {K : PySem.W.Frag} {H : Hp} : ∀ {xs : List (List Str)} {vs : List V}, DpAll K H vs (xs.map eL) → ∃ ys : List (Addr × List Str), vs = ys.map (fun e => V.ref e.1) ∧ ys.map (·.2) = xs ∧ ∀ e ∈ ys, SqT K H e.1 (e.2.map V.str)
  | [], _, .nil => ⟨[], rfl, rfl, fun _ h => nomatch h⟩
  | x :: xs, _, .cons h t => by
    obtain ⟨ys, e1, e2, e3⟩ := dp_lots t
    obtain ⟨b, us, rfl, h2, h3⟩ := dp_tup h
    rw [dps_strs_inv h3] at h2
    refine ⟨(b, x) :: ys, by rw [e1]; rfl, by rw [List.map_cons, e2], fun e he => ?_⟩
    rcases List.mem_cons.mp he with z | z
    · rw [z]
      exact h2
    · exact e3 e z
theorem items_str {P : Program} {w : World} : ∀ {k : List Str} {us : List Value}, Vals (k.map V.str) us → ItemsAre (strKind P w) k us
  | [], _, .nil => .nil
  | x :: k, _, .cons r t => by
    obtain ⟨tk, rfl⟩ := r
    exact .cons (strKind_is P w x tk) (items_str t)
theorem refsV : ∀ {ys : List (Addr × List Str)} {us : List Value}, Vals (ys.map fun e => V.ref e.1) us → us = ys.map fun e => Value.ref e.1
  | [], _, .nil => rfl
  | e :: ys, _, .cons r t => by
    rw [refsV t, show _ = Value.ref e.1 from r]
    rfl
theorem go_lenSetT {xs : List (List Str)} (hu : UOk X) (hc : X.calm = true) (hm : X.mg "len" = none) (hm2 : X.mg "set" = none) (ha : Go X Γ a (.list (xs.map eL))) (hl : xs.length < 64) (hg : Gl X "len" := by rfl) (hg2 : Gl X "set" := by rfl)
    (na : starEach [a] X.env = (false, eval a X.env) :: starEach [] X.env := by rfl) : Go X Γ (.Call (.Name "len" p) [.Call (.Name "set" p2) [a] [] q] [] pos) (.int ((ddL xs).length : Nat)) := .mk fun σ B H Fs E Q q0 => by
  have step : wpE X a σ H fun v H1 => ∃ B1 l vs, Nw B H B1 H1 ∧ v = .ref l ∧ SqL X.K H1 l vs ∧ DpAll X.K H1 vs (xs.map eL) := ha σ B H Fs E _ fun v B1 H1 n1 r1 => by
    obtain ⟨l, us, rfl, h3, h4⟩ := dp_lst r1
    exact ⟨B1, l, us, n1, rfl, n1.bh.sl h3, dpsUp n1.bh h4⟩
  intro pins s I
  refine Call_ (ld_blt I hg hm PySem.boot_len ?_)
  refine PyProof.Rows.callWith_builtin1 (PyProof.Rows.args_cons ?_ rfl) rfl rfl
  refine Call_ (ld_blt I hg2 hm2 PyProof.Rows.boot_set ?_)
  refine PyProof.Rows.callWith_type1 (PyProof.Rows.args_cons (thn (step pins s I) fun v s1 ⟨x, H1, I1, r1, B1, l, vs, n1, hx, hq, hd⟩ => PyProof.Rows.args_nil ?_) na) na rfl
  subst hx
  cases r1
  obtain ⟨ys, rfl, e2, e3⟩ := dp_lots hd
  have yl : ys.length = xs.length := by rw [← e2, List.length_map]
  obtain ⟨its, r, pl, _⟩ := I1.list hq
  have hks : ∀ e ∈ ys, (kdTS X.prog X.w).is s1.heap e.2 e.1 := fun e he => by
    obtain ⟨us, r2, ⟨o, ho, hcl, n, hdt⟩, _⟩ := I1.tuple (e3 e he)
    exact ⟨o, us.toArray, n, ho, hcl, hdt, by simpa using items_str r2⟩
  have u65 := hu.u65
  refine setG_list (D := kdTS X.prog X.w) ys (I1.ok.hd hc) pl.isList (by simpa using refsV r) hks (by omega) (by omega) fun s2 M => PyProof.Rows.args_nil ?_
  have I2 : Inv X pins σ H1 s2 := by
    obtain ⟨h', g', d', t', o'⟩ := s2
    have c1 : g' = s1.gens := M.gens
    have c2 : d' = s1.drawn := M.drawn
    have c3 : o' = s1.os := M.os
    subst c1 c2 c3
    exact I1.kept M.heap
  obtain ⟨m, Hm⟩ := M.set
  obtain ⟨o, es, ep, t, T⟩ := Hm.std
  have hz : es.size = (ddL xs).length := by
    rw [T.size, ← List.length_map (f := fun e : Addr × List Str => e.2)]
    refine (ddL_perm T.nd fun k => ?_).length_eq
    have := Hm.has k
    rw [List.take_length, e2] at this
    exact this
  have hle := ddL_le xs
  refine PySem.call_len_set T.get T.ex T.dat T.fit (by rw [hz]; omega) ⟨.int ((ddL xs).length : Nat), H1, I2.tok _, ⟨_, by rw [hz]⟩, q0 _ B1 H1 n1 (Dp.int _)⟩
end
end PL
namespace PL
open PySem PySem.Spec PyProof.Rows L2 PySem.W
/-! ### sorted(xs) of tuples of texts -/
theorem alike_strs : ∀ a b : List Str, alikeAll (a.map PyData.str) (b.map PyData.str) = true
  | [], _ => by simp [alikeAll]
  | _ :: _, [] => by simp [alikeAll]
  | x :: a, y :: b => by
    show alikeAll (PyData.str x :: a.map PyData.str) (PyData.str y :: b.map PyData.str) = true
    rw [alikeAll, alike_strs a b]
    rfl
theorem alike_L (a b : List Str) : alike (eL a) (eL b) = true := by
  unfold eL
  rw [alike]
  exact alike_strs a b
theorem depth_L (a : List Str) : (eL a).depth ≤ 60 := by
  have h : ∀ l : List Str, PyData.depthAll (l.map PyData.str) = 0 := fun l => by
    induction l with
    | nil => rfl
    | cons x l ih => rw [List.map_cons, PyData.depthAll, ih]; rfl
  unfold eL
  rw [PyData.depth, h]
  decide
def leL (a b : List Str) : Bool := dataLe false id (eL a) (eL b)
def sortL (xs : List (List Str)) : List (List Str) := xs.mergeSort leL
theorem sortOk_L {xs : List (List Str)} (h : xs.length ≤ 1000) (hn : ∀ l ∈ xs, l ≠ []) : SortOk (xs.map eL) where
  al := AllAlike.of fun b b' => alike_L b b'
  so := .inl fun d hd => by
    obtain ⟨l, hl, rfl⟩ := List.mem_map.mp hd
    cases l with
    | nil => exact absurd rfl (hn _ hl)
    | cons x r => exact ⟨_, _, rfl⟩
  dp := fun d hd => by
    obtain ⟨x, _, rfl⟩ := List.mem_map.mp hd
    exact depth_L x
  ln := by
    rw [List.length_map]
    exact leZ (by omega)
end PL

set_option maxHeartbeats 1000000
/-! zip of a tuple and a list (and of two tuples) -/
namespace PL
open PySem PySem.Spec PyProof.Rows L2 RZ
/-- a kind of row: its iterators, how they go on and how they end -/
structure SK (P : Program) (w : World) where
  it : Heap → Addr → Addr → Nat → Prop
  sq : Heap → Addr → Array Value → Prop
  one : ∀ {h i l k}, it h i l k → ∃ o, h.get? i = some o ∧ ∀ v, o.data ≠ .seq v
  mv : ∀ {h h' i l k}, it h i l k → (∀ o, h.get? i = some o → h'.get? i = some o) → it h' i l k
  mq : ∀ {h h' l x}, sq h l x → (∀ o, h.get? l = some o → h'.get? l = some o) → sq h' l x
  nx : ∀ {A : Around} {E : Value → Shared → Prop} {s : Shared} {i l k xs x} {Q : Value → Shared → Prop}, it s.heap i l k → sq s.heap l xs → xs[k]? = some x →
    (∀ h', it h' i l (k + 1) → Heap.SameBut i s.heap h' → Q x { s with heap := h' }) → wpAny (model P w) A (Builtin.SmallTypes.nextOf (.ref i)) Q E s
  nd : ∀ {A : Around} {E : Value → Shared → Prop} {s : Shared} {i l k xs} {Q : Value → Shared → Prop}, A.handled = none → it s.heap i l k → sq s.heap l xs → xs[k]? = none →
    (∀ h' e, Heap.ExtBut i s.heap h' → (∃ o, h'.get? e = some o ∧ o.cls = .type "StopIteration") → E (.ref e) { s with heap := h' }) → wpAny (model P w) A (Builtin.SmallTypes.nextOf (.ref i)) Q E s
def skT (P : Program) (w : World) : SK P w where
  it h i l k := h.IsTupleIter i l k
  sq h l x := h.IsTuple l x
  one := fun ⟨o, e, _, d⟩ => ⟨o, e, fun v g => by rw [d] at g; cases g⟩
  mv := fun h k => h.at k
  mq := fun ⟨o, e, d⟩ k => ⟨o, k o e, d⟩
  nx := nextOf_tuple_item
  nd := nextOf_tuple_end
def skL (P : Program) (w : World) : SK P w where
  it h i l k := h.IsListIter i l k
  sq h l x := h.IsList l x
  one := fun ⟨o, e, _, d⟩ => ⟨o, e, fun v g => by rw [d] at g; cases g⟩
  mv := fun h k => h.at k
  mq := fun ⟨o, e, d⟩ k => ⟨o, k o e, d⟩
  nx := wpAny_nextOf_list_item
  nd := wpAny_nextOf_list_end
section
variable {P : Program} {w : World} {A : Around} {E : Value → Shared → Prop} {s : Shared} {S T : SK P w}
variable {z a b p q l m : Addr} {i j : Nat} {xs ys : Array Value} {x y c1 c2 : Value}
/-- what is read in a heap behind others -/
def Up4 (z b p q : Addr) (h g : Heap) : Prop := ∀ c o, c ≠ z → c ≠ b → c ≠ p → c ≠ q → h.get? c = some o → g.get? c = some o
end
/-! the call, for a tuple and a list -/
def zO (l : Addr) (c : String) : Obj := { cls := .type c, data := .fields #[.ref l, .int 0 0] }
def zA (h : Heap) (l m : Addr) : Heap := (h.push (zO l "tuple_iterator")).push (zO m "list_iterator")
def zP (h : Heap) (l m : Addr) : Heap := ((zA h l m).push { cls := .type "tuple", data := .seq #[.ref h.objs.size, .ref (h.push (zO l "tuple_iterator")).objs.size] }).push { cls := .type "tuple", data := .seq #[.none, .none] }
def zF (h : Heap) (l m : Addr) : Heap := (zP h l m).push { cls := .type "zip", data := .fields #[.none, .bool false, .bool false, .ref (zA h l m).objs.size, .ref ((zA h l m).push { cls := .type "tuple", data := .seq #[.ref h.objs.size, .ref (h.push (zO l "tuple_iterator")).objs.size] }).objs.size] }
/-- the tuple at a and the list at b as they stand at each turn -/
def ItM (K : PySem.W.Frag) (a b : Addr) : It :=
  ⟨fun i H => ∃ (xs ys : List V) (x y : V), SqT K H a xs ∧ SqL K H b ys ∧ xs[i]? = some x ∧ ys[i]? = some y,
    fun i H v H' => ∃ T x y, v = .ref T ∧ H T = none ∧ H' = upd H T (.tup [x, y]) ∧ (∀ xs, SqT K H a xs → xs[i]? = some x) ∧ ∀ ys, SqL K H b ys → ys[i]? = some y,
    fun i H => ∃ xs ys : List V, SqT K H a xs ∧ SqL K H b ys ∧ (xs.length ≤ i ∨ ys.length ≤ i)⟩
def ItMst (z a b p q l m : Addr) (i : Nat) (h : Heap) : Prop := IsZip h z a b .none ∧ IsPair h a (.ref p) (.ref q) ∧ (∃ x y, IsPair h b x y) ∧ h.IsTupleIter p l i ∧ h.IsListIter q m i
def iZipM (K : PySem.W.Frag) (ta : TA) : TI := fun σ H R => ta σ H fun vs H1 => ∃ a b xs ys, vs = [.ref a, .ref b] ∧ SqT K H1 a xs ∧ SqL K H1 b ys ∧ R (ItM K a b) H1
/-! the rules -/
section
variable {X : Cx} {Γ : List Sl} {a b : Expr} {ds es : List D}
end
end PL

set_option maxHeartbeats 1000000
namespace PL
open PySem PySem.Spec PyProof.Rows L2 RZ
/-! ### a tuple of numbers as a constant of the module -/
inductive IntsV : List Value → List Int → Prop
  | nil : IntsV [] []
  | cons {u : List Value} {n : Int} {ns : List Int} {t : Tok} (r : IntsV u ns) : IntsV (.int n t :: u) (n :: ns)
section
variable {X : Cx} {J : Jd} {N : Nd} {Γ : List Sl} {e : Expr} {ds es : List D} {pos : Pos}
end
end PL

set_option maxHeartbeats 2000000
namespace PL
open PySem PySem.Spec PyProof.Rows L2 PySem.Calls PySem.W
/-! ### len(set(xs)) of ints, all of them different -/
section
variable {X : Cx} {Γ : Ga} {a : Expr} {p p2 q pos : Pos}
def tLenSetW (K : PySem.W.Frag) (ta : TE) : TE := fun σ H Q => ta σ H fun x H1 => ∃ (l : Addr) (ns : List Int), x = V.ref l ∧ SqL K H1 l (ns.map V.int) ∧ ns.length < 4000 ∧ ns.Nodup ∧ Q (.int ns.length) H1
/-! ### sorted(xs) of ints -/
/-! ### xs.index(x) of data -/
end
end PL

set_option maxHeartbeats 1000000
/-! orders, inputs and their words: the plain law -/
namespace PL
open PySem PySem.Spec PyProof.Rows L2 RZ
abbrev Od := Option (List Str)
def eOd : Od → D
  | none => .none
  | some l => eL l
def stopO : Od := some ["stop"]
def doO (x : Str) : Od := some ["do", x]
def runO (x : Str) : Od := some ["run", x]
theorem eqvAll_strs : ∀ a b : List Str, PyData.eqvAll (a.map .str) (b.map .str) = decide (a = b)
  | [], [] => rfl
  | [], _ :: _ => by simp [PyData.eqvAll]
  | _ :: _, [] => by simp [PyData.eqvAll]
  | x :: a, y :: b => by
    have ih := eqvAll_strs a b
    show PyData.eqvAll (PyData.str x :: a.map .str) (PyData.str y :: b.map .str) = _
    rw [eqvAll_cons, eqv_str, ih]
    by_cases h1 : x = y
    · by_cases h2 : a = b
      · simp [h1, h2]
      · simp [h1, h2]
    · simp [h1]
theorem eqv_L (a b : List Str) : PyData.eqv (eL a) (eL b) = decide (a = b) := by
  unfold eL
  rw [eqv_tup, eqvAll_strs]
/-- texts that can be compared -/
def OksS (l : List Str) : Prop := ∀ x ∈ l, PyData.strOk x = true
theorem shp_L {l : List Str} (h : OksS l) : Shp 1 (eL l) := Shp.tup fun d hd => by
  obtain ⟨x, hx, rfl⟩ := List.mem_map.mp hd
  exact ⟨h x hx, Nat.zero_le _⟩
abbrev Bk.sn (b : Bk) : List Str := sortS b.cn
/-- whether it is an order -/
def ordB (b : Bk) : List Str → Bool
  | [x, y] => if x = "do" then decide (y ∈ b.sn) else if x = "run" then decide (y ∈ b.rn) else false
  | os => decide (os = ([("stop" : Str)] : List Str))
def inpB (b : Bk) (as : List Str) (o : Od) : Bool := lotOfB as b.an && (match o with | none => true | some os => ordB b os)
/-- all orders at their numbers -/
def ords (b : Bk) : List Od := ([none, stopO] ++ b.sn.map doO ++ List.replicate (8 - b.sn.length) none) ++ b.rn.map runO
/-- the orders -/
def ordL (b : Bk) : List Od := [none, stopO] ++ b.sn.map doO ++ b.rn.map runO
def numO (b : Bk) : Od → Nat
  | none => 0
  | some ["stop"] => 1
  | some ["do", x] => 2 + b.sn.idxOf x
  | some ["run", x] => 10 + b.rn.idxOf x
  | _ => 0
/-! ### bits -/
def pwI : List Int := [1, 2, 4, 8, 16, 32]
def nth (l : List Str) (k : Nat) : Str := l.getD k ⟨#[]⟩
def lowN : List Bool → Nat
  | [] => 0
  | b :: r => (if b then 1 else 0) + 2 * lowN r
/-- the bits of a lot of these names -/
def bitsN (names lot : List Str) : Nat := lowN (names.map fun x => decide (x ∈ lot))
/-- the lot that has these bits -/
def lotN (names : List Str) (m : Int) : List Str := sortS (((List.range names.length).filter fun k => decide (m / 2 ^ k % 2 = 1)).map fun k => nth names k)
theorem nth_inj {names : List Str} (hn : names.Nodup) {i j : Nat} (hi : i < names.length) (hj : j < names.length) (h : nth names i = nth names j) : i = j := by
  unfold nth at h
  rw [List.getD_eq_getElem?_getD, List.getD_eq_getElem?_getD, List.getElem?_eq_getElem hi, List.getElem?_eq_getElem hj] at h
  exact (List.getElem_inj hn).mp h
theorem nth_mem {names : List Str} {k : Nat} (hk : k < names.length) : nth names k ∈ names := by
  unfold nth
  rw [List.getD_eq_getElem?_getD, List.getElem?_eq_getElem hk]
  exact List.getElem_mem hk
theorem pick_nd {names : List Str} (hn : names.Nodup) (q : Nat → Bool) : (((List.range names.length).filter q).map fun k => nth names k).Nodup := by
  have h1 : ((List.range names.length).filter q).Nodup := List.nodup_range.sublist List.filter_sublist
  refine List.pairwise_map.mpr (h1.imp_of_mem fun {i j} hi hj h e => h ?_)
  exact nth_inj hn (List.mem_range.mp (List.mem_filter.mp hi).1) (List.mem_range.mp (List.mem_filter.mp hj).1) e
theorem sort_rises {l : List Str} (hn : l.Nodup) : risB (sortS l) = true := by
  rw [ris_iff]
  have h1 := sortS_pw l
  have h2 : (sortS l).Nodup := (sortS_perm l).nodup_iff.mpr hn
  exact (h1.and h2).imp fun h => ltS_iff.mpr h
theorem pick_lot {names : List Str} {l : List Str} (hm : ∀ x ∈ names, isNmB x = true) (hl : l.Nodup) (hs : ∀ x ∈ l, x ∈ names) : lotOfB (sortS l) names = true := by
  unfold lotOfB isLotB inB
  rw [sort_rises hl, Bool.and_true, Bool.and_eq_true]
  exact ⟨List.all_eq_true.mpr fun x hx => hm x (hs x ((sortS_perm l).mem_iff.mp hx)), List.all_eq_true.mpr fun x hx => decide_eq_true (hs x ((sortS_perm l).mem_iff.mp hx))⟩
/-! ### words of inputs -/
def rndZ : Int := 16777216
def wordN (b : Bk) (as : List Str) (o : Od) (t : Int) : Int := (numO b o : Int) + 16 * (bitsN b.an as : Int) + 256 * (t % rndZ)
/-- what word_input tells -/
def backD (b : Bk) (w t : Int) : D :=
  match (ords b)[(w % 16).toNat]? with
  | none => .none
  | some o => if w % 16 > 0 ∧ o = none then .none else if w ≠ wordN b (lotN b.an (w / 16 % 16)) o t then .none else .tuple [eL (lotN b.an (w / 16 % 16)), eOd o]
/-- the last one of the orders with this number -/
def dueI (b : Bk) (as : List Str) (n : Nat) (os : List Od) : D := os.foldl (fun d o => if numO b o = n then .tuple [eL as, eOd o] else d) .none
end PL
namespace PL
open PySem PySem.Spec PyProof.Rows L2 RZ
end PL

set_option maxHeartbeats 1000000
/-! the book that the laws draw: the plain law -/
namespace PL
open PySem PySem.Spec PyProof.Rows L2 RZ
theorem rngNat (n : Nat) : (rngI 0 (n : Int)).map PyData.int = (List.range n).map fun k => PyData.int ((k : Nat) : Int) := by
  unfold rngI
  rw [List.map_map, show ((n : Int) - 0).toNat = n by omega]
  refine List.map_congr_left fun k _ => ?_
  show PyData.int ((0 : Int) + (k : Nat)) = _
  rw [Int.zero_add]
theorem nth_at {l : List Str} {k : Nat} (hk : k < l.length) : atI (l.map PyData.str) (k : Int) = some (.str (nth l k)) := by
  refine atI_get' (k := k) ?_ (by omega)
  rw [List.getElem?_map, List.getElem?_eq_getElem hk]
  unfold nth
  rw [List.getD_eq_getElem?_getD, List.getElem?_eq_getElem hk]
  rfl
theorem p2_at6 {k : Nat} (h : k < 6) : atI [PyData.int 1, PyData.int 2, PyData.int 4, PyData.int 8, PyData.int 16, PyData.int 32] (k : Int) = some (PyData.int (2 ^ k)) := by
  match k, h with
  | 0, _ => rfl
  | 1, _ => rfl
  | 2, _ => rfl
  | 3, _ => rfl
  | 4, _ => rfl
  | 5, _ => rfl
theorem p2_pos {k : Nat} (h : k < 6) : (0 : Int) < 2 ^ k ∧ (2 : Int) ^ k < 1073741824 := by
  match k, h with
  | 0, _ => decide
  | 1, _ => decide
  | 2, _ => decide
  | 3, _ => decide
  | 4, _ => decide
  | 5, _ => decide
/-- the holds at which the digit in the system of three is v -/
def triL (m v : Int) (hs : List Str) : List Str := ((List.range hs.length).filter fun k => decide (m / 3 ^ k % 3 = v)).map (nth hs)
def hs0 : List Str := ["a", "b", "c", "d", "e", "f"]
def ms0 : List Str := ["safe", "work", "m3", "back", "m5"]
def az0 : List Str := ["z", "hot", "a", "low"]
def rs0 : List Str := ["plan", "back", "r3"]
def cs0 : List Str := ["c0", "c1", "c2", "c3", "c4", "c5", "c6", "c7"]
def optL (l : List Str) (n : Nat) : List (Option Str) := l.map some ++ List.replicate n none
def optA (l : List Str) (n : Nat) (i : Int) : Option Str := ((optL l n)[i.toNat]?).getD none
theorem opt_at {l : List Str} {n : Nat} {i : Int} (h0 : 0 ≤ i) (h1 : i < (l.length : Int) + n) : atI (l.map PyData.str ++ List.replicate n PyData.none) i = some (eO (optA l n i)) := by
  have hl : i.toNat < (optL l n).length := by
    unfold optL
    rw [List.length_append, List.length_map, List.length_replicate]
    omega
  have e : (optL l n).map eO = l.map PyData.str ++ List.replicate n PyData.none := by
    unfold optL
    rw [List.map_append, List.map_map, List.map_replicate]
    rfl
  rw [← e]
  refine atI_get' (k := i.toNat) ?_ (by omega)
  unfold optA
  rw [List.getElem?_map, List.getElem?_eq_getElem hl]
  rfl
theorem opt_ok {l : List Str} {n : Nat} {i : Int} : toOk (optA l n i) l := fun x h => by
  unfold optA at h
  cases e : (optL l n)[i.toNat]? with
  | none => rw [e] at h; cases h
  | some o =>
    rw [e] at h
    have h : o = some x := h
    subst h
    have := List.mem_of_getElem? e
    unfold optL at this
    rcases List.mem_append.mp this with q | q
    · obtain ⟨y, hy, e2⟩ := List.mem_map.mp q
      cases e2
      exact hy
    · cases (List.mem_replicate.mp q).2
section
variable (N : Nat → Int)
def bH : List Str := hs0.take (1 + N 0 % 6).toNat
def bN : List Str := ms0.take (1 + N 1 % 5).toNat
def bM (k : Nat) : Md := ⟨nth (bN N) k, triL (N (2 + k)) 1 (bH N), triL (N (2 + k)) 2 (bH N)⟩
def lotM (m : Int) : List Str := sortS (((List.range (bN N).length).filter fun n => decide (m / 2 ^ n % 2 = 0)).map (nth (bN N)))
def bC (k : Nat) : Cm := ⟨nth cs0 k, lotM N (N (9 + 2 * k)), triL (N (8 + 2 * k)) 1 (bH N), triL (N (8 + 2 * k)) 2 (bH N), optA (bN N) 3 (N (9 + 2 * k) / 32 % ((bN N).length + 3))⟩
def nC : Nat := (N 7 % 9).toNat
def bA (k : Nat) : Al := ⟨nth az0 k, triL (N (25 + k)) 1 (bH N), triL (N (25 + k)) 2 (bH N), optA (bN N) 2 (N (25 + k) / 7 % ((bN N).length + 2))⟩
def nA : Nat := (N 24 % 5).toNat
def bSt (k n : Nat) : Int × Str := (1 + (if N (30 + k) / 4 % 2 = 0 then N (33 + k) / 3 ^ n % 3 else N (33 + k) / 3 ^ n % 9), nth cs0 (N (33 + k) / 3 ^ n % (nC N)).toNat)
def nS (k : Nat) : Nat := (1 + N (30 + k) % 4).toNat
def bR (k : Nat) : Rw := ⟨nth rs0 k, (List.range (nS N k)).map (bSt N k)⟩
def nR : Nat := if 0 < nC N then (N 29 % 4).toNat else 0
def bQ : Option Int := if N 37 % 3 = 0 then none else if N 37 % 3 = 1 then some (1 + N 36 % 30) else some (1 + N 36 % 5)
/-- the drawn book -/
def bkN : Bk := ⟨bH N, (List.range (bN N).length).map (bM N), [], (List.range (nC N)).map (bC N), (List.range (nA N)).map (bA N), (List.range (nR N)).map (bR N), bQ N⟩
end
/-- a book of which the commands stand in order -/
def bD (b : Bk) : D := .tuple [.list (b.holds.map .str), .list (b.modes.map eM), .list (b.cmds.map eC), .list (b.alarms.map eA), .list (b.rows.map eR), eQ b.quiet]
structure BkL (b : Bk) : Prop where
  ok : BkOk b
  cs : sortS b.cn = b.cn
  hr : b.holds.Pairwise fun a b => ltS a b = true
  cI : ∀ x ∈ b.cn, x ∈ cs0
  aI : ∀ x ∈ b.an, x ∈ az0
  rI : ∀ x ∈ b.rn, x ∈ rs0
  br : b.barred = []
theorem rngN_get {n k : Nat} {d : D} (h : ((List.range n).map fun k => PyData.int ((k : Nat) : Int))[k]? = some d) : k < n ∧ d = .int (k : Int) := by
  rw [List.getElem?_map] at h
  obtain ⟨j, hj, rfl⟩ := Option.map_eq_some_iff.mp h
  obtain ⟨h1, h2⟩ := List.getElem?_eq_some_iff.mp hj
  rw [List.getElem_range] at h2
  rw [List.length_range] at h1
  subst h2
  exact ⟨h1, rfl⟩
/-! ### what the law makes of its book -/
def lawAs (b : Bk) (f : Int) : List Str := sortS (((List.range b.an.length).filter fun k => decide (f / 4 ^ k % 4 = 1)).map (nth b.an))
def lawO (b : Bk) (s : Int) : Od := if 0 < s % 3 then ((ordL b)[(s / 3 % ((ordL b).length : Int)).toNat]?).getD none else none
/-! ### inputs that are none -/
def bad0 : List (List Str × Od) := [(["none"], none), ([], doO "none"), ([], runO "none"), ([], some ["halt"]), ([], some ["do"]), ([], some ["stop", "c0"])]
def bad1 (b : Bk) : List (List Str × Od) := [((sortS b.an).reverse, none), ([nth b.an 0, nth b.an 0], none)]
structure BadI (b : Bk) (i : List Str × Od) : Prop where
  l : LotS i.1
  o : ∀ l, i.2 = some l → OksS l
  n : inpB b i.1 i.2 = false
end PL

set_option maxHeartbeats 1000000
/-! standings and their words: the plain law -/
namespace PL
open PySem PySem.Spec PyProof.Rows L2 RZ
structure Sg where
  m : Str
  on : List Str
  r : Option Str
  p : Int
  l : Int
  s : Int
def eG (s : Sg) : D := .tuple [.str s.m, eL s.on, eO s.r, .int s.p, .int s.l, .int s.s]
def stAt (st : List (Int × Str)) (p : Int) : Int × Str := st.getD p.toNat (0, ⟨#[]⟩)
def rowB (b : Bk) (r : Option Str) (p l : Int) : Bool := match r with
  | none => decide (p = 0) && decide (l = 0)
  | some r => match b.rows.find? fun w => decide (w.n = r) with
    | none => false
    | some w => (decide (0 ≤ p) && decide (p < (w.st.length : Int))) && (decide (1 ≤ l) && decide (l ≤ (stAt w.st p).1))
def mostZ (b : Bk) : Int := match b.quiet with
  | none => 1
  | some q => q
def isSt (b : Bk) (s : Sg) : Bool := (decide (s.m ∈ b.mn) && (isLotB s.on && inB s.on b.holds)) && (rowB b s.r s.p s.l && (decide (0 ≤ s.s) && decide (s.s < mostZ b)))
theorem isSt_iff {b : Bk} {s : Sg} : isSt b s = true ↔ s.m ∈ b.mn ∧ lotOfB s.on b.holds = true ∧ rowB b s.r s.p s.l = true ∧ 0 ≤ s.s ∧ s.s < mostZ b := by
  unfold isSt lotOfB
  simp only [Bool.and_eq_true, decide_eq_true_iff]
  constructor
  · rintro ⟨⟨h1, h2⟩, h3, h4, h5⟩
    exact ⟨h1, h2, h3, h4, h5⟩
  · rintro ⟨h1, h2, h3, h4, h5⟩
    exact ⟨⟨h1, h2⟩, h3, h4, h5⟩
theorem row_some {b : Bk} {r : Str} {p l : Int} (h : rowB b (some r) p l = true) : ∃ w ∈ b.rows, w.n = r ∧ 0 ≤ p ∧ p < (w.st.length : Int) ∧ 1 ≤ l ∧ l ≤ (stAt w.st p).1 := by
  unfold rowB at h
  dsimp only at h
  cases e : b.rows.find? fun w => decide (w.n = r) with
  | none => rw [e] at h; cases h
  | some w =>
    rw [e] at h
    dsimp only at h
    simp only [Bool.and_eq_true, decide_eq_true_iff] at h
    exact ⟨w, List.mem_of_find?_eq_some e, of_decide_eq_true (List.find?_some (p := fun w : Rw => decide (w.n = r)) e), h.1.1, h.1.2, h.2.1, h.2.2⟩
theorem find_row {b : Bk} (h : BkOk b) {w : Rw} (hw : w ∈ b.rows) : (b.rows.find? fun v => decide (v.n = w.n)) = some w := by
  cases e : b.rows.find? fun v => decide (v.n = w.n) with
  | none => exact absurd rfl (of_decide_eq_false (Bool.eq_false_iff.mpr (List.find?_eq_none.mp e w hw)))
  | some v =>
    have h1 := List.mem_of_find?_eq_some e
    have h2 : v.n = w.n := of_decide_eq_true (List.find?_some (p := fun v : Rw => decide (v.n = w.n)) e)
    obtain ⟨i, hi, rfl⟩ := List.mem_iff_getElem.mp h1
    obtain ⟨j, hj, rfl⟩ := List.mem_iff_getElem.mp hw
    have h3 : b.rn[i]'(by rw [List.length_map]; exact hi) = b.rn[j]'(by rw [List.length_map]; exact hj) := by rw [List.getElem_map, List.getElem_map]; exact h2
    have := (List.getElem_inj h.r.nd).mp h3
    subst this
    rfl
theorem row_mk {b : Bk} (h : BkOk b) {w : Rw} (hw : w ∈ b.rows) {p l : Int} (h1 : 0 ≤ p ∧ p < (w.st.length : Int)) (h2 : 1 ≤ l ∧ l ≤ (stAt w.st p).1) : rowB b (some w.n) p l = true := by
  unfold rowB
  dsimp only
  rw [find_row h hw]
  dsimp only
  simp only [Bool.and_eq_true, decide_eq_true_iff]
  exact ⟨h1, h2⟩
theorem st_mem {st : List (Int × Str)} {p : Int} (h : 0 ≤ p ∧ p < (st.length : Int)) : stAt st p ∈ st := by
  unfold stAt
  rw [List.getD_eq_getElem?_getD, List.getElem?_eq_getElem (by omega)]
  exact List.getElem_mem _
theorem st_at {st : List (Int × Str)} {p : Int} (h : 0 ≤ p ∧ p < (st.length : Int)) : atI (st.map eSt) p = some (eSt (stAt st p)) := by
  refine atI_get' (k := p.toNat) ?_ (by omega)
  unfold stAt
  rw [List.getElem?_map, List.getD_eq_getElem?_getD, List.getElem?_eq_getElem (by omega)]
  rfl
/-- the number of a row -/
def rowN (b : Bk) : Option Str → Int
  | none => 0
  | some r => 512 * (1 + (b.rn.idxOf r : Int))
def swN (b : Bk) (s : Sg) : Int := (b.mn.idxOf s.m : Int) + 8 * (bitsN b.holds s.on : Int) + rowN b s.r + 2048 * s.p + 8192 * s.l + 131072 * s.s
/-- what a word tells -/
def wdS (b : Bk) (w : Int) : Sg := ⟨nth b.mn (w % 8).toNat, lotN b.holds (w / 8 % 64), if w / 512 % 4 = 0 then none else some (nth b.rn (w / 512 % 4 - 1).toNat), w / 2048 % 4, w / 8192 % 16, w / 131072⟩
def wdOk (b : Bk) (w : Int) : Bool := (decide (w % 8 < (b.mn.length : Int)) && decide (w / 512 % 4 < (b.rn.length : Int) + 1)) && (isSt b (wdS b w) && decide (swN b (wdS b w) = w))
def wdD (b : Bk) (w : Int) : D := if wdOk b w = true then eG (wdS b w) else .none
theorem most_pos {b : Bk} (h : BkOk b) : 1 ≤ mostZ b ∧ mostZ b ≤ 30 := by
  unfold mostZ
  cases e : b.quiet with
  | none => exact ⟨by decide, by decide⟩
  | some q => exact h.q q e
/-! ### effects -/
/-- of the holds that are on, some turned on, some off -/
def appL (on : List Str) (t : List Str × List Str) : List Str := (on.filter fun x => !decide (x ∈ t.2) && !decide (x ∈ t.1)) ++ t.1
/-- holds without a double -/
structure HsOk (b : Bk) (l : List Str) : Prop where
  nd : l.Nodup
  sub : ∀ x ∈ l, x ∈ b.holds
theorem hs_app {b : Bk} {l : List Str} {t : List Str × List Str} (h : HsOk b l) (h1 : HsOk b t.1) : HsOk b (appL l t) where
  nd := by
    unfold appL
    rw [List.nodup_append]
    refine ⟨h.nd.sublist List.filter_sublist, h1.nd, fun x hx y hy e => ?_⟩
    subst e
    have := (List.mem_filter.mp hx).2
    rw [Bool.and_eq_true, Bool.not_eq_true', Bool.not_eq_true', decide_eq_false_iff_not, decide_eq_false_iff_not] at this
    exact this.2 hy
  sub := fun x hx => by
    unfold appL at hx
    rcases List.mem_append.mp hx with hx | hx
    · exact h.sub x (List.mem_filter.mp hx).1
    · exact h1.sub x hx
theorem hs_len {b : Bk} {l : List Str} (hb : BkOk b) (h : HsOk b l) : l.length ≤ 6 := Nat.le_trans (nodup_len h.nd h.sub) hb.h.hi
theorem hs_lot {b : Bk} {l : List Str} (hb : BkOk b) (h : HsOk b l) : lotOfB (sortS l) b.holds = true := pick_lot hb.h.nm h.nd h.sub
theorem lot_hs {b : Bk} {l : List Str} (h : lotOfB l b.holds = true) : HsOk b l := ⟨lot_nd (lotOf h).1, (lotOf h).2⟩
theorem turn_hs {b : Bk} {on off : List Str} (h : turnB on off b.holds = true) : HsOk b on := lot_hs (turn_of h).1
section
variable {X : Cx} {Γ : Ga} {a b : Expr} {pos : Pos}
end
def eT (t : List Str × List Str) : D := .tuple [eL t.1, eL t.2]
def rowsE (b : Bk) (t : List Str × List Str) (to : Option Str) : List (List Str × List Str) := t :: (match to with | none => [] | some x => (b.modes.filter fun m => decide (m.n = x)).map fun m => (m.on, m.off))
def effR (b : Bk) (on : List Str) (t : List Str × List Str) (to : Option Str) : List Str := (rowsE b t to).foldl appL on
theorem fold_hs {b : Bk} : ∀ (ts : List (List Str × List Str)) (on : List Str), HsOk b on → (∀ t ∈ ts, HsOk b t.1) → HsOk b (ts.foldl appL on)
  | [], on, h, _ => h
  | t :: r, on, h, ht => fold_hs r _ (hs_app h (ht t List.mem_cons_self)) fun x hx => ht x (List.mem_cons_of_mem _ hx)
theorem rowsE_hs {b : Bk} (h : BkOk b) {t : List Str × List Str} (ht : HsOk b t.1) (to : Option Str) : ∀ x ∈ rowsE b t to, HsOk b x.1 := fun x hx => by
  rcases List.mem_cons.mp hx with rfl | hx
  · exact ht
  · cases to with
    | none => cases hx
    | some y =>
      obtain ⟨m, hm, rfl⟩ := List.mem_map.mp hx
      exact turn_hs (h.mT m (List.mem_filter.mp hm).1)
theorem eff_hs {b : Bk} (h : BkOk b) {on : List Str} (ho : HsOk b on) {t : List Str × List Str} (ht : HsOk b t.1) (to : Option Str) : HsOk b (effR b on t to) := fold_hs _ _ ho (rowsE_hs h ht to)
theorem filter_one {α : Type} (f : α → Str) : ∀ {l : List α}, (l.map f).Nodup → ∀ m ∈ l, (l.filter fun x => decide (f x = f m)) = [m]
  | x :: l, h, m, hm => by
    obtain ⟨h1, h2⟩ := List.nodup_cons.mp h
    rcases List.mem_cons.mp hm with rfl | hm
    · rw [List.filter_cons_of_pos (by simp), List.filter_eq_nil_iff.mpr fun y hy e => ?_]
      exact h1 (of_decide_eq_true e ▸ List.mem_map_of_mem hy)
    · rw [List.filter_cons_of_neg, filter_one f h2 m hm]
      intro e
      exact h1 (of_decide_eq_true e ▸ List.mem_map_of_mem hm)
theorem mode_one {b : Bk} (h : BkOk b) {m : Md} (hm : m ∈ b.modes) : (b.modes.filter fun x => decide (x.n = m.n)) = [m] := filter_one Md.n h.m.nd m hm
theorem cmd_one {b : Bk} (h : BkOk b) {m : Cm} (hm : m ∈ b.cmds) : (b.cmds.filter fun x => decide (x.n = m.n)) = [m] := filter_one Cm.n h.c.nd m hm
theorem row_one {b : Bk} (h : BkOk b) {m : Rw} (hm : m ∈ b.rows) : (b.rows.filter fun x => decide (x.n = m.n)) = [m] := filter_one Rw.n h.r.nd m hm
theorem eff_to {b : Bk} {to : Option Str} {m : Str} (h : toOk to b.mn) (hm : m ∈ b.mn) : to.getD m ∈ b.mn := by
  cases to with
  | none => exact hm
  | some x => exact h x rfl
/-- what holds within a step: mode, holds that are on, row -/
structure MidS (b : Bk) (m : Str) (on : List Str) (r : Option Str) (p l : Int) : Prop where
  m : m ∈ b.mn
  on : lotOfB on b.holds = true
  row : rowB b r p l = true
end PL

set_option maxHeartbeats 1000000
namespace PL
open PySem PySem.Spec PyProof.Rows L2 RZ
section
variable {X : Cx} {J : Jd} {N : Nd} {Γ : Ga} {a b c : Expr} {pos : Pos} {d1 d2 d3 : List D}
end
section
variable {X : Cx} {Γ : Ga} {a b : Expr} {i j : Bool}
end
/-- a drawn standing -/
def drawOn (b : Bk) (f : Int) : List Str := ((List.range b.holds.length).filter fun k => decide (f / 2 ^ k % 2 = 1)).map (nth b.holds)
def drawM (b : Bk) (s : Int) : Str := nth b.mn (s % (b.mn.length : Int)).toNat
def drawQ (b : Bk) (t : Int) : Int := match b.quiet with
  | none => 0
  | some q => t % q
def drawW (b : Bk) (s : Int) : Rw := b.rows.getD (s / 15 % (b.rows.length : Int)).toNat ⟨⟨#[]⟩, []⟩
def drawP (b : Bk) (s t : Int) : Int := t / 30 % ((drawW b s).st.length : Int)
def drawS (b : Bk) (f s t : Int) : Sg := if b.rows.length = 0 ∨ s / 5 % 3 = 0 then ⟨drawM b s, drawOn b f, none, 0, 0, drawQ b t⟩ else ⟨drawM b s, drawOn b f, some (drawW b s).n, drawP b s t, 1 + f / 64 % (stAt (drawW b s).st (drawP b s t)).1, drawQ b t⟩
end PL

set_option maxHeartbeats 4000000
namespace PL
open PySem PySem.Spec PyProof.Rows L2
/-! ### fields: read from an object of our own, set in rows, augmented -/
/-- a field at an address -/
def gFld (K : PySem.W.Frag) (ta : TE) (f : Str) : TG := fun v σ H Q => ta σ H fun x H2 => ∃ a C dx fs, x = .ref a ∧ H2 a = some (.ins C dx fs) ∧ Cls K C ∧ NoAttr K C f ∧ fs.length < 1000 ∧ Q σ (upd H2 a (.ins C dx (putF f v fs)))
theorem pg_fld {X : Cx} {o : Expr} {f : Str} {pos : Pos} {ta : TE} (ha : PE X o ta) : PG X (.Attribute o f pos) (gFld X.K ta f) := by
  refine ⟨fun pins s σ H v u Q I r h => ?_⟩
  refine PySem.W.kas_attr (thn (ha.run pins s σ H _ I h) fun ov s2 ⟨x, H2, I2, rx, a, C, dx, fs, ex, ea, c, n, l, q2⟩ => ?_)
  subst ex
  obtain rfl : ov = Value.ref a := rx
  exact setattr_ok I2 ea c n l r fun s3 I3 => ⟨σ, _, I3, q2⟩
theorem FlO.getP {K : PySem.W.Frag} {B H : Hp} {f : Str} {P : Mn} : ∀ {vs : List (Str × V)} {Ss : List (Str × Sl)} {F : List Addr}, FlO K B H vs Ss F → Ss.lookup f = some (.pr P) → ∃ v, vs.lookup f = some v ∧ P.p K B v
  | _, _, _, .nil, h => nomatch h
  | _, _, _, .pr (f := g) h t, e => by
    rw [List.lookup_cons] at e ⊢
    by_cases q : (f == g) = true
    · rw [q] at e ⊢
      cases e
      exact ⟨_, rfl, h⟩
    · have q : (f == g) = false := by simpa using q
      rw [q] at e ⊢
      exact t.getP e
  | _, _, _, .ob (f := g) h d t, e => by
    rw [List.lookup_cons] at e ⊢
    by_cases q : (f == g) = true
    · rw [q] at e
      cases e
    · have q : (f == g) = false := by simpa using q
      rw [q] at e ⊢
      exact t.getP e
section
variable {X : Cx} {J : Jd} {N : Nd} {Γ : Ga} {e : Expr} {es : List Expr} {P : Mn} {W W' : Ow} {d : D} {ds : List D} {pos p : Pos} {own f : Str} {Ss Ss' Ss1 : List (Str × Sl)} {fl : List Str}
/-- W is seen as V -/
def Inn (V W : Ow) : Prop := ∀ K B H v F, W.p K B H v F → V.p K B H v F
theorem innP {W : Ow} {v0 : V} : Inn W (pinO W v0) := fun _ _ _ _ _ h => h.2
/-- x.f, a plain field of the object of our own in the slot i -/
theorem go_fldW (i : Nat) {x : Str} {p' : Pos} (O : ClsOk X.K own fl) (hΓ : Γ[i]? = some (.ob W)) (hp : Inn (insO own Ss) W) (hf : Ss.lookup f = some (.pr P) := by rfl) (hm : f ∈ fl := by first | exact List.mem_cons_self | decide)
    (hN : X.N[i]? = some x := by rfl) (hv : Vis X.env.scope x := by first | exact Or.inl rfl | exact Or.inr (Or.inl rfl) | exact Or.inr (Or.inr rfl)) (hd : (x == ("__debug__" : Str)) = false := by decide) (hcd : (x == ("__classdict__" : Str)) = false := by decide)
    (hb : attributeBase (.Name x p') f X.env (eval (.Name x p') X.env) = eval (.Name x p') X.env := by rfl) : GoP X Γ (.Attribute (.Name x p') f pos) P := .mk fun σ B H Fs E Q q => by
  obtain ⟨u, h1, h2⟩ := E.at_ i _ hΓ
  obtain ⟨C, a, dx, vs, F', c1, rfl, c3, c4, c5, c6⟩ := hp _ _ _ _ _ h2
  obtain ⟨v, g1, g2⟩ := c6.getP hf
  exact toE (pe_fld (pe_var hN hv hd hcd) hb) ⟨_, h1, a, C, dx, vs, v, rfl, c5, O.cl C c1, O.na C f c1 hm, g1, q v B H (.same E.bh) g2⟩
/-! tests that change the thing of the slot i -/
theorem goTM_val {i : Nat} {k : Bool} (h : GoM X Γ e i W (datP (.bool k))) (he : ∀ whole, isTrue e X.env whole = (do let v ← whole; standAt e.pos; holding [v] (truthy v)) := by intro _; rfl) : GoTM X Γ e i W k := .mk fun σ B H Fs E Q q =>
  toT (pt_val sE he) (h.run σ B H Fs E _ fun v v0 B2 H2 F2 m r h1 hW hF => ⟨k, dp_bl r, q v0 B2 H2 F2 m h1 hW hF⟩)
theorem goTM_not {i : Nat} {k : Bool} (h : GoTM X Γ e i W k) : GoTM X Γ (.UnaryOp .Not e pos) i W (!k) := .mk fun σ B H Fs E Q q => toT (pt_not sT) (h.run σ B H Fs E _ q)
theorem goWM_and1 {i : Nat} {k : Bool} (h : GoTM X Γ e i W k) : GoWM X Γ (.BoolOp .And [e] pos) i W k := .mk fun σ B H Fs E Q q => toW (pw_and1 sT) (h.run σ B H Fs E _ q)
theorem goWM_andP {i : Nat} {k : Bool} {a b : Expr} {rest : List Expr} (h : GoT X Γ a true) (h2 : GoWM X Γ (.BoolOp .And (b :: rest) pos) i W k) : GoWM X Γ (.BoolOp .And (a :: b :: rest) pos) i W k := .mk fun σ B H Fs E Q q =>
  toW (pw_and sT sW) (h σ B H Fs E _ fun B1 H1 n1 => iteT (h2.run σ B1 H1 Fs (E.nw n1) _ fun v0 B2 H2 F2 m hσ hW hF => q v0 B2 H2 F2 (n1.thenMu m) hσ hW fun b hb => ⟨(hF b hb).1, (hF b hb).2.imp id fun z => n1.hh.none z⟩))
/-! x.f1, x.f2, .. = e -/
structure GoFs (X : Cx) (i : Nat) (own : Str) (es : List Expr) (ds : List D) (Ss Ss' : List (Str × Sl)) : Prop where
  run : ∀ (σ : L2.St) (B H : Hp) (u : V) (F : List Addr) (vs : List V), σ[i]? = some (some u) → Ex B H → (insO own Ss).p X.K B H u F → (∀ a ∈ F, B a = none) → Ss.length + ds.length < 900 → DpAll X.K B vs ds → ∀ Q : L2.St → Hp → Prop,
    (∀ H2 F2, Mu F B H B H2 → (insO own Ss').p X.K B H2 u F2 → (∀ a ∈ F2, a ∈ F) → Q σ H2) → wpGs X es vs σ H Q
theorem putS_len (f : Str) (s : Sl) : ∀ Ss : List (Str × Sl), (putS f s Ss).length ≤ Ss.length + 1
  | [] => Nat.le_refl _
  | (g, t) :: r => by
    unfold putS
    split
    · exact Nat.le_succ _
    · exact Nat.succ_le_succ (putS_len f s r)
theorem gofs_nil {i : Nat} : GoFs X i own [] [] Ss Ss := .mk fun σ B H u F vs h1 hB hW hF hl r Q q => by
  cases r
  exact toGs pgs_nil ⟨rfl, q H F ⟨.refl B, hB, fun _ _ h _ => h, fun _ h => h, fun _ h _ => h⟩ hW fun _ h => h⟩
theorem gofs_cons {i : Nat} {x : Str} {p' q' : Pos} (O : ClsOk X.K own fl) (ht : GoFs X i own es ds (putS f (.dat d) Ss) Ss') (hm : f ∈ fl := by first | exact List.mem_cons_self | decide)
    (hN : X.N[i]? = some x := by rfl) (hv : Vis X.env.scope x := by first | exact Or.inl rfl | exact Or.inr (Or.inl rfl) | exact Or.inr (Or.inr rfl)) (hd : (x == ("__debug__" : Str)) = false := by decide) (hcd : (x == ("__classdict__" : Str)) = false := by decide)
    (hs : (assignEach (.Attribute (.Name x p') f q' :: es) X.env).map (·.2) = assign (.Attribute (.Name x p') f q') X.env :: (assignEach es X.env).map (·.2) := by rfl) : GoFs X i own (.Attribute (.Name x p') f q' :: es) (d :: ds) Ss Ss' := .mk fun σ B H u F vs h1 hB hW hF hl r Q q => by
  have hl2 := putS_len f (.dat d) Ss
  rw [List.length_cons] at hl
  cases r with
  | cons r rr =>
    rename_i v vs'
    obtain ⟨C, a, dx, fs, F', c1, rfl, c3, c4, c5, c6⟩ := hW
    obtain ⟨F2, g1, g2⟩ := c6.putP (f := f) (P := datP d) r
    have hBa : B a = none := hF a (by rw [c3]; exact List.mem_cons_self)
    have m : Mu F B H B (upd H a (.ins C dx (putF f v fs))) := ⟨.refl _, fun b o z => by
      have nb : b ≠ a := fun q => by rw [q, hBa] at z; cases z
      rw [upd_ne nb]
      exact hB b o z, fun b o z hb => by
      rw [upd_ne (fun q => hb (by rw [q, c3]; exact List.mem_cons_self))]
      exact z, fun b z q => by
      by_cases y : b = a
      · rw [y, upd_same] at q
        cases q
      · rw [upd_ne y] at q
        exact z q, fun _ z _ => z⟩
    have na : a ∉ F2 := fun z => c4 (g2 a z)
    have sub : ∀ b ∈ a :: F2, b ∈ F := fun b hb => by
      rw [c3]
      rcases List.mem_cons.mp hb with rfl | hb
      · exact List.mem_cons_self
      · exact List.mem_cons_of_mem _ (g2 b hb)
    refine toGs (pgs_cons (pg_fld (pe_var hN hv hd hcd)) sGs hs) ⟨_, _, rfl, _, h1, a, C, dx, fs, rfl, c5, O.cl C c1, O.na C f c1 hm, by rw [c6.len]; omega, ?_⟩
    refine ht.run σ B _ (.ref a) (a :: F2) vs' h1 m.bh ⟨C, a, dx, _, F2, c1, rfl, rfl, na, upd_same, FlO.loc (fun b hb => upd_ne fun z => na (z ▸ hb)) g1⟩ (fun b hb => hF b (sub b hb)) (by omega) rr _ fun H3 F3 m3 w3 s3 => ?_
    exact q H3 F3 ⟨.refl _, m3.bh, fun b o h hb => m3.hh b o (m.hh b o h hb) fun z => hb (sub b z), fun b h => m3.hd b (m.hd b h), fun _ z _ => z⟩ w3 fun b hb => sub b (s3 b hb)
theorem rs_unpF (i : Nat) {k n : Nat} {tp : Pos} (he : Go X Γ e (.tuple ds)) (hg : GoFs X i own es ds Ss Ss1) (hc : X.calm = true) (hΓ : Γ[i]? = some (.ob W)) (hp : Pin (insO own Ss) (insO own Ss') W W') (h : N.nx (Γ.set i (.ob W'))) (hSS : Ss1 = Ss' := by first | rfl | decide +kernel) (hlen : Ss.length + ds.length < 900 := by exact Nat.le_of_ble_eq_true rfl) (hi : i < Γ.length := by first | decide | exact of_decide_eq_true rfl | exact Nat.le_of_ble_eq_true rfl | (simp only [List.length_set, List.length_cons, List.length_nil]; decide))
    (hl : ds.length = n := by rfl) (hn : (assignEach es X.env).length = n := by rfl) (hst : (assignEach es X.env).findIdx? (·.1) = none := by rfl) (hs : swapsWithSole [.Tuple es k tp] e pos.line X.env = pure false := by rfl) (hw : swappedStores [.Tuple es k tp] e X.env = pure none := by rfl)
    (h1 : (assignEach [.Tuple es k tp] X.env).map (·.2) = [assign (.Tuple es k tp) X.env] := by rfl) : RnS X J N Γ (.Assign [.Tuple es k tp] e pos) := .mk fun B0 σ B H Fs E j' =>
  toS (ps_asg sE (pg_tup hc sGs hn hst) hs hw h1) (he σ B H Fs E _ fun v B2 H2 n2 r => by
    subst hSS
    obtain ⟨a, vs, rfl, t2, t3⟩ := dp_tup r
    have E2 := E.nw n2
    obtain ⟨u, e1, e2⟩ := E2.at_ i _ hΓ
    obtain ⟨i1, i2⟩ := hp.inn e2
    refine ⟨a, vs, rfl, n2.bh.st t2, by rw [dps_len t3]; exact hl, hg.run σ B2 H2 u (Fs i) vs e1 n2.bh i1 (fun b hb => (E2.fre i b hb).1) hlen t3 _ fun H3 F3 m w3 s3 => ?_⟩
    exact ⟨B2, _, _, E2.mu m hi e1 (i2 _ _ _ w3) fun b hb => ⟨(E2.fre i b (s3 b hb)).1, .inl (s3 b hb)⟩, (j'.nw n2).mu m fun b hb => .inl (s3 b hb), h⟩)
/-- x.f += e, x.f -= e, whole numbers -/
theorem rs_augF {op : Operator} {g : Int → Int → Int} {z w : Int} {rd : V → V → Hp → VK → Prop} (i : Nat) {x : Str} {p' q' : Pos} (O : ClsOk X.K own fl) (he : Go X Γ e (.int w)) (hop : InOp X op rd) (hrd : ∀ H Q, Q (.int (g z w)) H → rd (.int z) (.int w) H Q) (hΓ : Γ[i]? = some (.ob W)) (hp : Pin (insO own Ss) (insO own Ss') W W') (h : N.nx (Γ.set i (.ob W'))) (hf : Ss.lookup f = some (.dat (.int z)) := by rfl) (hS : putS f (.dat (.int (g z w))) Ss = Ss' := by repeat (first | rfl | (unfold putS; first | rw [if_neg (by decide +kernel)] | rw [if_pos rfl]))) (hi : i < Γ.length := by first | decide | exact of_decide_eq_true rfl | exact Nat.le_of_ble_eq_true rfl | (simp only [List.length_set, List.length_cons, List.length_nil]; decide)) (hl : Ss.length < 900 := by first | decide | exact of_decide_eq_true rfl | (simp only [List.length_set, List.length_cons, List.length_nil]; decide)) (hm : f ∈ fl := by first | exact List.mem_cons_self | decide)
    (hN : X.N[i]? = some x := by rfl) (hv : Vis X.env.scope x := by first | exact Or.inl rfl | exact Or.inr (Or.inl rfl) | exact Or.inr (Or.inr rfl)) (hd : (x == ("__debug__" : Str)) = false := by decide) (hcd : (x == ("__classdict__" : Str)) = false := by decide) : RnS X J N Γ (.AugAssign (.Attribute (.Name x p') f q') op e pos) := .mk fun B0 σ B H Fs E j' => by
  subst hS
  obtain ⟨u, h1, h2⟩ := E.at_ i _ hΓ
  obtain ⟨i1, _⟩ := hp.inn h2
  obtain ⟨C, a, dx, vs, F', c1, rfl, c3, c4, c5, c6⟩ := i1
  obtain ⟨v, g1, g2⟩ := c6.getP hf
  refine toS (ps_fldaug (pe_var hN hv hd hcd) sE hop) ⟨_, h1, a, C, dx, vs, v, rfl, c5, O.cl C c1, O.na C f c1 hm, g1, he σ B H Fs E _ fun y B2 H2 n r => ?_⟩
  rw [dp_int g2, dp_int r]
  refine hrd H2 _ ?_
  have E2 := E.nw n
  obtain ⟨u', h1', h2'⟩ := E2.at_ i _ hΓ
  rw [h1] at h1'
  cases h1'
  obtain ⟨i1, i2⟩ := hp.inn h2'
  obtain ⟨C', a', dx', vs', F'', c1', e', c3', c4', c5', c6'⟩ := i1
  cases e'
  cases c1.eq c1'
  obtain ⟨F2, k1, k2⟩ := c6'.putP (f := f) (P := datP (.int (g z w))) (show Dp X.K B2 (.int (g z w)) _ from Dp.int _)
  have m : Mu (Fs i) B2 H2 B2 (upd H2 a (.ins C dx' (putF f (.int (g z w)) vs'))) := ⟨.refl _, fun b o z => by
    have nb : b ≠ a := fun q => by
      have := (E2.fre i a (by rw [c3']; exact List.mem_cons_self)).1
      rw [q, this] at z
      cases z
    rw [upd_ne nb]
    exact n.bh b o z, fun b o z hF => by
    rw [upd_ne (fun q => hF (by rw [q, c3']; exact List.mem_cons_self))]
    exact z, fun b z q => by
    by_cases y : b = a
    · rw [y, upd_same] at q
      cases q
    · rw [upd_ne y] at q
      exact z q, fun _ z _ => z⟩
  have na : a ∉ F2 := fun z => c4' (k2 a z)
  have sub : ∀ b ∈ a :: F2, b ∈ Fs i := fun b hb => by
    rw [c3']
    rcases List.mem_cons.mp hb with rfl | hb
    · exact List.mem_cons_self
    · exact List.mem_cons_of_mem _ (k2 b hb)
  exact ⟨dx', vs', c5', by rw [c6'.len]; omega, B2, _, _, E2.mu m hi h1 (F2 := a :: F2) (i2 _ _ _ ⟨C, a, dx', _, F2, c1, rfl, rfl, na, upd_same, FlO.loc (fun b hb => upd_ne fun z => na (z ▸ hb)) k1⟩) (fun b hb => ⟨(E2.fre i b (sub b hb)).1, .inl (sub b hb)⟩), (j'.nw n).mu m (fun b hb => .inl (sub b hb)), h⟩
end
section
variable {X : Cx} {J : Jd} {N : Nd} {Γ : Ga} {a b c : Expr} {es : List Expr} {pos : Pos} {d1 d3 : D} {W : Ow} {dss : List (List D)}
/-- ([..], [..], ..), a tuple of new lists -/
theorem goU_tl {k0} (h : GoNs X Γ es dss) (hl : dss.length ≤ sizeLine := by show _ ≤ _; simp only [List.length]; decide) : GoU X Γ (.Tuple es k0 pos) (tlO dss) := .mk fun σ B H Fs E Q q =>
  toE (pe_tup sA) (h σ B H Fs E _ fun ps B1 H1 n1 hps nd ll => by
    refine ⟨by rw [List.length_map, ll.len]; exact hl, fun p hp => ?_⟩
    have np : p ∉ ps := fun z => ll.dom p z hp
    refine q _ (p :: ps) B1 _ (n1.trans (.lay n1.bh hp)) ⟨p, ps, rfl, rfl, upd_same, List.nodup_cons.mpr ⟨np, nd⟩, ll.mono (.refl _) fun a ha => upd_ne fun z => np (z ▸ ha)⟩ fun a ha => ?_
    rcases List.mem_cons.mp ha with e | e
    · rw [e]
      exact ⟨n1.hh.none hp, n1.bh.none hp⟩
    · exact hps a e)
/-- x, y, z = data, a new thing, data -/
theorem rs_par3M (i j l : Nat) {x y z : Str} {px py pz pt pt2 : Pos} {kt k2} (ha : Go X Γ a d1) (hb : GoU X Γ b W) (hc3 : Go X Γ c d3) (h : N.nx (((Γ.set i (.dat d1)).set j (.ob W)).set l (.dat d3))) (hN : X.N.Nodup) (hc : X.calm = true) (hij : i ≠ j) (hil : i ≠ l) (hjl : j ≠ l) (hi : X.N[i]? = some x := by rfl) (hj : X.N[j]? = some y := by rfl) (hl : X.N[l]? = some z := by rfl)
    (hx : X.env.scope.names.lookup x = some .local := by rfl) (hy : X.env.scope.names.lookup y = some .local := by rfl) (hz : X.env.scope.names.lookup z = some .local := by rfl)
    (hw : swappedStores [.Tuple [.Name x px, .Name y py, .Name z pz] kt pt] (.Tuple [a, b, c] k2 pt2) X.env = pure (some [x, y, z]) := by rfl)
    (hs : swapsWithSole [.Tuple [.Name x px, .Name y py, .Name z pz] kt pt] (.Tuple [a, b, c] k2 pt2) pos.line X.env = pure false := by rfl)
    (he1 : starEach [a, b, c] X.env = (false, eval a X.env) :: starEach [b, c] X.env := by rfl) (he2 : starEach [b, c] X.env = (false, eval b X.env) :: starEach [c] X.env := by rfl) (he3 : starEach [c] X.env = (false, eval c X.env) :: starEach [] X.env := by rfl) :
    RnS X J N Γ (.Assign [.Tuple [.Name x px, .Name y py, .Name z pz] kt pt] (.Tuple [a, b, c] k2 pt2) pos) := .mk fun B0 σ B H Fs E jn =>
  toS (ps_par3 hc hN hi hj hl hij hil hjl hx hy hz (pa_cons sE (pa_cons sE (pa_cons sE pa_nil he3) he2) he1) hw hs) (ha σ B H Fs E _ fun v1 B1 H1 n1 r1 => hb σ B1 H1 Fs (E.nw n1) _ fun v2 F B2 H2 n2 w2 f2 => hc3 σ B2 H2 Fs ((E.nw n1).nw n2) _ fun v3 B3 H3 n3 r3 => by
    have n23 := n2.trans n3
    have n := n1.trans n23
    have w3 : W.p X.K B3 H3 v2 F := keepW w2 n3
    have hF : ∀ a ∈ F, H a = none ∧ B3 a = none := fun a ha => ⟨n1.hh.none (f2 a ha).1, n3.nu a (f2 a ha).2 (W.dom w2 a ha)⟩
    have E1 := ((E.nw n).setP i (P := datP d1) (dpUp n23.bb r1)).setO (P := W) (F := F) j w3 (fun a ha => (hF a ha).2) fun k a ha hm => (E.fre k a (off_sub ha)).2 (hF a hm).1
    refine ⟨_, _, _, rfl, B3, _, _, E1.setP l (P := datP d3) r3, ((((jn.nw n).sub fun _ _ z => off_sub z).lay (i := j) (F := F) fun a ha => ?_).sub fun _ _ z => off_sub z), h⟩
    cases q : J.H a with
    | none => rfl
    | some o => exact absurd (hF a ha).1 (jn.h1 a (by rw [q]; exact fun z => nomatch z)))
end
/-! ### a def whose last argument is changed -/
def spWL (K : PySem.W.Frag) (S : Ow → List Mn → Mn → Ow → Prop) : Sp := fun vs H Q _ => ∃ (W : Ow) (Ps : List Mn) (R : Mn) (W' : Ow) (B : Hp) (v0 : V) (us : List V) (F : List Addr), S W Ps R W' ∧ vs = us ++ [v0] ∧ Ex B H ∧ W.p K B H v0 F ∧ (∀ a ∈ F, B a = none) ∧ MnAll K B us Ps ∧
  ∀ v B2 H2 F2, Mu F B H B2 H2 → R.p K B2 v → W'.p K B2 H2 v0 F2 → (∀ a ∈ F2, B2 a = none ∧ (a ∈ F ∨ H a = none)) → Q v H2
def entryL (W : Ow) (Ps : List Mn) (n : Nat) : Ga := Ps.map Sl.pr ++ (.ob W :: List.replicate (n - Ps.length - 1) .any)
theorem mns_get {K : PySem.W.Frag} {B : Hp} : ∀ {us : List V} {Ps : List Mn}, MnAll K B us Ps → ∀ (i : Nat) (P : Mn), Ps[i]? = some P → ∃ v, us[i]? = some v ∧ P.p K B v
  | _, _, .nil, i, P, h => by simp at h
  | _, _, .cons h t, 0, P, e => by
    simp only [List.getElem?_cons_zero, Option.some.injEq] at e
    subst e
    exact ⟨_, rfl, h⟩
  | _, _, .cons h t, i + 1, P, e => by
    obtain ⟨v, h1, h2⟩ := mns_get t i P (by simpa using e)
    exact ⟨v, by simpa using h1, h2⟩
theorem mns_len {K : PySem.W.Frag} {B : Hp} : ∀ {us : List V} {Ps : List Mn}, MnAll K B us Ps → us.length = Ps.length
  | _, _, .nil => rfl
  | _, _, .cons _ t => congrArg (· + 1) (mns_len t)
theorem en_entryL {K : PySem.W.Frag} {B H : Hp} {v0 : V} {us : List V} {W : Ow} {Ps : List Mn} {L : List Str} {F : List Addr} (hB : Ex B H) (hW : W.p K B H v0 F) (hF : ∀ a ∈ F, B a = none) (h : MnAll K B us Ps) (hl : Ps.length < L.length) :
    En K B H (L2.start L (us ++ [v0])) (entryL W Ps L.length) fun i => if i = Ps.length then F else [] := by
  have hu := mns_len h
  have e1 : L2.start L (us ++ [v0]) = us.map some ++ (some v0 :: List.replicate (L.length - Ps.length - 1) none) := by
    unfold L2.start
    rw [List.map_append, List.append_assoc, List.length_append, hu]
    show us.map some ++ ([some v0] ++ List.replicate (L.length - (Ps.length + 1)) none) = _
    rw [Nat.sub_add_eq]
    rfl
  rw [e1]
  unfold entryL
  have lenA : (us.map some).length = Ps.length := by rw [List.length_map, hu]
  have lenB : (Ps.map Sl.pr).length = Ps.length := List.length_map _
  refine ⟨hB, by simp [hu], fun i s hs => ?_, fun i a ha => ?_, fun i j a h1 h2 => ?_⟩
  · by_cases q : i < Ps.length
    · rw [List.getElem?_append_left (by rw [lenB]; exact q)] at hs
      rw [List.getElem?_append_left (by rw [lenA]; exact q)]
      rw [List.getElem?_map] at hs ⊢
      obtain ⟨P, hP, rfl⟩ := Option.map_eq_some_iff.mp hs
      obtain ⟨v, g1, g2⟩ := mns_get h i P hP
      rw [g1]
      exact ⟨v, rfl, g2⟩
    · rw [List.getElem?_append_right (by rw [lenB]; omega), lenB] at hs
      rw [List.getElem?_append_right (by rw [lenA]; omega), lenA]
      by_cases q2 : i = Ps.length
      · subst q2
        rw [Nat.sub_self] at hs ⊢
        simp only [List.getElem?_cons_zero, Option.some.injEq] at hs
        subst hs
        rw [if_pos rfl]
        exact ⟨v0, rfl, hW⟩
      · obtain ⟨k, hk⟩ : ∃ k, i - Ps.length = k + 1 := ⟨i - Ps.length - 1, by omega⟩
        rw [hk] at hs
        rw [List.getElem?_cons_succ, List.getElem?_replicate] at hs
        split at hs
        · cases hs
          trivial
        · cases hs
  · by_cases e : i = Ps.length
    · rw [if_pos e] at ha
      exact ⟨hF a ha, W.dom hW a ha⟩
    · rw [if_neg e] at ha
      cases ha
  · by_cases e1 : i = Ps.length
    · by_cases e2 : j = Ps.length
      · rw [e1, e2]
      · rw [if_neg e2] at h2
        cases h2
    · rw [if_neg e1] at h1
      cases h1
abbrev ndL (n : Nat) (R : Mn) (W' : Ow) (v0 : V) : Nd := { nx := fun Γ' => Γ'[n]? = some (.ob (pinO W' v0)) ∧ ∀ K B, R.p K B .non, rt := R, rG := fun Γ' => Γ'[n]? = some (.ob (pinO W' v0)) }
section
variable {P : Program} {w : World} {K : PySem.W.Frag} {mg : Str → Option Value} {base : Heap}
theorem fL_ok {x : Str} {st : Stmt} {L ps : List Str} {k n : Nat} {S : Ow → List Mn → Mn → Ow → Prop} (Df : Dfn K mg x st ps) (Sc : FnScope L ps (defScope st)) (hl : ∀ W Ps R W', S W Ps R W' → Ps.length = n) (hn : n + 1 = ps.length) (hL : n < L.length)
    (body : ∀ W Ps R W', S W Ps R W' → ∀ (v0 : V) (f : Addr) (cdv : Value) (A : Around) (outer : List Env) (s : Shared) (H : Hp) (E : XK), Room k (A.deeper (envOfC x (defScope st) s.heap.objs.size f cdv)) → ∀ J : Jd, J.S = [n] →
      Rn (cxOf CX0 P w K mg base L x (defScope st) f cdv A outer s H E).nox J (ndL n R W' v0) (entryL (pinO W v0) Ps L.length) (defBody st)) : CalF P w K mg base CX0 x ps (k + 1) (spWL K S) := by
  obtain ⟨f, fd, F, m, b⟩ := Df.ex
  refine ⟨f, fd, F.ok Sc (fun vs H Q E h => ?_) fun cdv A outer s H vs Q E hr h => ?_, m, F.kp, b⟩
  · obtain ⟨W, Ps, R, W', B, v0, us, F, hS, rfl, _, _, _, h, _⟩ := h
    rw [List.length_append, mns_len h, hl _ _ _ _ hS]
    exact hn
  · obtain ⟨W, Ps, R, W', B, v0, us, F, hS, rfl, hB, hW, hF, hv, q⟩ := h
    have hp := hl _ _ _ _ hS
    subst hp
    have key : ∀ {v : V} {B' H' : Hp} {σ' : L2.St} {Γ' : Ga} {Fs' : Nat → List Addr}, En K B' H' σ' Γ' Fs' → Jn ⟨H, F, [Ps.length]⟩ B B' H' Fs' → Γ'[Ps.length]? = some (.ob (pinO W' v0)) → R.p K B' v → Q v H' := fun {v B' H' σ' Γ' Fs'} e j g r => by
      obtain ⟨u, h1, rfl, h2⟩ := e.at_ _ _ g
      refine q v B' H' (Fs' Ps.length) ⟨j.b0, e.bh, j.h0, j.h1, fun a h1 h2 => ?_⟩ r h2 fun a ha => ⟨(e.fre _ a ha).1, ?_⟩
      · cases r : B' a with
        | none => rfl
        | some o => exact absurd (j.nb a (by rw [r]; exact fun z => nomatch z) h1) h2
      · rcases j.fm _ a ha with z | z
        · exact .inr z
        · exact .inl z.1
    refine ⟨_, sSs, wpSs_mono (body W Ps R W' hS v0 f cdv A outer s H E hr ⟨H, F, [Ps.length]⟩ rfl B (L2.start L (us ++ [v0])) B H _ (en_entryL hB (show (pinO W v0).p K B H v0 F from ⟨rfl, hW⟩) hF hv hL) ⟨.refl _, fun a h1 h2 => absurd h2 h1, fun a o h _ => h, fun a h => h, fun i a ha => ?_⟩) ?_ ?_ ?_ ?_⟩
    · by_cases e : i = Ps.length
      · rw [if_pos e] at ha
        exact .inr ⟨ha, by rw [e]; exact List.mem_cons_self⟩
      · rw [if_neg e] at ha
        cases ha
    · exact fun σ' H' ⟨B', Γ', Fs', e, j, g, n⟩ => key e j g (n _ B')
    · exact fun v H' ⟨σ', B', Γ', Fs', e, j, g, r⟩ => key e j g r
    · exact fun σ' H' ⟨B', Γ', Fs', e, j, n⟩ => n.elim
    · exact fun σ' H' ⟨B', Γ', Fs', e, j, n⟩ => n.elim
end
section
variable {X : Cx} {Γ : Ga} {W W' : Ow} {e : Expr} {es : List Expr} {R : Mn} {pos p : Pos}
/-- arguments, the last one a name of a thing that may be changed -/
structure GoAL (X : Cx) (Γ : Ga) (es : List Expr) (i : Nat) (Ps : List Mn) : Prop where
  run : ∀ σ B H Fs v0, En X.K B H σ Γ Fs → σ[i]? = some (some v0) → ∀ Q : List V → Hp → Prop, (∀ us B2 H2, Nw B H B2 H2 → MnAll X.K B2 us Ps → Q (us ++ [v0]) H2) → wpA X es σ H Q
theorem goal_one (i : Nat) {x : Str} {p' : Pos} (hN : X.N[i]? = some x := by rfl) (hv : Vis X.env.scope x := by first | exact Or.inl rfl | exact Or.inr (Or.inl rfl) | exact Or.inr (Or.inr rfl)) (hd : (x == ("__debug__" : Str)) = false := by decide) (hcd : (x == ("__classdict__" : Str)) = false := by decide)
    (hs : starEach [.Name x p'] X.env = (false, eval (.Name x p') X.env) :: starEach [] X.env := by rfl) : GoAL X Γ [.Name x p'] i [] := .mk fun σ B H Fs v0 E h1 Q q => toA (pa_cons (pe_var hN hv hd hcd) pa_nil hs) ⟨_, h1, q [] B H (.same E.bh) .nil⟩
theorem goal_cons {P : Mn} {Ps : List Mn} {i : Nat} (he : GoP X Γ e P) (ht : GoAL X Γ es i Ps) (hs : starEach (e :: es) X.env = (false, eval e X.env) :: starEach es X.env := by rfl) : GoAL X Γ (e :: es) i (P :: Ps) := .mk fun σ B H Fs v0 E h1 Q q =>
  toA (pa_cons sE sA hs) (he σ B H Fs E _ fun v B1 H1 n1 r1 => ht.run σ B1 H1 Fs v0 (E.nw n1) h1 _ fun us B2 H2 n2 r2 => q (v :: us) B2 H2 (n1.trans n2) (.cons (P.up n2.bb r1) r2))
theorem gm_callL (i : Nat) {V V' : Ow} {S : Ow → List Mn → Mn → Ow → Prop} {f' : Str} {ps : List Str} {j k : Nat} {Qs : List Mn} (C : CalF X.prog X.w X.K X.mg X.base CX0 f' ps k (spWL X.K S)) (hr : Room j X.A) (hk : k ≤ j) (hΓ : Γ[i]? = some (.ob W)) (hp : Pin V V' W W') (ha : GoAL X Γ (e :: es) i Qs) (hS : S V Qs R V' := by walk_at "pS")
    (hg : Gl X f' := by rfl) (hdb : (f' == ("__debug__" : Str)) = false := by decide) (he : starEach (e :: es) X.env = (false, eval e X.env) :: starEach es X.env := by rfl) (hpl : (backTo pos (starEach es X.env)).any (·.1) = false := by rfl) : GoM X Γ (.Call (.Name f' p) (e :: es) [] pos) i W' R := .mk fun σ B H Fs E Q q => by
  obtain ⟨f, fd, F, m, kp, b⟩ := C.ex
  obtain ⟨v, e1, e2⟩ := E.at_ i _ hΓ
  refine toE (pe_call (F.mono hk) hr hg m kp b .nil pass0 sA hdb he hpl) (ha.run σ B H Fs v E e1 _ fun us B2 H2 n2 r2 => ?_)
  obtain ⟨v', e1', e2'⟩ := (E.nw n2).at_ i _ hΓ
  rw [e1] at e1'
  cases e1'
  obtain ⟨i1, i2⟩ := hp.inn e2'
  exact ⟨V, Qs, R, V', B2, _, us, Fs i, hS, by rw [List.append_nil], n2.bh, i1, fun b hb => ((E.nw n2).fre i b hb).1, r2, fun v B3 H3 F3 m3 r3 w3 f3 => q v _ B3 H3 F3 (n2.thenMu m3) r3 e1 (i2 _ _ _ w3) fun b hb => ⟨(f3 b hb).1, (f3 b hb).2.imp id fun z => n2.hh.none z⟩⟩
end
end PL

set_option maxHeartbeats 4000000
namespace PL
open PySem PySem.Spec PyProof.Rows L2
section
variable {X : Cx} {J : Jd} {N : Nd} {Γ Γ2 : Ga} {e tg : Expr} {pos : Pos} {d : D} {ds : List D} {dss : List (List D)} {W : Ow} {ts : List Nat}
/-- an item of a tuple of lists of which the address is known -/
theorem gol_ixTP (i : Nat) {x : Str} {v0 : V} {k : Nat} {j p2 p3} (hk : dss[k]? = some ds) (hΓ : Γ[i]? = some (.ob (pinO (tlO dss) v0)) := by rfl) (hN : X.N[i]? = some x := by rfl) (hv : Vis X.env.scope x := by first | exact Or.inl rfl | exact Or.inr (Or.inl rfl) | exact Or.inr (Or.inr rfl))
    (hd : (x == ("__debug__" : Str)) = false := by decide) (hcd : (x == ("__classdict__" : Str)) = false := by decide) : GoL X Γ (.Subscript (.Name x p2) (.Constant (.int (k : Nat)) j p3) pos) i ds fun es => pinO (tlO (dss.set k es)) v0 := .mk fun σ B H Fs E Q q => by
  obtain ⟨v, h1, hv0, a, ps, e1, e2, e3, e4, e5⟩ := E.at_ i _ hΓ
  subst e1
  obtain ⟨p, us, f1, f2, f3⟩ := e5.get hk
  have hp : p ∈ ps := List.mem_of_getElem? f1
  have np : p ≠ a := fun z => by
    rw [e2] at e4
    exact (List.nodup_cons.mp e4).1 (z ▸ hp)
  refine toE (pe_ix ix_tup (pe_var hN hv hd hcd) pe_int fun _ _ => rfl) ⟨_, h1, a, ps.map .ref, (k : Nat), .ref p, rfl, rfl, .of e3, atI_nat (by rw [List.getElem?_map, f1]; rfl), ?_⟩
  refine q p us _ B H (.same E.bh) h1 (by rw [e2]; exact List.mem_cons_of_mem _ hp) f2 f3 fun B' H' hB hH us es hu => ⟨hv0, a, ps, rfl, e2, ?_, e4, ?_⟩
  · rw [upd_ne (Ne.symm np), hH a (by rw [e2]; exact List.mem_cons_self)]
    exact e3
  · rw [e2] at e4
    exact (e5.mono hB fun b hb => hH b (by rw [e2]; exact List.mem_cons_of_mem _ hb)).set hu (List.nodup_cons.mp e4).2 f1
/-- names for the parts of what a changing call tells -/
theorem rs_unpM {i : Nat} (he : GoM X Γ e i W (datP d)) (hi : i < Γ.length) (hg : GoG X (Γ.set i (.ob W)) tg d Γ2 ts) (h : N.nx Γ2) (hs : swapsWithSole [tg] e pos.line X.env = pure false := by rfl) (hw : swappedStores [tg] e X.env = pure none := by rfl)
    (h1 : (assignEach [tg] X.env).map (·.2) = [assign tg X.env] := by rfl) : RnS X J N Γ (.Assign [tg] e pos) := .mk fun B0 σ B H Fs E j =>
  toS (ps_asg sE sG hs hw h1) (he.run σ B H Fs E _ fun v v0 B2 H2 F2 m r hσ hW hF => hg σ B2 H2 _ v (E.mu m hi hσ hW hF) r _ fun σ' Fs' E' sb _ => ⟨B2, Γ2, Fs', E', (j.mu m fun a ha => (hF a ha).2).sub sb, h⟩)
end
end PL

set_option maxHeartbeats 1000000
/-! ticks: the plain law -/
namespace PL
open PySem PySem.Spec PyProof.Rows L2 RZ
theorem sort_same {a b : List Str} (ha : a.Nodup) (hb : b.Nodup) (h : ∀ x, x ∈ a ↔ x ∈ b) : sortS a = sortS b := sortS_eq (nodup_perm ha hb h)
theorem app_mem {on : List Str} {t : List Str × List Str} {x : Str} : x ∈ appL on t ↔ (x ∈ on ∧ x ∉ t.2) ∨ x ∈ t.1 := by
  unfold appL
  rw [List.mem_append, List.mem_filter, Bool.and_eq_true, Bool.not_eq_true', Bool.not_eq_true', decide_eq_false_iff_not, decide_eq_false_iff_not]
  constructor
  · rintro (⟨h1, h2, _⟩ | h)
    · exact .inl ⟨h1, h2⟩
    · exact .inr h
  · rintro (⟨h1, h2⟩ | h)
    · by_cases c : x ∈ t.1
      · exact .inr c
      · exact .inl ⟨h1, h2, c⟩
    · exact .inr h
theorem app_nd {on : List Str} {t : List Str × List Str} (h : on.Nodup) (h1 : t.1.Nodup) : (appL on t).Nodup := by
  unfold appL
  rw [List.nodup_append]
  refine ⟨h.sublist List.filter_sublist, h1, fun x hx y hy e => ?_⟩
  subst e
  have := (List.mem_filter.mp hx).2
  rw [Bool.and_eq_true, Bool.not_eq_true', Bool.not_eq_true', decide_eq_false_iff_not, decide_eq_false_iff_not] at this
  exact this.2 hy
theorem sort_nd {l : List Str} (h : l.Nodup) : (sortS l).Nodup := (sortS_perm l).nodup_iff.mpr h
theorem mem_sort {l : List Str} {x : Str} : x ∈ sortS l ↔ x ∈ l := (sortS_perm l).mem_iff
/-- the holds behind some went off, then some on -/
def turnF (on : List Str) (t : List Str × List Str) : List Str := sortS (appL on t)
theorem turned_eq {on : List Str} {t : List Str × List Str} (h : on.Nodup) (h1 : t.1.Nodup) : sortS (dif ((on.filter fun x => !decide (x ∈ t.2)) ++ t.1)) = turnF on t := sort_same (dif_nd _) (app_nd h h1) fun x => by
  rw [mem_dif, app_mem, List.mem_append, List.mem_filter, Bool.not_eq_true', decide_eq_false_iff_not]
theorem turnF_sort {on : List Str} {t : List Str × List Str} (h : on.Nodup) (h1 : t.1.Nodup) : turnF (sortS on) t = turnF on t := sort_same (app_nd (sort_nd h) h1) (app_nd h h1) fun x => by rw [app_mem, app_mem, mem_sort]
/-- what is on behind an effect -/
def effS (b : Bk) (on : List Str) (t : List Str × List Str) (to : Option Str) : List Str := sortS (effR b on t to)
theorem effS_some {b : Bk} (h : BkOk b) {on : List Str} {t : List Str × List Str} {m : Md} (hm : m ∈ b.modes) (ho : on.Nodup) (ht : t.1.Nodup) : effS b on t (some m.n) = turnF (turnF on t) (m.on, m.off) := by
  have e : effS b on t (some m.n) = turnF (appL on t) (m.on, m.off) := by
    unfold effS effR rowsE turnF
    dsimp only
    rw [mode_one h hm]
    rfl
  rw [e]
  exact (turnF_sort (app_nd ho ht) (turn_hs (h.mT m hm)).nd).symm
theorem effS_lot {b : Bk} (h : BkOk b) {on : List Str} (ho : lotOfB on b.holds = true) {t : List Str × List Str} (ht : HsOk b t.1) (to : Option Str) : lotOfB (effS b on t to) b.holds = true := hs_lot h (eff_hs h (lot_hs ho) ht to)
theorem turnF_lot {b : Bk} (h : BkOk b) {on : List Str} (ho : lotOfB on b.holds = true) {t : List Str × List Str} (ht : HsOk b t.1) : lotOfB (turnF on t) b.holds = true := hs_lot h (hs_app (lot_hs ho) ht)
/-! ### a standing while a tick is done -/
structure Tk where
  m : Str
  on : List Str
  r : Option Str
  p : Int
  l : Int
  s : Int
  dn : List Str
  rf : List Str
  mo : List (List Str)
def tk0 (g : Sg) : Tk := ⟨g.m, g.on, g.r, g.p, g.l, g.s, [], [], []⟩
def Tk.g (t : Tk) : Sg := ⟨t.m, t.on, t.r, t.p, t.l, t.s⟩
def Tk.eff (b : Bk) (t : Tk) (on off : List Str) (to : Option Str) : Tk := { t with m := to.getD t.m, on := effS b t.on (on, off) to, mo := t.mo ++ [effS b t.on (on, off) to] }
def Tk.halt (t : Tk) : Tk := { t with r := none, p := 0, l := 0 }
def Tk.beg (t : Tk) (w : Rw) (p : Int) : Tk := if p = (w.st.length : Int) then t.halt else { t with r := some w.n, p := p, l := (stAt w.st p).1 }
def Tk.cmd (b : Bk) (t : Tk) (c : Cm) : Tk := if t.m ∈ c.ms then { t.eff b c.on c.off c.to with dn := t.dn ++ [c.n] } else t
def Tk.ans1 (b : Bk) (as : List Str) (t : Tk) (a : Al) : Tk := if a.n ∈ as then (t.eff b a.on a.off a.to).halt else t
def Tk.ans (b : Bk) (as : List Str) (t : Tk) : Tk := b.alarms.foldl (Tk.ans1 b as) t
def cmdOf (b : Bk) (n : Str) : Cm := (b.cmds.find? fun c => decide (c.n = n)).getD ⟨⟨#[]⟩, [], [], [], none⟩
def rowOf (b : Bk) (n : Str) : Rw := (b.rows.find? fun c => decide (c.n = n)).getD ⟨⟨#[]⟩, []⟩
def homeS (b : Bk) : Str := (b.modes.getD 0 ⟨⟨#[]⟩, [], []⟩).n
inductive Oo
  | non
  | stop
  | dO (n : Str)
  | run (n : Str)
def eOo : Oo → D
  | .non => .none
  | .stop => .tuple [.str "stop"]
  | .dO n => .tuple [.str "do", .str n]
  | .run n => .tuple [.str "run", .str n]
def OoOk (b : Bk) : Oo → Prop
  | .non => True
  | .stop => True
  | .dO n => n ∈ b.cn
  | .run n => n ∈ b.rn
def toOd : Oo → Od
  | .non => none
  | .stop => stopO
  | .dO n => doO n
  | .run n => runO n
/-- an order is obeyed -/
def Tk.obey (b : Bk) (t : Tk) : Oo → Tk
  | .non => t
  | .stop => { t with s := 0 }.halt
  | .dO n => let t' := { t with s := 0 }; if t'.m ∈ (cmdOf b n).ms then t'.cmd b (cmdOf b n) else { t' with rf := t'.rf ++ [n] }
  | .run n => { t with s := 0 }.beg (rowOf b n) 0
def Tk.wait (b : Bk) (t : Tk) : Tk := match b.quiet with
  | none => t
  | some q => if t.s + 1 = q then { ({ t with s := t.s + 1 }.eff b [] [] (some (homeS b))).halt with s := 0 } else { t with s := t.s + 1 }
def Tk.go (b : Bk) (t : Tk) : Tk := match t.r with
  | none => t
  | some r => if t.l - 1 = 0 then ({ t with l := t.l - 1 }.cmd b (cmdOf b (stAt (rowOf b r).st t.p).2)).beg (rowOf b r) (t.p + 1) else { t with l := t.l - 1 }
def tickT (b : Bk) (g : Sg) (as : List Str) (o : Oo) : Tk := match o with
  | .non => (((tk0 g).ans b as).wait b).go b
  | .run n => ((tk0 g).ans b as).obey b (.run n)
  | o => (((tk0 g).ans b as).obey b o).go b
/-! ### what stays true -/
/-- within a tick: n bounds what is told -/
structure TkOk (b : Bk) (n : Nat) (t : Tk) : Prop where
  m : t.m ∈ b.mn
  on : lotOfB t.on b.holds = true
  row : rowB b t.r t.p t.l = true
  s0 : 0 ≤ t.s
  s1 : t.s < mostZ b
  dn : t.dn.length ≤ n
  rf : t.rf.length ≤ n
  mo : t.mo.length ≤ n
  dnM : ∀ x ∈ t.dn, x ∈ b.cn
  rfM : ∀ x ∈ t.rf, x ∈ b.cn
  moM : ∀ l ∈ t.mo, lotOfB l b.holds = true
section
variable {b : Bk} {n : Nat} {t : Tk}
theorem cmd_of (h : BkOk b) {c : Cm} (hc : c ∈ b.cmds) : cmdOf b c.n = c := by
  unfold cmdOf
  cases e : b.cmds.find? fun v => decide (v.n = c.n) with
  | none => exact absurd rfl (of_decide_eq_false (Bool.eq_false_iff.mpr (List.find?_eq_none.mp e c hc)))
  | some v =>
    have h1 := List.mem_of_find?_eq_some e
    have h2 : v.n = c.n := of_decide_eq_true (List.find?_some (p := fun v : Cm => decide (v.n = c.n)) e)
    have := cmd_one h hc
    have h3 : v ∈ b.cmds.filter fun x => decide (x.n = c.n) := List.mem_filter.mpr ⟨h1, decide_eq_true h2⟩
    rw [this] at h3
    exact List.mem_singleton.mp h3
theorem cmd_has (h : BkOk b) {x : Str} (hx : x ∈ b.cn) : cmdOf b x ∈ b.cmds ∧ (cmdOf b x).n = x := by
  obtain ⟨c, hc, rfl⟩ := List.mem_map.mp hx
  rw [cmd_of h hc]
  exact ⟨hc, rfl⟩
theorem row_of (h : BkOk b) {c : Rw} (hc : c ∈ b.rows) : rowOf b c.n = c := by
  unfold rowOf
  rw [find_row h hc]
  rfl
theorem row_has (h : BkOk b) {x : Str} (hx : x ∈ b.rn) : rowOf b x ∈ b.rows ∧ (rowOf b x).n = x := by
  obtain ⟨c, hc, rfl⟩ := List.mem_map.mp hx
  rw [row_of h hc]
  exact ⟨hc, rfl⟩
theorem home_mem (h : BkOk b) : ∃ m ∈ b.modes, m.n = homeS b ∧ b.modes[0]? = some m := by
  have h1 := h.m.lo
  rw [List.length_map] at h1
  refine ⟨b.modes[0], List.getElem_mem _, ?_, List.getElem?_eq_getElem _⟩
  unfold homeS
  rw [List.getD_eq_getElem?_getD, List.getElem?_eq_getElem (by omega)]
  rfl
theorem tk_eff (h : BkOk b) (ht : TkOk b n t) {on off : List Str} {to : Option Str} (h1 : turnB on off b.holds = true) (h2 : toOk to b.mn) : TkOk b (n + 1) (t.eff b on off to) where
  m := eff_to h2 ht.m
  on := effS_lot h ht.on (turn_hs h1) to
  row := ht.row
  s0 := ht.s0
  s1 := ht.s1
  dn := by show t.dn.length ≤ n + 1; have := ht.dn; omega
  rf := by show t.rf.length ≤ n + 1; have := ht.rf; omega
  mo := by show (t.mo ++ [_]).length ≤ n + 1; rw [List.length_append]; exact Nat.add_le_add ht.mo (Nat.le_refl 1)
  dnM := ht.dnM
  rfM := ht.rfM
  moM := fun l hl => by
    rcases List.mem_append.mp hl with hl | hl
    · exact ht.moM l hl
    · rw [List.mem_singleton.mp hl]
      exact effS_lot h ht.on (turn_hs h1) to
theorem tk_halt (ht : TkOk b n t) : TkOk b n t.halt := { ht with row := rfl }
theorem tk_up (ht : TkOk b n t) {k : Nat} (hk : n ≤ k) : TkOk b k t := { ht with dn := Nat.le_trans ht.dn hk, rf := Nat.le_trans ht.rf hk, mo := Nat.le_trans ht.mo hk }
theorem tk_s0 (h : BkOk b) (ht : TkOk b n t) : TkOk b n { t with s := 0 } := { ht with s0 := Int.le_refl 0, s1 := (most_pos h).1 }
theorem tk_beg (h : BkOk b) {w : Rw} (hw : w ∈ b.rows) {p : Int} (h1 : 0 ≤ p) (h2 : p ≤ (w.st.length : Int)) (m : t.m ∈ b.mn) (on : lotOfB t.on b.holds = true) (s0 : 0 ≤ t.s) (s1 : t.s < mostZ b) (dn : t.dn.length ≤ n) (rf : t.rf.length ≤ n) (mo : t.mo.length ≤ n) (dnM : ∀ x ∈ t.dn, x ∈ b.cn) (rfM : ∀ x ∈ t.rf, x ∈ b.cn) (moM : ∀ l ∈ t.mo, lotOfB l b.holds = true) : TkOk b n (t.beg w p) := by
  unfold Tk.beg
  by_cases c : p = (w.st.length : Int)
  · rw [if_pos c]
    exact ⟨m, on, rfl, s0, s1, dn, rf, mo, dnM, rfM, moM⟩
  · rw [if_neg c]
    have hp : 0 ≤ p ∧ p < (w.st.length : Int) := ⟨h1, by omega⟩
    exact ⟨m, on, row_mk h hw hp ⟨((h.rS w hw).2.2 _ (st_mem hp)).1, Int.le_refl _⟩, s0, s1, dn, rf, mo, dnM, rfM, moM⟩
theorem tk_cmd (h : BkOk b) (ht : TkOk b n t) {c : Cm} (hc : c ∈ b.cmds) : TkOk b (n + 1) (t.cmd b c) := by
  unfold Tk.cmd
  by_cases q : t.m ∈ c.ms
  · rw [if_pos q]
    have e := tk_eff h ht (h.cE c hc).1 (h.cE c hc).2
    exact { e with
      dn := by show (t.dn ++ [c.n]).length ≤ n + 1; rw [List.length_append]; exact Nat.add_le_add ht.dn (Nat.le_refl 1)
      dnM := fun x hx => by
        rcases List.mem_append.mp hx with hx | hx
        · exact ht.dnM x hx
        · rw [List.mem_singleton.mp hx]
          exact List.mem_map.mpr ⟨c, hc, rfl⟩ }
  · rw [if_neg q]
    exact tk_up ht (Nat.le_succ n)
theorem tk_ans1 (h : BkOk b) (ht : TkOk b n t) {a : Al} (ha : a ∈ b.alarms) (as : List Str) : TkOk b (n + 1) (t.ans1 b as a) := by
  unfold Tk.ans1
  by_cases q : a.n ∈ as
  · rw [if_pos q]
    exact tk_halt (tk_eff h ht (h.aE a ha).1 (h.aE a ha).2)
  · rw [if_neg q]
    exact tk_up ht (Nat.le_succ n)
theorem tk_ansL (h : BkOk b) (as : List Str) : ∀ (l : List Al) (n : Nat) (t : Tk), TkOk b n t → (∀ a ∈ l, a ∈ b.alarms) → TkOk b (n + l.length) (l.foldl (Tk.ans1 b as) t)
  | [], n, t, ht, _ => ht
  | a :: r, n, t, ht, hl => by
    have := tk_ansL h as r (n + 1) _ (tk_ans1 h ht (hl a List.mem_cons_self) as) fun x hx => hl x (List.mem_cons_of_mem _ hx)
    rw [List.length_cons, show n + (r.length + 1) = n + 1 + r.length by omega]
    exact this
theorem tk_ans (h : BkOk b) (ht : TkOk b n t) (as : List Str) : TkOk b (n + 4) (t.ans b as) := by
  have h1 := h.a.hi
  rw [List.length_map] at h1
  exact tk_up (tk_ansL h as b.alarms n t ht fun _ h => h) (by omega)
theorem tk_obey (h : BkOk b) (ht : TkOk b n t) {o : Oo} (ho : OoOk b o) : TkOk b (n + 1) (t.obey b o) := by
  cases o with
  | non => exact tk_up ht (Nat.le_succ n)
  | stop => exact tk_up (tk_halt (tk_s0 h ht)) (Nat.le_succ n)
  | dO x =>
    obtain ⟨h1, h2⟩ := cmd_has h ho
    show TkOk b (n + 1) (if _ then _ else _)
    split
    · exact tk_cmd h (tk_s0 h ht) h1
    · have e := tk_up (tk_s0 h ht) (Nat.le_succ n)
      exact { e with
        rf := by show (t.rf ++ [x]).length ≤ n + 1; rw [List.length_append]; exact Nat.add_le_add ht.rf (Nat.le_refl 1)
        rfM := fun y hy => by
          rcases List.mem_append.mp hy with hy | hy
          · exact ht.rfM y hy
          · rw [List.mem_singleton.mp hy]
            exact ho }
  | run x =>
    obtain ⟨h1, h2⟩ := row_has h ho
    have e := tk_up (tk_s0 h ht) (Nat.le_succ n)
    exact tk_beg h h1 (Int.le_refl 0) (by omega) e.m e.on e.s0 e.s1 e.dn e.rf e.mo e.dnM e.rfM e.moM
theorem home_ok (h : BkOk b) : toOk (some (homeS b)) b.mn := fun x hx => by
  cases hx
  obtain ⟨m, hm, e, _⟩ := home_mem h
  exact e ▸ List.mem_map.mpr ⟨m, hm, rfl⟩
theorem turn_nil (b : Bk) : turnB [] [] b.holds = true := rfl
theorem tk_wait (h : BkOk b) (ht : TkOk b n t) : TkOk b (n + 1) (t.wait b) := by
  unfold Tk.wait
  cases hq : b.quiet with
  | none => exact tk_up ht (Nat.le_succ n)
  | some q =>
    dsimp only
    have hs1 := ht.s1
    unfold mostZ at hs1
    rw [hq] at hs1
    have hs1 : t.s < q := hs1
    have hs0 := ht.s0
    by_cases c : t.s + 1 = q
    · rw [if_pos c]
      have e : TkOk b (n + 1) (t.eff b [] [] (some (homeS b))) := tk_eff h ht (turn_nil b) (home_ok h)
      exact ⟨e.m, e.on, rfl, Int.le_refl 0, (most_pos h).1, e.dn, e.rf, e.mo, e.dnM, e.rfM, e.moM⟩
    · rw [if_neg c]
      have e := tk_up ht (Nat.le_succ n)
      exact { e with
        s0 := by show 0 ≤ t.s + 1; omega
        s1 := by
          show t.s + 1 < mostZ b
          unfold mostZ
          rw [hq]
          show t.s + 1 < q
          omega }
theorem row_at (h : BkOk b) {r : Str} {p l : Int} (hr : rowB b (some r) p l = true) : rowOf b r ∈ b.rows ∧ (rowOf b r).n = r ∧ 0 ≤ p ∧ p < ((rowOf b r).st.length : Int) ∧ 1 ≤ l ∧ l ≤ (stAt (rowOf b r).st p).1 ∧ (stAt (rowOf b r).st p).2 ∈ b.cn := by
  obtain ⟨w, hw, rfl, h1, h2, h3, h4⟩ := row_some hr
  rw [row_of h hw]
  exact ⟨hw, rfl, h1, h2, h3, h4, ((h.rS w hw).2.2 _ (st_mem ⟨h1, h2⟩)).2.2⟩
theorem tk_go (h : BkOk b) (ht : TkOk b n t) : TkOk b (n + 1) (t.go b) := by
  unfold Tk.go
  cases hr : t.r with
  | none => exact tk_up ht (Nat.le_succ n)
  | some r =>
    dsimp only
    have hrow := ht.row
    rw [hr] at hrow
    obtain ⟨h1, h2, h3, h4, h5, h6, h7⟩ := row_at h hrow
    obtain ⟨c1, c2⟩ := cmd_has h h7
    by_cases c : t.l - 1 = 0
    · rw [if_pos c]
      have ht' : TkOk b n { t with r := none, p := 0, l := 0 } := tk_halt ht
      have e : TkOk b (n + 1) (({ t with r := none, p := 0, l := 0 } : Tk).cmd b (cmdOf b (stAt (rowOf b r).st t.p).2)) := tk_cmd h ht' c1
      have e1 : ∀ u : Tk, u.m = t.m → u.on = t.on → u.mo = t.mo → u.dn = t.dn → u.rf = t.rf → u.s = t.s → TkOk b (n + 1) ((u.cmd b (cmdOf b (stAt (rowOf b r).st t.p).2)).beg (rowOf b r) (t.p + 1)) := fun u u1 u2 u3 u4 u5 u6 => by
        have k : ∀ v : Tk, v.cmd b (cmdOf b (stAt (rowOf b r).st t.p).2) = if v.m ∈ (cmdOf b (stAt (rowOf b r).st t.p).2).ms then { v.eff b (cmdOf b (stAt (rowOf b r).st t.p).2).on (cmdOf b (stAt (rowOf b r).st t.p).2).off (cmdOf b (stAt (rowOf b r).st t.p).2).to with dn := v.dn ++ [(cmdOf b (stAt (rowOf b r).st t.p).2).n] } else v := fun _ => rfl
        rw [k] at e ⊢
        have um : u.m = ({ t with r := none, p := 0, l := 0 } : Tk).m := u1
        rw [um]
        split at e
        · rename_i q
          rw [if_pos q]
          refine tk_beg h h1 (by omega) (by omega) ?_ ?_ ?_ ?_ ?_ ?_ ?_ ?_ ?_ ?_
          · have := e.m; unfold Tk.eff at this ⊢; dsimp only at this ⊢; rw [u1]; exact this
          · have := e.on; unfold Tk.eff at this ⊢; dsimp only at this ⊢; rw [u2]; exact this
          · have := e.s0; unfold Tk.eff at this ⊢; dsimp only at this ⊢; rw [u6]; exact this
          · have := e.s1; unfold Tk.eff at this ⊢; dsimp only at this ⊢; rw [u6]; exact this
          · have := e.dn; unfold Tk.eff at this ⊢; dsimp only at this ⊢; rw [u4]; exact this
          · have := e.rf; unfold Tk.eff at this ⊢; dsimp only at this ⊢; rw [u5]; exact this
          · have := e.mo; unfold Tk.eff at this ⊢; dsimp only at this ⊢; rw [u2, u3]; exact this
          · have := e.dnM; unfold Tk.eff at this ⊢; dsimp only at this ⊢; rw [u4]; exact this
          · have := e.rfM; unfold Tk.eff at this ⊢; dsimp only at this ⊢; rw [u5]; exact this
          · have := e.moM; unfold Tk.eff at this ⊢; dsimp only at this ⊢; rw [u2, u3]; exact this
        · rename_i q
          rw [if_neg q]
          refine tk_beg h h1 (by omega) (by omega) ?_ ?_ ?_ ?_ ?_ ?_ ?_ ?_ ?_ ?_
          · rw [u1]; exact e.m
          · rw [u2]; exact e.on
          · rw [u6]; exact e.s0
          · rw [u6]; exact e.s1
          · rw [u4]; exact e.dn
          · rw [u5]; exact e.rf
          · rw [u3]; exact e.mo
          · rw [u4]; exact e.dnM
          · rw [u5]; exact e.rfM
          · rw [u3]; exact e.moM
      exact e1 _ rfl rfl rfl rfl rfl rfl
    · rw [if_neg c]
      have e := tk_up ht (Nat.le_succ n)
      have hw : rowB b (some (rowOf b r).n) t.p (t.l - 1) = true := row_mk h h1 ⟨h3, h4⟩ ⟨by omega, by omega⟩
      rw [h2] at hw
      exact { e with row := hw }
theorem tk_st (h : TkOk b n t) : isSt b t.g = true := isSt_iff.mpr ⟨h.m, h.on, h.row, h.s0, h.s1⟩
theorem st_tk {g : Sg} (h : isSt b g = true) : TkOk b 0 (tk0 g) := by
  obtain ⟨h1, h2, h3, h4, h5⟩ := isSt_iff.mp h
  exact ⟨h1, h2, h3, h4, h5, Nat.le_refl 0, Nat.le_refl 0, Nat.le_refl 0, fun _ z => (nomatch z), fun _ z => (nomatch z), fun _ z => (nomatch z)⟩
theorem tk_tick (h : BkOk b) {g : Sg} (hg : isSt b g = true) {o : Oo} (ho : OoOk b o) (as : List Str) : TkOk b 6 (tickT b g as o) := by
  have h1 : TkOk b 4 ((tk0 g).ans b as) := tk_ans h (st_tk hg) as
  cases o with
  | non => exact tk_go h (tk_wait h h1)
  | stop => exact tk_go h (tk_obey h h1 ho)
  | dO n => exact tk_go h (tk_obey h h1 ho)
  | run n => exact tk_up (tk_obey h h1 ho) (by decide)
end
/-- what a tick tells: the next standing, what is done and refused, the moments -/
def eTk (t : Tk) : List D := [eG t.g, .list (t.dn.map .str), .list (t.rf.map .str), .list (t.mo.map eL)]
end PL

set_option maxHeartbeats 1000000
/-! the parts of books that the laws k01 - k07 draw -/
namespace PL
open PySem PySem.Spec PyProof.Rows L2 RZ
section
variable {X : Cx} {J : Jd} {N : Nd} {Γ : Ga} {e tg : Expr} {pos : Pos}
end
theorem hasD_lots (bs : List (List Str)) (l : List Str) : hasD (bs.map eL) (eL l) = decide (l ∈ bs) := by
  unfold hasD
  rw [List.any_map]
  induction bs with
  | nil => rfl
  | cons x r ih =>
    rw [List.any_cons, ih]
    show (PyData.eqv (eL x) (eL l) || decide (l ∈ r)) = _
    rw [eqv_L]
    by_cases h1 : x = l
    · simp [h1]
    · by_cases h2 : l ∈ r
      · simp [h1, h2]
      · simp [h1, h2, Ne.symm h1]
structure PickOk (names wo l : List Str) : Prop where
  sub : l.Sublist (sortS names)
  no : ∀ x ∈ l, x ∉ wo
structure EffOk (hs ms : List Str) (q : List Str × List Str × Option Str) : Prop where
  on : PickOk hs [] q.1
  off : PickOk hs q.1 q.2.1
  to : toOk q.2.2 ms
/-- the parts of a book -/
def pD (b : Bk) : D := .tuple [.list (b.holds.map .str), .list (b.modes.map eM), .list (b.barred.map eL), .list (b.cmds.map eC), .list (b.alarms.map eA), .list (b.rows.map eR), eQ b.quiet]
def ha0 : List Str := ["heat", "a", "wheel", "b9"]
def ma0 : List Str := ["safe", "a", "run"]
def ca0 : List Str := ["go", "a", "burn"]
def aa0 : List Str := ["low", "a"]
def ra0 : List Str := ["plan", "a"]
theorem take_snocS {l : List Str} {k : Nat} (h : k < l.length) : l.take (k + 1) = l.take k ++ [PL.nth l k] := by
  rw [List.take_add_one, List.getElem?_eq_getElem h]
  unfold PL.nth
  rw [List.getD_eq_getElem?_getD, List.getElem?_eq_getElem h]
  rfl
/-- what is picked by the digits of m in the system of three -/
def pickF : List Str → Int → List Str → List Str
  | [], _, _ => []
  | x :: r, m, wo => (if m % 3 = 1 ∧ x ∉ wo then [x] else []) ++ pickF r (m / 3) wo
/-- an effect: what is picked, and where to -/
def effF (hs ms : List Str) (a b c : Int) : List Str × List Str × Option Str := (pickF (sortS hs) a [], pickF (sortS hs) b (pickF (sortS hs) a []), optA ms 2 (c % ((ms.length : Int) + 2)))
end PL

set_option maxHeartbeats 1000000
/-! orders and inputs, good and bad ones: the plain law of k04 -/
namespace PL
open PySem PySem.Spec PyProof.Rows L2 RZ
def goodL (b : Bk) : List (List Str) := (([["stop"]] : List (List Str)) ++ b.cmds.map fun c => [("do" : Str), c.n]) ++ b.rows.map fun r => [("run" : Str), r.n]
def badL : List (List Str) := [["do", "none"], ["run", "none"], ["stop", "stop"], ["do"], ["run"], [], ["halt"], ["Do", "go"], ["do", "go", "go"], ["", ""], ["stop", ""]]
/-- what is due -/
def dueB (b : Bk) (l : List Str) (o : Od) : Bool := (decide (l = sortS (dif l)) && decide ((l.filter fun x => !decide (x ∈ b.an)).length = 0)) && (match o with | none => true | some os => decide (os ∈ goodL b))
/-- an order that is drawn -/
def ordsX (b : Bk) : List Od := ([none] ++ (goodL b).map some) ++ badL.map some
end PL

set_option maxHeartbeats 2000000
namespace PL
open PySem PySem.Spec PyProof.Rows L2 PySem.W
/-! ### sorted(xs, key=f), f a def that gives the first item -/
def fstD : D → D
  | .tuple (d :: _) => d
  | d => d
/-- def x(p): return p[0] -/
structure FstF (K : PySem.W.Frag) (mg : Str → Option Value) (x : Str) : Prop where
  ex : ∃ (f : Addr) (fd : FuncData) (oc : Value) (od : Option Addr) (osl : Array (Option Value)) (p : Str) (j : Nat) (q1 q2 q3 q4 : Pos), mg x = some (.ref f) ∧ Binds K fd [p] [] ∧ K.lookup f = some ⟨oc, od, .func fd, osl⟩ ∧ codeIn K fd.code fd.qualname = true ∧
    fd.body = .stmts [.Return (some (.Subscript (.Name p q1) (.Constant (.int 0) j q2) q3)) q4] ∧ (∀ y ∈ fd.scope.names, y.2 ≠ .cell) ∧ fd.scope.names.lookup p = some .local ∧ fd.scope.isCoroutine = false ∧ fd.scope.isGenerator = false ∧ fd.scope.kind = .function ∧ (p == ("__debug__" : Str)) = false
section
variable {prog : Program} {w : World} {A : Around} {s : Shared} {K : PySem.W.Frag} {f t : Addr} {fd : FuncData} {oc v : Value} {od : Option Addr} {osl : Array (Option Value)} {p : Str} {j : Nat} {q1 q2 q3 q4 : Pos} {its : Array Value}
end
/-- fit to be sorted by the first item, a text -/
def FstOk (ds : List D) : Prop := (∀ d ∈ ds, ∃ x r, d = .tuple (.str x :: r)) ∧ ds.length ≤ 1000000
def rSortF (K : PySem.W.Frag) (f : Addr) : List V → List V → Hp → VK → Prop := fun vs zs H Q => ∃ (a : Addr) (xs : List V) (ds : List D) (B : Hp), vs = [V.ref a] ∧ zs = [V.ref f] ∧ Ex B H ∧ SqL K H a xs ∧ DpAll K B xs ds ∧ FstOk ds ∧ ∀ ys p, H p = none → DpAll K B ys (ds.mergeSort (dataLe false fstD)) → Q (.ref p) (upd H p (.lst ys))
section
variable {X : Cx} {Γ : Ga} {a : Expr} {p pos kp p2 : Pos} {ds : List D} {x : Str} {k : Nat}
/-- an item: data, its first item -/
def RF (K : PySem.W.Frag) (H : Hp) (h : Heap) (u : Value) (d : D) : Prop := RD K H u d ∧ ∃ t its tk y, u = .ref t ∧ PyProof.Rows.IsTup h t its ∧ its[0]? = some (.str y tk) ∧ fstD d = .str y
end
end PL

set_option maxHeartbeats 2000000
/-! the parts of books as the laws k01 - k03 look at them -/
namespace PL
open PySem PySem.Spec PyProof.Rows L2 RZ PySem.W
def noneS : Str := "none"
/-- a drawn book: no part is named none -/
structure BkD (b : Bk) : Prop where
  ok : BkOk b
  m : noneS ∉ b.mn
  c : noneS ∉ b.cn
  a : noneS ∉ b.an
  r : noneS ∉ b.rn
theorem lotsh {l ks : List Str} (h : lotOfB l ks = true) : Shp 1 (eL l) := shp_L fun x hx => nm_ok (lot_nm (lotOf h).1 x hx)
theorem shp_O {to : Option Str} {ms : List Str} (h : toOk to ms) (hm : ∀ x ∈ ms, isNmB x = true) : Shp 1 (eO to) := by
  cases to with
  | none => exact Shp.non 1
  | some x => exact shp_nm (hm x (h x rfl)) 1
section
variable {b : Bk} (h : BkOk b)
include h
end
/-- the lists of the parts -/
def gv (b : Bk) : List (List D) := [b.holds.map .str, b.modes.map eM, b.barred.map eL, b.cmds.map eC, b.alarms.map eA, b.rows.map eR]
/-- the lists that a book tells -/
def tv (b : Bk) : List (List D) := [(sortS b.holds).map .str, b.modes.map eM, srt (b.barred.map eL), b.cmdsS.map eC, b.alarms.map eA, b.rows.map eR]
def dueD (b : Bk) : D := .tuple [.list ((sortS b.holds).map .str), .list (b.modes.map eM), .list (srt (b.barred.map eL)), .list (b.cmdsS.map eC), .list (b.alarms.map eA), .list (b.rows.map eR), eQ b.quiet]
/-- parts by their names -/
abbrev encP (x : Str × List D) : D := .tuple (.str x.1 :: x.2)
def pM (m : Md) : Str × List D := (m.n, [eL m.on, eL m.off])
def pC (m : Cm) : Str × List D := (m.n, [eL m.ms, eL m.on, eL m.off, eO m.to])
def pA (m : Al) : Str × List D := (m.n, [eL m.on, eL m.off, eO m.to])
def pR (m : Rw) : Str × List D := (m.n, [.tuple (m.st.map eSt)])
/-! the book at the bounds, and the smallest one -/
def bBig : Bk where
  holds := ["h5", "h1", "h2", "h3", "h4", "h0"]
  modes := [⟨"m0", ["h0"], ["h1", "h2"]⟩, ⟨"m1", ["h0"], ["h1", "h2"]⟩, ⟨"m2", ["h0"], ["h1", "h2"]⟩, ⟨"m3", ["h0"], ["h1", "h2"]⟩, ⟨"m4", ["h0"], ["h1", "h2"]⟩]
  barred := [["h0", "h1"], ["h1", "h2"], ["h2", "h3"], ["h3", "h4"], ["h4", "h5"], ["h0", "h1", "h2"], ["h0", "h5"], ["h0", "h1", "h2", "h3", "h4", "h5"]]
  cmds := [⟨"c7", ["m0", "m4"], [], ["h5"], some "m2"⟩, ⟨"c6", ["m0", "m4"], [], ["h5"], some "m2"⟩, ⟨"c5", ["m0", "m4"], [], ["h5"], some "m2"⟩, ⟨"c4", ["m0", "m4"], [], ["h5"], some "m2"⟩, ⟨"c3", ["m0", "m4"], [], ["h5"], some "m2"⟩, ⟨"c2", ["m0", "m4"], [], ["h5"], some "m2"⟩, ⟨"c1", ["m0", "m4"], [], ["h5"], some "m2"⟩, ⟨"c0", ["m0", "m4"], [], ["h5"], some "m2"⟩]
  alarms := [⟨"l0", ["h0", "h1", "h2", "h3", "h4", "h5"], [], none⟩, ⟨"l1", ["h0", "h1", "h2", "h3", "h4", "h5"], [], none⟩, ⟨"l2", ["h0", "h1", "h2", "h3", "h4", "h5"], [], none⟩, ⟨"l3", ["h0", "h1", "h2", "h3", "h4", "h5"], [], none⟩]
  rows := [⟨"r0", [(9, "c0"), (1, "c7"), (5, "c0"), (9, "c3")]⟩, ⟨"r1", [(9, "c0"), (1, "c7"), (5, "c0"), (9, "c3")]⟩, ⟨"r2", [(9, "c0"), (1, "c7"), (5, "c0"), (9, "c3")]⟩]
  quiet := some 30
def bMin : Bk := ⟨["a"], [⟨"a", [], []⟩], [], [], [], [], none⟩
def toOkB (to : Option Str) (ms : List Str) : Bool := to.all fun x => decide (x ∈ ms)
def nmsB (l : List Str) (lo hi : Nat) : Bool := decide (lo ≤ l.length) && decide (l.length ≤ hi) && l.all isNmB && decide l.Nodup
/-- the rules of books, as a test -/
def bkB (b : Bk) : Bool := nmsB b.holds 1 6 && nmsB b.mn 1 5 && nmsB b.cn 0 8 && nmsB b.an 0 4 && nmsB b.rn 0 3 && (b.modes.all fun m => turnB m.on m.off b.holds) && (b.cmds.all fun c => lotOfB c.ms b.mn) && (b.cmds.all fun c => turnB c.on c.off b.holds && toOkB c.to b.mn) &&
  (b.alarms.all fun c => turnB c.on c.off b.holds && toOkB c.to b.mn) && (b.rows.all fun r => decide (1 ≤ r.st.length) && decide (r.st.length ≤ 4) && r.st.all fun s => decide (1 ≤ s.1) && decide (s.1 ≤ 9) && decide (s.2 ∈ b.cn)) && (b.quiet.all fun q => decide (1 ≤ q) && decide (q ≤ 30)) &&
  decide (b.barred.length ≤ 8) && decide b.barred.Nodup && (b.barred.all fun l => decide (2 ≤ l.length) && lotOfB l b.holds)
end PL

set_option maxHeartbeats 1000000
/-! the books that k24 and its kin draw: names of letters, lots by bits -/
namespace PL
open PySem PySem.Spec PyProof.Rows L2 RZ
def letN (i : Int) : Nat := letS.cps.toList.getD i.toNat 97
def letC (i : Int) : Str := ⟨#[letN i]⟩
theorem let_len : letS.cps.toList.length = 36 := by decide +kernel
theorem let_nd : letS.cps.toList.Nodup := by decide +kernel
theorem let_at {i : Int} (h : 0 ≤ i ∧ i < 36) : atI letS.cps.toList i = some (letN i) := by
  have hl := let_len
  have e : ((i.toNat : Nat) : Int) = i := by omega
  have h1 : letS.cps.toList[i.toNat]? = some (letN i) := by
    unfold letN
    rw [List.getD_eq_getElem?_getD, List.getElem?_eq_getElem (by omega)]
    rfl
  have h2 : atI letS.cps.toList ((i.toNat : Nat) : Int) = some (letN i) := atI_nat h1
  rwa [e] at h2
theorem let_mem (i : Int) : letN i ∈ letS.cps.toList := by
  unfold letN
  rw [List.getD_eq_getElem?_getD]
  cases h : letS.cps.toList[i.toNat]? with
  | none => show 97 ∈ _; decide +kernel
  | some c => exact List.mem_of_getElem? h
theorem let_inj {i j : Int} (hi : 0 ≤ i ∧ i < 36) (hj : 0 ≤ j ∧ j < 36) (h : letN i = letN j) : i = j := by
  have hl := let_len
  unfold letN at h
  rw [List.getD_eq_getElem?_getD, List.getD_eq_getElem?_getD, List.getElem?_eq_getElem (by omega), List.getElem?_eq_getElem (by omega)] at h
  have h : letS.cps.toList[i.toNat] = letS.cps.toList[j.toNat] := h
  have := (List.getElem_inj let_nd).mp h
  omega
def ahdL (n : Int) : List Str := (List.range (n / 36 % 3).toNat).map fun k : Nat => letC ((n + 11 * (k : Int) * (k : Int)) % 36)
def ahd (n : Int) : Str := Txt.join "" (ahdL n)
/-- m names that begin alike -/
def nmsF (n : Int) (m : Nat) : List Str := (List.range m).map fun k : Nat => ahd n ++ letC ((n + 5 * (k : Int)) % 36)
theorem nm_let {x : Str} (h1 : 1 ≤ x.length) (h2 : x.length ≤ 12) (h : ∀ c ∈ x.cps.toList, c ∈ letS.cps.toList) : isNmB x = true := by
  unfold isNmB
  rw [Bool.and_eq_true, Bool.and_eq_true, decide_eq_true_iff, decide_eq_true_iff]
  exact ⟨⟨by omega, by omega⟩, List.all_eq_true.mpr fun c hc => decide_eq_true (h c hc)⟩
theorem app_cps (a b : Str) : (a ++ b).cps.toList = a.cps.toList ++ b.cps.toList := by
  show (a.cps ++ b.cps).toList = _
  rw [Array.toList_append]
theorem app_len (a b : Str) : (a ++ b).length = a.length + b.length := by
  show (a.cps ++ b.cps).size = _
  rw [Array.size_append]
  rfl
theorem ahd_ok (n : Int) : (ahd n).length ≤ 2 ∧ ∀ c ∈ (ahd n).cps.toList, c ∈ letS.cps.toList := by
  unfold ahd ahdL
  have h : (n / 36 % 3).toNat = 0 ∨ (n / 36 % 3).toNat = 1 ∨ (n / 36 % 3).toNat = 2 := by omega
  rcases h with h | h | h <;> rw [h]
  · exact ⟨Nat.le_of_ble_eq_true rfl, fun c hc => nomatch hc⟩
  · refine ⟨Nat.le_of_ble_eq_true rfl, fun c hc => ?_⟩
    have hc : c ∈ [letN ((n + 11 * ((0 : Nat) : Int) * ((0 : Nat) : Int)) % 36)] := hc
    rw [List.mem_singleton.mp hc]
    exact let_mem _
  · refine ⟨Nat.le_of_ble_eq_true rfl, fun c hc => ?_⟩
    have hc : c ∈ [letN ((n + 11 * ((0 : Nat) : Int) * ((0 : Nat) : Int)) % 36), letN ((n + 11 * ((1 : Nat) : Int) * ((1 : Nat) : Int)) % 36)] := hc
    rcases List.mem_cons.mp hc with h | h
    · rw [h]
      exact let_mem _
    · rw [List.mem_singleton.mp h]
      exact let_mem _
theorem nmsF_len (n : Int) (m : Nat) : (nmsF n m).length = m := by
  unfold nmsF
  rw [List.length_map, List.length_range]
theorem nmsF_ok (n : Int) {m lo hi : Nat} (h1 : lo ≤ m) (h2 : m ≤ hi) (h3 : m ≤ 8) : NmsOk (nmsF n m) lo hi where
  lo := by rw [nmsF_len]; exact h1
  hi := by rw [nmsF_len]; exact h2
  nm := fun x hx => by
    obtain ⟨k, _, rfl⟩ := List.mem_map.mp hx
    obtain ⟨a1, a2⟩ := ahd_ok n
    refine nm_let ?_ ?_ fun c hc => ?_
    · rw [app_len]
      show 1 ≤ _ + 1
      omega
    · rw [app_len]
      show _ + 1 ≤ 12
      omega
    · rw [app_cps] at hc
      rcases List.mem_append.mp hc with h | h
      · exact a2 c h
      · rw [List.mem_singleton.mp (show c ∈ [letN _] from h)]
        exact let_mem _
  nd := by
    refine List.pairwise_map.mpr (List.nodup_range.imp_of_mem fun {i j} hi hj hne e => hne ?_)
    have hi := List.mem_range.mp hi
    have hj := List.mem_range.mp hj
    have e1 := congrArg (fun z : Str => z.cps.toList) e
    rw [app_cps, app_cps] at e1
    have e2 := List.append_cancel_left e1
    have e3 : letN ((n + 5 * (i : Int)) % 36) = letN ((n + 5 * (j : Int)) % 36) := (List.cons.inj (show [letN _] = [letN _] from e2)).1
    have := let_inj ⟨Int.emod_nonneg _ (by decide), Int.emod_lt_of_pos _ (by decide)⟩ ⟨Int.emod_nonneg _ (by decide), Int.emod_lt_of_pos _ (by decide)⟩ e3
    omega
/-- the names at which the bit is one -/
def lotB (names : List Str) (m : Int) : List Str := ((List.range names.length).filter fun k => decide (m / 2 ^ k % 2 = 1)).map (nth names)
def lotX (names : List Str) (m : Int) : List Str := sortS (lotB names m)
theorem lotB_len (names : List Str) (m : Int) : (lotB names m).length ≤ names.length := by
  unfold lotB
  rw [List.length_map]
  exact Nat.le_trans (List.length_filter_le _ _) (by rw [List.length_range]; exact Nat.le_refl _)
theorem lotX_len (names : List Str) (m : Int) : (lotX names m).length ≤ names.length := by
  unfold lotX
  rw [(sortS_perm _).length_eq]
  exact lotB_len names m
theorem lotX_lot {names : List Str} {lo hi : Nat} (h : NmsOk names lo hi) (m : Int) : lotOfB (lotX names m) names = true := by
  refine pick_lot h.nm (pick_nd h.nd _) fun x hx => ?_
  obtain ⟨k, hk, rfl⟩ := List.mem_map.mp hx
  exact nth_mem (List.mem_range.mp (List.mem_filter.mp hk).1)
theorem lot_sub {l l' ks : List Str} (h : lotOfB l ks = true) (hs : l'.Sublist l) : lotOfB l' ks = true := by
  obtain ⟨h1, h2⟩ := lotOf h
  unfold lotOfB isLotB inB
  rw [Bool.and_eq_true, Bool.and_eq_true]
  exact ⟨⟨List.all_eq_true.mpr fun x hx => lot_nm h1 x (hs.subset hx), ris_iff.mpr ((lot_pw h1).sublist hs)⟩, List.all_eq_true.mpr fun x hx => decide_eq_true (h2 x (hs.subset hx))⟩
/-- two lots that have none in common -/
def trnX (hs : List Str) (a b : Int) : List Str × List Str := (lotX hs a, (lotX hs b).filter fun x => !decide (x ∈ lotX hs a))
theorem trnX_turn {hs : List Str} {lo hi : Nat} (h : NmsOk hs lo hi) (a b : Int) : turnB (trnX hs a b).1 (trnX hs a b).2 hs = true := by
  unfold turnB trnX
  dsimp only
  rw [lotX_lot h a, lot_sub (lotX_lot h b) List.filter_sublist, Bool.true_and, Bool.true_and, Bool.not_eq_true', List.any_eq_false]
  intro x hx hy
  have := (List.mem_filter.mp (of_decide_eq_true hy)).2
  rw [Bool.not_eq_true', decide_eq_false_iff_not] at this
  exact this hx
def onZ (a : Int) : Int := a % 64 * (if decide (0 < a / 64 % 4) then 1 else 0)
def effX (hs ms : List Str) (a b : Int) : List Str × List Str × Option Str := ((trnX hs (onZ a) (b % 64)).1, (trnX hs (onZ a) (b % 64)).2, optA ms 3 (b / 64 % ((ms.length : Int) + 3)))
theorem effX_ok {hs ms : List Str} {lo hi : Nat} (h : NmsOk hs lo hi) (a b : Int) : turnB (effX hs ms a b).1 (effX hs ms a b).2.1 hs = true ∧ toOk (effX hs ms a b).2.2 ms := ⟨trnX_turn h _ _, opt_ok⟩
theorem opt3 {ms : List Str} {i : Int} (h : 0 ≤ i ∧ i < (ms.length : Int) + 3) : atI (ms.map PyData.str ++ [PyData.none, PyData.none, PyData.none]) i = some (eO (optA ms 3 i)) := opt_at (n := 3) h.1 h.2
end PL

set_option maxHeartbeats 1000000
/-! ticks: shapes, orders; picks by a number -/
namespace PL
open PySem PySem.Spec PyProof.Rows L2 RZ
theorem row_to {b : Bk} {r : Option Str} {p l : Int} (h : rowB b r p l = true) : toOk r b.rn := fun x hx => by
  subst hx
  obtain ⟨w, hw, rfl, _⟩ := row_some h
  exact List.mem_map.mpr ⟨w, hw, rfl⟩
/-- the orders of a book -/
def ordsO (b : Bk) : List Oo := ([Oo.non] ++ (sortS b.cn).map .dO) ++ (sortS b.rn).map .run ++ [Oo.stop]
/-- an item picked by a number -/
theorem pick_at {α : Type} (xs : List α) (enc : α → D) (z : Int) (h : 0 < xs.length) : ∃ x ∈ xs, atI (xs.map enc) (z % (((xs.map enc).length : Nat) : Int)) = some (enc x) := by
  have e : (((xs.map enc).length : Nat) : Int) = (xs.length : Int) := by rw [List.length_map]
  rw [e]
  have h0 := Int.emod_nonneg z (show (xs.length : Int) ≠ 0 by omega)
  have h1 := Int.emod_lt_of_pos z (show 0 < (xs.length : Int) by omega)
  refine ⟨xs[(z % (xs.length : Int)).toNat]'(by omega), List.getElem_mem _, atI_get' (k := (z % (xs.length : Int)).toNat) ?_ (by omega)⟩
  rw [List.getElem?_map, List.getElem?_eq_getElem (by omega)]
  rfl
end PL

set_option maxHeartbeats 1000000
/-! ticks with nothing heard, and rest: the plain law -/
namespace PL
open PySem PySem.Spec PyProof.Rows L2 RZ
def homeT (b : Bk) : List Str × List Str := ((b.modes.getD 0 ⟨⟨#[]⟩, [], []⟩).on, (b.modes.getD 0 ⟨⟨#[]⟩, [], []⟩).off)
def restB (b : Bk) (g : Sg) : Bool := decide (g.r = none) && (match b.quiet with | none => true | some _ => decide (g.m = homeS b) && decide (turnF g.on (homeT b) = g.on))
def silT (b : Bk) (g : Sg) : Sg := (tickT b g [] .non).g
def silN (b : Bk) (g : Sg) : Nat → Sg
  | 0 => g
  | n + 1 => silT b (silN b g n)
theorem silN_succ (b : Bk) (g : Sg) : ∀ n, silN b (silT b g) n = silN b g (n + 1)
  | 0 => rfl
  | n + 1 => congrArg (silT b) (silN_succ b g n)
theorem ans_nil (b : Bk) (t : Tk) : t.ans b [] = t := by
  have h : ∀ (l : List Al) (t : Tk), l.foldl (Tk.ans1 b []) t = t := fun l => by
    induction l with
    | nil => exact fun _ => rfl
    | cons a r ih => exact fun t => ih t
  exact h b.alarms t
theorem sil_eq (b : Bk) (g : Sg) : silT b g = ((((tk0 g).wait b).go b)).g := by
  show ((((tk0 g).ans b []).wait b).go b).g = _
  rw [ans_nil]
theorem home_T {b : Bk} (h : BkOk b) : ∃ m ∈ b.modes, m.n = homeS b ∧ homeT b = (m.on, m.off) ∧ b.modes[0]? = some m := by
  obtain ⟨m, hm, e0, e1⟩ := home_mem h
  refine ⟨m, hm, e0, ?_, e1⟩
  unfold homeT
  rw [List.getD_eq_getElem?_getD, e1]
  rfl
theorem turnF_nil {b : Bk} {on : List Str} (h : lotOfB on b.holds = true) : turnF on ([], []) = on := by
  have e : appL on ([], []) = on := by
    unfold appL
    rw [List.append_nil]
    exact List.filter_eq_self.mpr fun x _ => by simp
  unfold turnF
  rw [e]
  exact lot_sort (lotOf h).1
theorem eff_home {b : Bk} (h : BkOk b) {on : List Str} (hl : lotOfB on b.holds = true) : effS b on ([], []) (some (homeS b)) = turnF on (homeT b) := by
  obtain ⟨m, hm, e0, e1, _⟩ := home_T h
  rw [e1, ← e0, effS_some h hm (lot_hs hl).nd List.nodup_nil, turnF_nil hl]
theorem home_turn {b : Bk} (h : BkOk b) : turnB (homeT b).1 (homeT b).2 b.holds = true := by
  obtain ⟨m, hm, e0, e1, _⟩ := home_T h
  rw [e1]
  exact h.mT m hm
theorem turnF_idem {on : List Str} {t : List Str × List Str} (h : on.Nodup) (h1 : t.1.Nodup) : turnF (turnF on t) t = turnF on t := by
  refine sort_same (app_nd (sort_nd (app_nd h h1)) h1) (app_nd h h1) fun x => ?_
  rw [app_mem, app_mem]
  show (x ∈ sortS (appL on t) ∧ _ ∨ _) ↔ _
  rw [mem_sort, app_mem]
  constructor
  · rintro (⟨h, h2⟩ | h)
    · exact h
    · exact .inr h
  · rintro (⟨h, h2⟩ | h)
    · exact .inl ⟨.inl ⟨h, h2⟩, h2⟩
    · exact .inr h
theorem sil_st {b : Bk} (h : BkOk b) {g : Sg} (hg : isSt b g = true) : isSt b (silT b g) = true := tk_st (tk_tick h hg (show OoOk b .non from trivial) [])
theorem silN_st {b : Bk} (h : BkOk b) {g : Sg} (hg : isSt b g = true) : ∀ n, isSt b (silN b g n) = true
  | 0 => hg
  | n + 1 => sil_st h (silN_st h hg n)
theorem rown_pl {b : Bk} {g : Sg} (hg : isSt b g = true) (hr : g.r = none) : g.p = 0 ∧ g.l = 0 := by
  have h := (isSt_iff.mp hg).2.2.1
  rw [hr] at h
  have h : (decide (g.p = 0) && decide (g.l = 0)) = true := h
  rw [Bool.and_eq_true, decide_eq_true_iff, decide_eq_true_iff] at h
  exact h
section
variable {b : Bk} {g : Sg}
/-- quiet is none -/
theorem sil_N (hq : b.quiet = none) : silT b g = ((tk0 g).go b).g := by
  rw [sil_eq]
  have : (tk0 g).wait b = tk0 g := by unfold Tk.wait; rw [hq]
  rw [this]
theorem sil_Nr (hq : b.quiet = none) (hr : g.r = none) : silT b g = g := by
  rw [sil_N hq]
  have : (tk0 g).go b = tk0 g := by
    unfold Tk.go
    have : (tk0 g).r = none := hr
    rw [this]
  rw [this]
  rfl
/-- the silence is over -/
theorem sil_T (h : BkOk b) (hg : isSt b g = true) {q : Int} (hq : b.quiet = some q) (hs : g.s + 1 = q) : silT b g = ⟨homeS b, turnF g.on (homeT b), none, 0, 0, 0⟩ := by
  have hl := (isSt_iff.mp hg).2.1
  rw [sil_eq]
  have : (tk0 g).wait b = ⟨homeS b, turnF g.on (homeT b), none, 0, 0, 0, [], [], [turnF g.on (homeT b)]⟩ := by
    unfold Tk.wait
    rw [hq]
    have hs : (tk0 g).s + 1 = q := hs
    dsimp only
    rw [if_pos hs]
    unfold Tk.eff Tk.halt
    dsimp only [tk0]
    rw [eff_home h hl]
    rfl
  rw [this]
  rfl
theorem sil_W {q : Int} (hq : b.quiet = some q) (hs : ¬ g.s + 1 = q) : silT b g = (({ tk0 g with s := g.s + 1 } : Tk).go b).g := by
  rw [sil_eq]
  have : (tk0 g).wait b = { tk0 g with s := g.s + 1 } := by
    unfold Tk.wait
    rw [hq]
    have hs : ¬ (tk0 g).s + 1 = q := hs
    dsimp only
    rw [if_neg hs]
    rfl
  rw [this]
theorem sil_Wr {q : Int} (hq : b.quiet = some q) (hs : ¬ g.s + 1 = q) (hr : g.r = none) : silT b g = { g with s := g.s + 1 } := by
  rw [sil_W hq hs]
  have : ({ tk0 g with s := g.s + 1 } : Tk).go b = { tk0 g with s := g.s + 1 } := by
    unfold Tk.go
    have : ({ tk0 g with s := g.s + 1 } : Tk).r = none := hr
    rw [this]
  rw [this]
  rfl
theorem tkgo_s (u : Tk) : (u.go b).s = u.s := by
  unfold Tk.go
  split
  · rfl
  · split
    · unfold Tk.beg Tk.cmd
      split <;> split <;> rfl
    · rfl
theorem sil_Ws {q : Int} (hq : b.quiet = some q) (hs : ¬ g.s + 1 = q) : (silT b g).s = g.s + 1 := by
  rw [sil_W hq hs]
  exact tkgo_s _
theorem rest_T (h : BkOk b) (hg : isSt b g = true) {q : Int} (hq : b.quiet = some q) (hs : g.s + 1 = q) : restB b (silT b g) = true := by
  have hl := (isSt_iff.mp hg).2.1
  rw [sil_T h hg hq hs]
  unfold restB
  rw [hq]
  dsimp only
  rw [turnF_idem (lot_hs hl).nd (turn_hs (home_turn h)).nd, decide_eq_true rfl, decide_eq_true rfl, decide_eq_true rfl]
  rfl
theorem rest_exQ (h : BkOk b) {q : Int} (hq : b.quiet = some q) : ∀ (d : Nat) (g : Sg), isSt b g = true → (q - g.s).toNat = d → ∃ n, restB b (silN b g n) = true
  | 0, g, hg, hd => by
    have h5 := (isSt_iff.mp hg).2.2.2.2
    unfold mostZ at h5
    rw [hq] at h5
    have h5 : g.s < q := h5
    omega
  | d + 1, g, hg, hd => by
    by_cases hs : g.s + 1 = q
    · exact ⟨1, rest_T h hg hq hs⟩
    · have e := sil_Ws hq hs (g := g)
      obtain ⟨n, hn⟩ := rest_exQ h hq d (silT b g) (sil_st h hg) (by rw [e]; omega)
      exact ⟨n + 1, by rw [← silN_succ]; exact hn⟩
/-- how far a row has to go -/
def rowM (b : Bk) (g : Sg) : Nat := match g.r with
  | none => 0
  | some r => ((((rowOf b r).st.length : Int) - g.p) * 10 + g.l).toNat
theorem rest_exN (h : BkOk b) (hq : b.quiet = none) : ∀ (d : Nat) (g : Sg), isSt b g = true → rowM b g ≤ d → ∃ n, restB b (silN b g n) = true := by
  have hrest : ∀ g : Sg, g.r = none → restB b g = true := fun g hr => by
    unfold restB
    rw [hq, hr]
    rfl
  intro d
  induction d with
  | zero =>
    intro g hg hd
    cases hr : g.r with
    | none => exact ⟨0, hrest g hr⟩
    | some r =>
      have hrow := (isSt_iff.mp hg).2.2.1
      rw [hr] at hrow
      obtain ⟨w1, w2, w3, w4, w5, w6, w7⟩ := row_at h hrow
      unfold rowM at hd
      rw [hr] at hd
      dsimp only at hd
      omega
  | succ d ih =>
    intro g hg hd
    cases hr : g.r with
    | none => exact ⟨0, hrest g hr⟩
    | some r =>
      have hrow := (isSt_iff.mp hg).2.2.1
      rw [hr] at hrow
      obtain ⟨w1, w2, w3, w4, w5, w6, w7⟩ := row_at h hrow
      have hM : rowM b g = ((((rowOf b r).st.length : Int) - g.p) * 10 + g.l).toNat := by unfold rowM; rw [hr]
      have key : rowM b (silT b g) ≤ d := by
        rw [sil_N hq]
        have hr0 : (tk0 g).r = some r := hr
        unfold Tk.go
        rw [hr0]
        dsimp only
        by_cases c : (tk0 g).l - 1 = 0
        · rw [if_pos c]
          unfold Tk.beg
          split
          · exact Nat.zero_le _
          · rename_i hne
            have hp1 : (0 : Int) ≤ g.p + 1 ∧ g.p + 1 < ((rowOf b r).st.length : Int) := ⟨by omega, by
              have : ¬ g.p + 1 = ((rowOf b r).st.length : Int) := hne
              omega⟩
            have h9 := ((h.rS _ w1).2.2 _ (st_mem hp1)).2.1
            have hl : g.l - 1 = 0 := c
            unfold rowM Tk.g
            dsimp only
            rw [row_of h w1]
            show ((((rowOf b r).st.length : Int) - (g.p + 1)) * 10 + (stAt (rowOf b r).st (g.p + 1)).1).toNat ≤ d
            omega
        · rw [if_neg c]
          unfold rowM Tk.g
          dsimp only
          have c : ¬ g.l - 1 = 0 := c
          show ((((rowOf b r).st.length : Int) - g.p) * 10 + (g.l - 1)).toNat ≤ d
          omega
      obtain ⟨n, hn⟩ := ih (silT b g) (sil_st h hg) key
      exact ⟨n + 1, by rw [← silN_succ]; exact hn⟩
theorem rest_ex (h : BkOk b) (hg : isSt b g = true) : ∃ n, restB b (silN b g n) = true := by
  cases hq : b.quiet with
  | none => exact rest_exN h hq _ g hg (Nat.le_refl _)
  | some q => exact rest_exQ h hq _ g hg rfl
end
/-- the first rest -/
def RestAt (b : Bk) (g : Sg) (n : Nat) : Prop := restB b (silN b g n) = true ∧ ∀ j < n, restB b (silN b g j) = false
theorem least_of {p : Nat → Bool} : ∀ n, p n = true → ∃ m, p m = true ∧ ∀ j < m, p j = false := by
  intro n
  induction n using Nat.strongRecOn with
  | _ n ih =>
    intro h
    by_cases c : ∃ j, j < n ∧ p j = true
    · obtain ⟨j, hj, e⟩ := c
      exact ih j hj e
    · refine ⟨n, h, fun j hj => ?_⟩
      cases e : p j with
      | false => rfl
      | true => exact absurd ⟨j, hj, e⟩ c
theorem rest_at {b : Bk} (h : BkOk b) {g : Sg} (hg : isSt b g = true) : ∃ n, RestAt b g n := by
  obtain ⟨n, hn⟩ := rest_ex h hg
  exact least_of n hn
/-! ### the law's own rest: nothing changes for a while -/
def same3 (g g' : Sg) : Bool := decide (g.m = g'.m) && decide (g.on = g'.on) && decide (g.r = g'.r)
/-- the standing g is followed: k ticks are done, nothing has changed -/
structure Folw (b : Bk) (g : Sg) (k : Nat) (u : Sg) : Prop where
  st : isSt b u = true
  eq : ∃ s, u = ⟨g.m, g.on, none, 0, 0, s⟩
  or : restB b g = true ∨ ∃ q, b.quiet = some q ∧ u.s = g.s + (k : Int)
section
variable {b : Bk} {g u : Sg} {k : Nat}
theorem folw0 (hg : isSt b g = true) (hr : g.r = none) : Folw b g 0 g := by
  obtain ⟨h1, h2⟩ := rown_pl hg hr
  refine ⟨hg, ⟨g.s, ?_⟩, ?_⟩
  · obtain ⟨m, on, r, p, l, s⟩ := g
    dsimp only at h1 h2 hr
    rw [h1, h2, hr]
  · cases hq : b.quiet with
    | none =>
      left
      unfold restB
      rw [hq, hr]
      rfl
    | some q => exact .inr ⟨q, rfl, by omega⟩
theorem rest_iff {q : Int} (hq : b.quiet = some q) (hr : g.r = none) : restB b g = true ↔ g.m = homeS b ∧ turnF g.on (homeT b) = g.on := by
  unfold restB
  rw [hq, hr]
  dsimp only
  rw [decide_eq_true rfl, Bool.true_and, Bool.and_eq_true, decide_eq_true_iff, decide_eq_true_iff]
/-- one more tick -/
theorem folw_next (h : BkOk b) (hg : isSt b g = true) (hr : g.r = none) (f : Folw b g k u) : (same3 (silT b u) g = true → Folw b g (k + 1) (silT b u)) ∧ (same3 (silT b u) g = false → restB b g = false) := by
  obtain ⟨hst, ⟨s, rfl⟩, hor⟩ := f
  cases hq : b.quiet with
  | none =>
    have e := sil_Nr (g := ⟨g.m, g.on, none, 0, 0, s⟩) hq rfl
    rw [e]
    refine ⟨fun _ => ⟨hst, ⟨s, rfl⟩, .inl ?_⟩, fun z => ?_⟩
    · unfold restB
      rw [hq, hr]
      rfl
    · unfold same3 at z
      dsimp only at z
      rw [hr, decide_eq_true rfl, decide_eq_true rfl, decide_eq_true rfl] at z
      cases z
  | some q =>
    by_cases hs : s + 1 = q
    · have e := sil_T h hst hq hs
      dsimp only at e
      rw [e]
      refine ⟨fun z => ?_, fun z => ?_⟩
      · unfold same3 at z
        dsimp only at z
        rw [Bool.and_eq_true, Bool.and_eq_true, decide_eq_true_iff, decide_eq_true_iff] at z
        have h2 := sil_st h hst
        rw [e] at h2
        have hrest := (rest_iff hq hr).mpr ⟨z.1.1.symm, z.1.2⟩
        refine ⟨h2, ⟨0, ?_⟩, .inl hrest⟩
        rw [z.1.1, z.1.2]
      · rw [← Bool.not_eq_true]
        intro hrest
        obtain ⟨h1, h2⟩ := (rest_iff hq hr).mp hrest
        unfold same3 at z
        dsimp only at z
        rw [h2, ← h1, hr, decide_eq_true rfl, decide_eq_true rfl, decide_eq_true rfl] at z
        cases z
    · have e := sil_Wr (g := ⟨g.m, g.on, none, 0, 0, s⟩) hq hs rfl
      dsimp only at e
      rw [e]
      refine ⟨fun _ => ⟨by have := sil_st h hst; rwa [e] at this, ⟨s + 1, rfl⟩, hor.imp id fun ⟨q', h1, h2⟩ => ⟨q, hq, ?_⟩⟩, fun z => ?_⟩
      · unfold same3 at z
        dsimp only at z
        rw [hr, decide_eq_true rfl, decide_eq_true rfl, decide_eq_true rfl] at z
        cases z
      · have h2 : s = g.s + (k : Int) := h2
        show s + 1 = g.s + ((k + 1 : Nat) : Int)
        omega
def quietZ (b : Bk) : Int := b.quiet.getD 0
theorem folw_end (hg : isSt b g = true) (f : Folw b g k u) (hk : (k : Int) = 2 + 2 * quietZ b) : restB b g = true := by
  obtain ⟨hst, ⟨s, rfl⟩, hor⟩ := f
  rcases hor with h | ⟨q, hq, h⟩
  · exact h
  · have h5 := (isSt_iff.mp hst).2.2.2.2
    have h4 := (isSt_iff.mp hg).2.2.2.1
    unfold mostZ at h5
    rw [hq] at h5
    have h5 : s < q := h5
    have h : s = g.s + (k : Int) := h
    unfold quietZ at hk
    rw [hq] at hk
    have hk : (k : Int) = 2 + 2 * q := hk
    omega
end
end PL

set_option maxHeartbeats 2000000
/-! repr of a bool; x or y where x is none or a number -/
namespace PL
open PySem PySem.Spec PyProof.Rows L2
section
variable {X : Cx}
theorem call_repr_bool : CallR X (.builtin "repr") (fun xs H Q => ∃ b, xs = [.bl b] ∧ Q (.str (if b then "True" else "False")) H) := by
  intro pins s σ H xs us Q I r h
  obtain ⟨b, rfl, q⟩ := h
  obtain ⟨u, rfl, h⟩ := vals1 r
  obtain rfl : u = Value.bool b := h
  exact PySem.P.repr_of_bool ⟨.str _, H, I.tok _, ⟨_, rfl⟩, q⟩
end
section
variable {X : Cx} {Γ : Ga} {a b e : Expr} {rest : List Expr} {pos p : Pos} {k : Bool} {i : Int}
theorem go_reprB (ha : Go X Γ e (.bool k)) (hm : X.mg "repr" = none) (hg : Gl X "repr" := by rfl) (he : starEach [e] X.env = (false, eval e X.env) :: starEach [] X.env := by rfl) : Go X Γ (.Call (.Name "repr" p) [e] [] pos) (.str (if k then "True" else "False")) :=
  go_callB call_repr_bool hg hm PyProof.Rows.boot_repr (goA_cons ha goA_nil he) (fun vs B H hB r Q q => by
    obtain ⟨v, rfl, h⟩ := mn1 r
    rw [dp_bl h]
    exact ⟨k, rfl, q _ B H (.same hB) (Dp.str _)⟩) (by decide) (by decide) he rfl
theorem go_orN {d : D} (ha : Go X Γ a .none) (h2 : Go X Γ (.BoolOp .Or (b :: rest) pos) d) : Go X Γ (.BoolOp .Or (a :: b :: rest) pos) d := .mk fun σ B H Fs E Q q =>
  toE (pe_orT sE sE) (ha σ B H Fs E _ fun v B1 H1 n1 r1 => by
    rw [dp_non r1]
    exact ⟨false, rfl, iteF (h2 σ B1 H1 Fs (E.nw n1) _ fun v B2 H2 n2 r2 => q v B2 H2 (n1.trans n2) r2)⟩)
theorem go_orI (ha : Go X Γ a (.int i)) (h0 : i ≠ 0) (h2 : Go X Γ (.BoolOp .Or (b :: rest) pos) (.int 0)) : Go X Γ (.BoolOp .Or (a :: b :: rest) pos) (.int i) := .mk fun σ B H Fs E Q q =>
  toE (pe_orT sE (h2 |> fun _ => sE)) (ha σ B H Fs E _ fun v B1 H1 n1 r1 => by
    rw [dp_int r1]
    exact ⟨true, (bne_iff_ne.mpr h0).symm, iteT (q _ B1 H1 n1 (Dp.int _))⟩)
end
end PL

set_option maxHeartbeats 4000000
namespace K
open PySem PySem.Spec PyProof.Rows L2 PL
local macro_rules | `(tactic| walk_at "pside") => `(tactic| first | exact True.intro | assumption | omega | decide | (refine ⟨?_, ?_⟩ <;> walk_at "pside") | walk_at "pshp" | (simp only [List.length_map, List.length_cons, List.length_nil, List.length_append, List.length_range, rngI_len]; omega) | (refine leZ ?_; simp only [List.length_map, List.length_cons, List.length_nil, List.length_append, List.length_range, rngI_len]; omega))
local macro_rules | `(tactic| walk_at "pshp") => `(tactic| first | exact Shp.ok (by walk_at "psh") | exact Shp.ok (n := 9) (by walk_at "psh9"))
local macro_rules | `(tactic| walk_at "psh9") => `(tactic| first | exact Shp.int _ _ | exact Shp.bool _ _ | exact Shp.non _ | exact Shp.str _ | exact Shp.ints _ _ | exact Shp.tints _ _ | (refine Shp.tup ?_; walk_at "psha") | (refine Shp.list ?_; walk_at "psha") | exact Shp.up (by assumption) (by decide))
local macro_rules | `(tactic| walk_at "psha") => `(tactic| first | exact ShpA.nil | refine ShpA.cons (by walk_at "psh9") (by walk_at "psha"))
local macro_rules | `(tactic| walk_at "psh") => `(tactic| first | exact Shp.int _ 0 | exact Shp.bool _ 0 | exact Shp.non 0 | assumption | exact Shp.ints _ 0)
local macro_rules | `(tactic| walk_at "pix") => `(tactic| first | exact rfl | assumption | exact atI_nat (by assumption) | exact atI_get' (by assumption) (by omega) | exact IntsD.at (by assumption) (by omega) | exact IntsD.at (n := 3) ⟨[_, _, _], rfl, rfl, fun _ _ => True.intro⟩ (by omega) | exact IntsD.at (n := 2) ⟨[_, _], rfl, rfl, fun _ _ => True.intro⟩ (by omega) | exact IntsD.at (n := 4) ⟨[_, _, _, _], rfl, rfl, fun _ _ => True.intro⟩ (by omega) | exact IntsD.at (n := 5) ⟨[_, _, _, _, _], rfl, rfl, fun _ _ => True.intro⟩ (by omega))
local macro_rules | `(tactic| walk_at "ptru") => `(tactic| exact ⟨fun _ h => (nomatch h), fun _ h => (nomatch h)⟩)
local macro_rules | `(tactic| walk_at "pints") => `(tactic| first | assumption | exact ints_map | exact bools_map)
local macro_rules | `(tactic| walk_at "pS") => `(tactic| first | exact ⟨_, rfl, rfl, by walk_at "pside"⟩ | exact ⟨_, _, rfl, rfl, by walk_at "pside"⟩ | exact ⟨_, _, _, rfl, rfl, by walk_at "pside"⟩ | exact ⟨_, _, _, _, rfl, rfl, by walk_at "pside"⟩ | exact ⟨_, _, _, _, _, rfl, rfl, by walk_at "pside"⟩ | exact ⟨_, _, _, _, rfl, ⟨rfl, rfl, rfl⟩, by walk_at "pside"⟩ | exact ⟨_, _, _, _, rfl, rfl, rfl, rfl, by walk_at "pside"⟩ | exact ⟨_, _, _, _, _, rfl, rfl, rfl, rfl, by walk_at "pside"⟩ | exact ⟨_, _, rfl, rfl, rfl, rfl, by walk_at "pside"⟩)
def topS (i : Nat) : Stmt := PySem.Challenge.pw_farword_k30_rest.main.body.getD i (.Pass ⟨0, 0, 0, 0⟩)
/-! ### the law's own numbers -/
abbrev s__law_row : Stmt := topS 31
theorem sc__law_row : FnScope ["_law_cell", "_law_many", "_law_row_here", "_law_rest", "_law_state", "_law_k"] ["_law_cell", "_law_many"] (defScope s__law_row) := ⟨rfl, rfl, rfl, by decide +kernel, rfl, by decide +kernel, by decide +kernel⟩
abbrev s__law_numbers : Stmt := topS 32
theorem sc__law_numbers : FnScope ["_law_script", "_law_many", "_law_cells", "_law_each", "_law_numbers_here", "_law_cell", "_law_number"] ["_law_script", "_law_many"] (defScope s__law_numbers) := ⟨rfl, rfl, rfl, by decide +kernel, rfl, by decide +kernel, by decide +kernel⟩
def Small (x : Int) : Prop := 0 ≤ x ∧ x < 1009
/-- a list of n small numbers -/
def numP (n : Nat) : Mn := exP (IntsD Small n) fun ds => datP (.list ds)
def S__law_row : List Mn → Mn → Prop := fun Ps R => ∃ (c n : Int), Ps = [datP (.int c), datP (.int n)] ∧ R = numP n.toNat ∧ (0 ≤ n ∧ n ≤ 100000)
def S__law_numbers : List Mn → Mn → Prop := fun Ps R => ∃ (ns : List Int) (n : Int), Ps = [datP (.list (ns.map .int)), datP (.int n)] ∧ R = numP n.toNat ∧ (0 ≤ n ∧ n ≤ 10000)
theorem small_mod (z : Int) : Small (z % 1009) := ⟨Int.emod_nonneg _ (by decide), Int.emod_lt_of_pos _ (by decide)⟩
section
variable {P : Program} {w : World} {K : PySem.W.Frag} {mg : Str → Option Value} {base : Heap}
theorem ok__law_row (df : Dfn K mg "_law_row" s__law_row ["_law_cell", "_law_many"])    (bt : Bt mg) : Cal P w K mg base "_law_row" ["_law_cell", "_law_many"] 1 S__law_row := by
  refine cal_ok df sc__law_row ?_ ?_
  · rintro _ _ ⟨c, n, rfl, rfl, _⟩
    rfl
  rintro _ _ ⟨c, n, rfl, rfl, hn⟩ f cdv A outer s H E hr J hJ
  have sb : ∀ z : Int, 0 ≤ z % 2147483647 ∧ z % 2147483647 < 2147483647 := fun z => ⟨Int.emod_nonneg _ (by decide), Int.emod_lt_of_pos _ (by decide)⟩
  refine rn_cons (rs_own 2 (goN_lst god_nil) ?_ sc__law_row.nd)
  refine rn_cons (rs_set 3 go_int ?_ sc__law_row.nd)
  refine rn_cons (rs_cut (fun Γ' => ∃ r : Int, Γ' = [.dat (.int c), .dat (.int n), .own [], .dat (.int r), .any, .any] ∧ 0 ≤ r) (rs_if (gocT (gx_c (.of hr) (go_abs (go_var 0) bt.abs) (gx_bin go_int go_int))) (fun hk => ?_) fun hk => ?_) ?_)
  · skip
    refine rn_cons (rs_set 3 (go_abs (go_var 0) bt.abs) ?_ sc__law_row.nd)
    refine rn_nil ⟨_, rfl, ?_⟩
    split <;> omega
  · skip
    exact rn_nil ⟨0, rfl, by omega⟩
  rintro _ ⟨r, rfl, hr0⟩
  refine rn_cons (rs_set 4 (gx_bin (gx_int bt.int (go_abs (go_var 0) bt.abs)) go_int) ?_ sc__law_row.nd)
  refine rn_cons (rs_for (fun k Γ' => ∃ (ds : List D) (r st : Int) (s5 : Sl), Γ' = [.dat (.int c), .dat (.int n), .own ds, .dat (.int r), .dat (.int st), s5] ∧ IntsD Small k ds ∧ 0 ≤ r ∧ (0 ≤ st ∧ st < 2147483647)) (gx_rng1 bt.range (go_var 1)) ?_ ?_ ?_ rfl)
  · exact ⟨_, _, _, _, rfl, .nil, hr0, sb _⟩
  · rintro k d _ hd ⟨ds, r, st, s5, rfl, h1, h3, h4⟩
    obtain ⟨hk, rfl⟩ := rng_get hd
    have hl : ds.length < 1000000 := by
      rw [h1.len]
      omega
    refine ⟨_, _, (gog_name 5 sc__law_row.nd), ?_⟩
    refine rn_cons (rs_set 4 (gx_bin (gx_int bt.int (gx_bin (gx_bin (gx_bin (go_var 4) go_int) go_int) (gx_bin go_int (go_var 5)))) go_int) ?_ sc__law_row.nd)
    refine rn_cons (rs_if (gocT (gx_c (.of hr) (go_var 3) go_int)) (fun hk => ?_) fun hk => ?_)
    · skip
      refine rn_cons (rs_app 2 rfl (gx_bin (gx_int bt.int (go_var 3)) go_int) (ltZ (by walk_at "pside")) ?_)
      refine rn_cons (rs_set 3 (gx_bin (go_var 3) go_int) ?_ sc__law_row.nd)
      exact rn_nil (rn_nil ⟨_, _, _, _, rfl, h1.push (small_mod _), Int.ediv_nonneg h3 (by decide), sb _⟩)
    · skip
      refine rn_cons (rs_app 2 rfl (gx_bin (gx_int bt.int (gx_bin (go_var 4) go_int)) go_int) (ltZ (by walk_at "pside")) ?_)
      exact rn_nil (rn_nil ⟨_, _, _, _, rfl, h1.push (small_mod _), h3, sb _⟩)
  · rintro _ ⟨ds, r, st, s5, rfl, h1, h3, h4⟩
    rw [rng_len, show n - 0 = n by omega] at h1
    refine rn_ice 2 rfl (by rw [hJ]; exact List.not_mem_nil) (rn_cons (rs_ret (go_ex ds h1 (go_var 2))))
theorem ok__law_numbers (df : Dfn K mg "_law_numbers" s__law_numbers ["_law_script", "_law_many"]) (c__law_row : Cal P w K mg base "_law_row" ["_law_cell", "_law_many"] 1 S__law_row)   (bt : Bt mg) : Cal P w K mg base "_law_numbers" ["_law_script", "_law_many"] 2 S__law_numbers := by
  refine cal_ok df sc__law_numbers ?_ ?_
  · rintro _ _ ⟨c, n, rfl, rfl, _⟩
    rfl
  rintro _ _ ⟨ms, n, rfl, rfl, hn⟩ f cdv A outer s H E hr J hJ
  have hcut := cut63 ms
  have hlen : (ms.take 63).length ≤ 63 := by
    rw [List.length_take]
    omega
  revert hcut hlen
  generalize ms.take 63 = cs
  intro hcut hlen
  refine rn_cons (rs_set 2 (go_is (go_of_new (goN_sl (go_var 0) goO_none (goO_some go_int))) (congrArg PyData.list hcut)) ?_ sc__law_numbers.nd)
  obtain ⟨m, em, hm⟩ : ∃ m : Int, (1 + n / (if ((cs.map PyData.int).length : Int) > 1 then ((cs.map PyData.int).length : Int) else 1)) = m ∧ (0 ≤ m ∧ m ≤ 10001) := by
    have h1 : (1 : Int) ≤ (if ((cs.map PyData.int).length : Int) > 1 then ((cs.map PyData.int).length : Int) else 1) := by split <;> omega
    generalize (if ((cs.map PyData.int).length : Int) > 1 then ((cs.map PyData.int).length : Int) else 1) = q at h1 ⊢
    have h2 : 0 ≤ n / q := Int.ediv_nonneg (by omega) (by omega)
    have h3 : n / q ≤ n := Int.ediv_le_self _ (by omega)
    exact ⟨_, rfl, by omega⟩
  have hq : (0 : Int) < (if ((cs.map PyData.int).length : Int) > 1 then ((cs.map PyData.int).length : Int) else 1) ∧ (if ((cs.map PyData.int).length : Int) > 1 then ((cs.map PyData.int).length : Int) else 1) < 1073741824 := by
    rw [List.length_map]
    split <;> omega
  refine rn_cons (rs_set 3 (go_is (gx_bin go_int (gx_bin (go_var 1) (go_max2 rfl go_int (gx_len bt.len (go_var 2)) bt.max))) (congrArg PyData.int em)) ?_ sc__law_numbers.nd)
  refine rn_cons (rs_own 4 (goN_lst god_nil) ?_ sc__law_numbers.nd)
  have h1009 : Small 0 := ⟨by omega, by omega⟩
  refine rn_cons (rs_for (fun k Γ' => ∃ (ds : List D) (s5 s6 : Sl), Γ' = [.dat (.list (ms.map .int)), .dat (.int n), .dat (.list (cs.map .int)), .dat (.int m), .own ds, s5, s6] ∧ IntsD Small (k * m.toNat) ds) (gx_it (go_var 2)) ?_ ?_ ?_ rfl)
  · exact ⟨_, _, _, rfl, by rw [Nat.zero_mul]; exact .nil⟩
  · rintro k d _ hd ⟨ds, s5, s6, rfl, h1⟩
    obtain ⟨c, hk, rfl⟩ : ∃ c, k < cs.length ∧ d = .int c := by
      rw [List.getElem?_map] at hd
      cases q : cs[k]? with
      | none =>
        rw [q] at hd
        cases hd
      | some z =>
        rw [q] at hd
        cases hd
        exact ⟨z, (List.getElem?_eq_some_iff.mp q).1, rfl⟩
    have hkm : k * m.toNat + m.toNat ≤ 63 * 10001 := by
      have : (k + 1) * m.toNat ≤ 63 * 10001 := Nat.mul_le_mul (by omega) (by omega)
      rwa [Nat.succ_mul] at this
    refine ⟨_, _, (gog_name 5 sc__law_numbers.nd), ?_⟩
    refine rn_cons (rs_forX (p := IntsD Small m.toNat) (fun es t Γ' => ∃ (ds : List D) (s6 : Sl), Γ' = [.dat (.list (ms.map .int)), .dat (.int n), .dat (.list (cs.map .int)), .dat (.int m), .own ds, .dat (.int c), s6] ∧ IntsD Small (k * m.toNat + t) ds)
      (goix_list' (gx_call c__law_row hr (by decide) (goA_cons (go_var 5) (goA_cons (go_var 3) goA_nil)))) (fun es _ => ⟨_, _, rfl, h1⟩) ?_ ?_ rfl)
    · rintro es he t d _ hd ⟨ds, s6, rfl, h2⟩
      obtain ⟨z, rfl, hz, ht⟩ := he.get hd
      have hl : ds.length < 1000000 := by
        rw [h2.len]
        omega
      refine ⟨_, _, (gog_name 6 sc__law_numbers.nd), ?_⟩
      refine rn_cons (rs_app 4 rfl (go_var 6) (ltZ (by walk_at "pside")) ?_)
      exact rn_nil ⟨_, _, rfl, h2.push hz⟩
    · rintro es he _ ⟨ds, s6, rfl, h2⟩
      rw [he.len] at h2
      exact rn_nil ⟨_, _, _, rfl, by rw [Nat.succ_mul]; exact h2⟩
  · rintro _ ⟨ds, s5, s6, rfl, h1⟩
    rw [List.length_map] at h1
    have hkm : cs.length * m.toNat ≤ 63 * 10001 := Nat.mul_le_mul hlen (by omega)
    refine rn_cons (rs_while (fun q Γ' => ∃ (ds : List D), Γ' = [.dat (.list (ms.map .int)), .dat (.int n), .dat (.list (cs.map .int)), .dat (.int m), .own ds, s5, s6] ∧ ∃ l, IntsD Small l ds ∧ l ≤ 700000 ∧ q = n.toNat - l) _ (⟨_, rfl, _, h1, by omega, rfl⟩) ?_)
    rintro q _ ⟨ds, rfl, l, h1, h2, rfl⟩
    refine ⟨_, goT_thaw 4 (gocT (gx_c (.of hr) (gx_len bt.len (go_var 4)) (go_var 1))), fun hk => ?_, fun hk => ?_⟩
    · rw [h1.len] at hk
      have hk := of_decide_eq_true hk
      have hl : ds.length < 1000000 := by
        rw [h1.len]
        omega
      refine rn_cons (rs_app 4 rfl go_int (ltZ (by walk_at "pside")) ?_)
      exact rn_nil ⟨n.toNat - (l + 1), by omega, _, rfl, l + 1, h1.push h1009, by omega, rfl⟩
    · rw [h1.len] at hk
      have hk := of_decide_eq_false hk
      refine rn_ice 4 rfl (by rw [hJ]; exact List.not_mem_nil) (rn_cons (rs_ret (go_ex (ds.take n.toNat) ?_ (go_is (go_of_new (goN_sl (go_var 4) goO_none (goO_some (go_var 1)))) (by
        rw [show n = ((n.toNat : Nat) : Int) by omega, cutHi]
        rfl)))))
      obtain ⟨ns, rfl, g2, g3⟩ := h1
      exact ⟨ns.take n.toNat, List.map_take.symm, by rw [List.length_take]; omega, fun x hx => g3 x (List.mem_of_mem_take hx)⟩
end
/-! ### books: names, lots -/
abbrev s_is_name : Stmt := topS 10
theorem sc_is_name : FnScope ["text", "sign"] ["text"] (defScope s_is_name) := ⟨rfl, rfl, rfl, by decide +kernel, rfl, by decide +kernel, by decide +kernel⟩
abbrev s_is_lot : Stmt := topS 11
theorem sc_is_lot : FnScope ["names", "name", "k"] ["names"] (defScope s_is_lot) := ⟨rfl, rfl, rfl, by decide +kernel, rfl, by decide +kernel, by decide +kernel⟩
abbrev s_is_lot_of : Stmt := topS 12
theorem sc_is_lot_of : FnScope ["names", "known", "name"] ["names", "known"] (defScope s_is_lot_of) := ⟨rfl, rfl, rfl, by decide +kernel, rfl, by decide +kernel, by decide +kernel⟩
abbrev s_are_turned : Stmt := topS 13
theorem sc_are_turned : FnScope ["on", "off", "holds", "name"] ["on", "off", "holds"] (defScope s_are_turned) := ⟨rfl, rfl, rfl, by decide +kernel, rfl, by decide +kernel, by decide +kernel⟩
abbrev s_require : Stmt := topS 14
theorem sc_require : FnScope ["holds"] ["holds"] (defScope s_require) := ⟨rfl, rfl, rfl, by decide +kernel, rfl, by decide +kernel, by decide +kernel⟩
abbrev s_require_names : Stmt := topS 15
theorem sc_require_names : FnScope ["names", "least", "most", "name"] ["names", "least", "most"] (defScope s_require_names) := ⟨rfl, rfl, rfl, by decide +kernel, rfl, by decide +kernel, by decide +kernel⟩
abbrev s_is_effect : Stmt := topS 16
theorem sc_is_effect : FnScope ["on", "off", "to", "holds", "modes"] ["on", "off", "to", "holds", "modes"] (defScope s_is_effect) := ⟨rfl, rfl, rfl, by decide +kernel, rfl, by decide +kernel, by decide +kernel⟩
abbrev s_is_step : Stmt := topS 17
theorem sc_is_step : FnScope ["step", "commands"] ["step", "commands"] (defScope s_is_step) := ⟨rfl, rfl, rfl, by decide +kernel, rfl, by decide +kernel, by decide +kernel⟩
abbrev s_names_of : Stmt := topS 18
theorem sc_names_of : FnScope ["parts", "part"] ["parts"] (defScope s_names_of) := ⟨rfl, rfl, rfl, by decide +kernel, rfl, by decide +kernel, by decide +kernel⟩
def S_is_name : List Mn → Mn → Prop := fun Ps R => ∃ x : Str, Ps = [datP (.str x)] ∧ R = datP (.bool (isNmB x)) ∧ x.length ≤ 1000
def S_is_lot : List Mn → Mn → Prop := fun Ps R => ∃ l : List Str, Ps = [datP (eL l)] ∧ R = datP (.bool (isLotB l)) ∧ LotS l
def S_is_lot_of : List Mn → Mn → Prop := fun Ps R => ∃ l ks : List Str, Ps = [datP (eL l), datP (.list (ks.map .str))] ∧ R = datP (.bool (lotOfB l ks)) ∧ LotS l
def S_are_turned : List Mn → Mn → Prop := fun Ps R => ∃ on off hs : List Str, Ps = [datP (eL on), datP (eL off), datP (.list (hs.map .str))] ∧ R = datP (.bool (turnB on off hs)) ∧ (LotS on ∧ LotS off)
def S_require : List Mn → Mn → Prop := fun Ps R => Ps = [datP (.bool true)] ∧ R = datP .none
def E_require : List Mn → Er → Prop := fun Ps r => Ps = [datP (.bool false)] ∧ r = er0 "InvalidBook"
def S_require_names : List Mn → Mn → Prop := fun Ps R => ∃ (l : List Str) (lo hi : Nat), Ps = [datP (.list (l.map .str)), datP (nat lo), datP (nat hi)] ∧ R = datP .none ∧ (NmsOk l lo hi ∧ hi ≤ 100)
def effB (on off : List Str) (to : Option Str) (hs ms : List Str) : Bool := turnB on off hs && (isNonD (eO to) || (match to with | none => false | some x => decide (x ∈ ms)))
def S_is_effect : List Mn → Mn → Prop := fun Ps R => ∃ (on off : List Str) (to : Option Str) (hs ms : List Str), Ps = [datP (eL on), datP (eL off), datP (eO to), datP (.list (hs.map .str)), datP (.list (ms.map .str))] ∧ R = datP (.bool (effB on off to hs ms)) ∧ (LotS on ∧ LotS off)
def stepB (s : Int × Str) (cs : List Str) : Bool := true && ((decide (1 ≤ s.1) && decide (s.1 ≤ 9)) && decide (s.2 ∈ cs))
def S_is_step : List Mn → Mn → Prop := fun Ps R => ∃ (s : Int × Str) (cs : List Str), Ps = [datP (eSt s), datP (.list (cs.map .str))] ∧ R = datP (.bool (stepB s cs))
def S_names_of : List Mn → Mn → Prop := fun Ps R => ∃ (α : Type) (xs : List α) (nm : α → Str) (tl : α → List D), Ps = [datP (.list (xs.map fun x => .tuple (.str (nm x) :: tl x)))] ∧ R = datP (.list ((xs.map nm).map .str)) ∧ xs.length ≤ 1000
section
variable {P : Program} {w : World} {K : PySem.W.Frag} {mg : Str → Option Value} {base : Heap}
theorem ok_is_name (df : Dfn K mg "is_name" s_is_name ["text"])   (x_LETTERS : GlobD K mg "LETTERS" (.str letS)) (T_InvalidBook : Ec0 K mg "InvalidBook") (bt : Bt mg) : Cal P w K mg base "is_name" ["text"] 1 S_is_name := by
  refine cal_ok df sc_is_name ?_ ?_
  · rintro _ _ ⟨x, rfl, rfl, _⟩
    rfl
  rintro _ _ ⟨x, rfl, rfl, hx⟩ f cdv A outer s H E hr J hJ
  refine rn_cons (rs_ret ?_)
  have e : isNmB x = ((decide ((1 : Int) ≤ (x.length : Int)) && decide ((x.length : Int) ≤ 12)) && ((x.cps.toList.map fun c => PyData.bool (decide (c ∈ letS.cps.toList))).all truB)) := by
    unfold isNmB
    rw [List.all_map]
    rfl
  rw [e]
  have hx2 : x.length ≤ sizeLine := leZ (by omega)
  have hz : x.cps.toList.length < 1000000 := by
    have : x.cps.toList.length = x.length := Array.length_toList
    omega
  exact (go_andV (go_chainI op_le op_le go_int (gx_len bt.len (go_var 0)) go_int) fun hk => (go_one (gx_all rfl bt.all (go_of_new (gx_lcM (own := [("sign", 1)]) rfl sc_is_name.nd (goi_str (go_var 0)) (fun k x hx => ⟨_, _, fun s H C cl fp => (gog_name 1 sc_is_name.nd), fun s H C cl fp => (goc (gx_in (go_var 1) (go_gcon x_LETTERS))), by simp⟩) (by first | (show blkC ["text", "sign"] (defScope s_is_name) _ _ = true; decide +kernel) | (show blkC ["text", "sign"] (relS _ (defScope s_is_name)) _ _ = true; decide +kernel) | (show blkC ["text", "sign"] (relS _ (relS _ (defScope s_is_name))) _ _ = true; decide +kernel)))))))
theorem ok_is_lot (df : Dfn K mg "is_lot" s_is_lot ["names"]) (c_is_name : Cal P w K mg base "is_name" ["text"] 1 S_is_name)  (x_LETTERS : GlobD K mg "LETTERS" (.str letS)) (T_InvalidBook : Ec0 K mg "InvalidBook") (bt : Bt mg) : Cal P w K mg base "is_lot" ["names"] 2 S_is_lot := by
  refine cal_ok df sc_is_lot ?_ ?_
  · rintro _ _ ⟨l, rfl, rfl, _⟩
    rfl
  rintro _ _ ⟨l, rfl, rfl, hl⟩ f cdv A outer s H E hr J hJ
  have hz : l.length < 1000000 := by have := hl.1; omega
  have e1 : ((l.map fun x => PyData.bool (isNmB x)).all truB) = l.all isNmB := by
    rw [List.all_map]
    rfl
  have hw : ∀ x ∈ l, x.length ≤ 1000 := hl.2
  refine rn_cons (rs_if (k := !l.all isNmB) (goT_is (goT_not (goT_val (gx_all rfl bt.all (go_of_new (gx_lcM (xs := l) (enc := .str) (f := fun x => .bool (isNmB x)) (own := [("name", 1)]) rfl sc_is_lot.nd (goi_tup (go_var 0)) (fun k x hx => by
    have hw1 := hw x (List.mem_of_getElem? hx)
    exact ⟨_, _, fun s H C cl fp => (gog_name 1 sc_is_lot.nd), fun s H C cl fp => (gx_call c_is_name hr (by decide) (goA_cons (go_var 1) goA_nil)), by simp⟩) (by first | (show blkC ["names", "name", "k"] (defScope s_is_lot) _ _ = true; decide +kernel) | (show blkC ["names", "name", "k"] (relS _ (defScope s_is_lot)) _ _ = true; decide +kernel) | (show blkC ["names", "name", "k"] (relS _ (relS _ (defScope s_is_lot))) _ _ = true; decide +kernel))))))) (by rw [e1])) (fun hk => ?_) fun hk => ?_)
  · skip
    have e : isLotB l = false := by
      unfold isLotB
      rw [Bool.not_eq_true'] at hk
      rw [hk, Bool.false_and]
    rw [e]
    refine rn_cons (rs_ret go_bl)
  · rw [Bool.not_eq_false'] at hk
    have e : isLotB l = (((List.range (l.length - 1)).map fun k => PyData.bool (ltS (l.getD k ⟨#[]⟩) (l.getD (k + 1) ⟨#[]⟩))).all truB) := by
      unfold isLotB risB
      rw [hk, Bool.true_and, List.all_map]
      rfl
    rw [e]
    have hlen : (l.map PyData.str).length = l.length := List.length_map _
    have hn : ((rngI 0 (((l.map PyData.str).length : Int) - 1)).map PyData.int) = (List.range (l.length - 1)).map fun k => PyData.int ((0 : Int) + (k : Nat)) := by
      unfold rngI
      rw [List.map_map, hlen, show ((l.length : Int) - 1 - 0).toNat = l.length - 1 by omega]
      rfl
    refine rn_nil (rn_cons (rs_ret (gx_all rfl bt.all (go_of_new (gx_lcM (own := [("k", 2)]) rfl sc_is_lot.nd (goi_is (gx_rng1 bt.range (gx_bin (gx_len bt.len (go_var 0)) go_int)) hn) (fun k x hx => by
      have hx2 : x < l.length - 1 := List.mem_range.mp (List.mem_of_getElem? hx)
      have g1 : atI (l.map PyData.str) ((0 : Int) + (x : Nat)) = some (.str (l.getD x ⟨#[]⟩)) := atI_get' (k := x) (by rw [List.getElem?_map, List.getD_eq_getElem?_getD, List.getElem?_eq_getElem (by omega)]; rfl) (by omega)
      have g2 : atI (l.map PyData.str) ((0 : Int) + (x : Nat) + 1) = some (.str (l.getD (x + 1) ⟨#[]⟩)) := atI_get' (k := x + 1) (by rw [List.getElem?_map, List.getD_eq_getElem?_getD, List.getElem?_eq_getElem (by omega)]; rfl) (by omega)
      exact ⟨_, _, fun s H C cl fp => (gog_name 2 sc_is_lot.nd), fun s H C cl fp => (goc (gx_c (.of hr) (gx_ix (go_var 0) (go_var 2)) (gx_ix (go_var 0) (gx_bin (go_var 2) go_int)))), by simp⟩) (by first | (show blkC ["names", "name", "k"] (defScope s_is_lot) _ _ = true; decide +kernel) | (show blkC ["names", "name", "k"] (relS _ (defScope s_is_lot)) _ _ = true; decide +kernel) | (show blkC ["names", "name", "k"] (relS _ (relS _ (defScope s_is_lot))) _ _ = true; decide +kernel)) (by rw [List.length_range]; omega))))))
theorem ok_is_lot_of (df : Dfn K mg "is_lot_of" s_is_lot_of ["names", "known"]) (c_is_lot : Cal P w K mg base "is_lot" ["names"] 2 S_is_lot)  (x_LETTERS : GlobD K mg "LETTERS" (.str letS)) (T_InvalidBook : Ec0 K mg "InvalidBook") (bt : Bt mg) : Cal P w K mg base "is_lot_of" ["names", "known"] 3 S_is_lot_of := by
  refine cal_ok df sc_is_lot_of ?_ ?_
  · rintro _ _ ⟨l, ks, rfl, rfl, _⟩
    rfl
  rintro _ _ ⟨l, ks, rfl, rfl, hl⟩ f cdv A outer s H E hr J hJ
  have hz : l.length < 1000000 := by have := hl.1; omega
  have e : lotOfB l ks = (isLotB l && ((l.map fun x => PyData.bool (decide (x ∈ ks))).all truB)) := by
    unfold lotOfB inB
    rw [List.all_map]
    rfl
  rw [e]
  refine rn_cons (rs_ret (go_andV (gx_call c_is_lot hr (by decide) (goA_cons (go_var 0) goA_nil)) fun hk => go_one (gx_all rfl bt.all (go_of_new (gx_lcM (xs := l) (enc := .str) (own := [("name", 2)]) rfl sc_is_lot_of.nd (goi_tup (go_var 0)) (fun k x hx => ⟨_, _, fun s H C cl fp => (gog_name 2 sc_is_lot_of.nd), fun s H C cl fp => (goc (gx_in (go_var 2) (go_var 1))), by simp⟩) (by first | (show blkC ["names", "known", "name"] (defScope s_is_lot_of) _ _ = true; decide +kernel) | (show blkC ["names", "known", "name"] (relS _ (defScope s_is_lot_of)) _ _ = true; decide +kernel) | (show blkC ["names", "known", "name"] (relS _ (relS _ (defScope s_is_lot_of))) _ _ = true; decide +kernel)))))))
theorem ok_are_turned (df : Dfn K mg "are_turned" s_are_turned ["on", "off", "holds"]) (c_is_lot_of : Cal P w K mg base "is_lot_of" ["names", "known"] 3 S_is_lot_of)  (x_LETTERS : GlobD K mg "LETTERS" (.str letS)) (T_InvalidBook : Ec0 K mg "InvalidBook") (bt : Bt mg) : Cal P w K mg base "are_turned" ["on", "off", "holds"] 4 S_are_turned := by
  refine cal_ok df sc_are_turned ?_ ?_
  · rintro _ _ ⟨on, off, hs, rfl, rfl, _⟩
    rfl
  rintro _ _ ⟨on, off, hs, rfl, rfl, hl, hl2⟩ f cdv A outer s H E hr J hJ
  have hz : on.length < 1000000 := by have := hl.1; omega
  have e : turnB on off hs = (lotOfB on hs && (lotOfB off hs && !((on.map fun x => PyData.bool (decide (x ∈ off))).any truB))) := by
    unfold turnB
    rw [List.any_map]
    rfl
  rw [e]
  refine rn_cons (rs_ret (go_andV (gx_call c_is_lot_of hr (by decide) (goA_cons (go_var 0) (goA_cons (go_var 2) goA_nil))) fun hk => go_andV (gx_call c_is_lot_of hr (by decide) (goA_cons (go_var 1) (goA_cons (go_var 2) goA_nil))) fun hk => go_one (go_notV (gx_any rfl bt.any (go_of_new (gx_lcM (xs := on) (enc := .str) (own := [("name", 3)]) rfl sc_are_turned.nd (goi_tup (go_var 0)) (fun k x hx => ⟨_, _, fun s H C cl fp => (gog_name 3 sc_are_turned.nd), fun s H C cl fp => (goc (gx_in (go_var 3) (go_var 1))), by simp⟩) (by first | (show blkC ["on", "off", "holds", "name"] (defScope s_are_turned) _ _ = true; decide +kernel) | (show blkC ["on", "off", "holds", "name"] (relS _ (defScope s_are_turned)) _ _ = true; decide +kernel) | (show blkC ["on", "off", "holds", "name"] (relS _ (relS _ (defScope s_are_turned))) _ _ = true; decide +kernel))))))))
theorem ok_require (df : Dfn K mg "require" s_require ["holds"])   (x_LETTERS : GlobD K mg "LETTERS" (.str letS)) (T_InvalidBook : Ec0 K mg "InvalidBook") (bt : Bt mg) : CalF P w K mg base (L2.CX P w) "require" ["holds"] 1 (orSp (spS K S_require) (spE K E_require)) := by
  refine fX_ok df sc_require ?_ ?_ ?_ ?_
  · rintro _ _ ⟨rfl, rfl⟩
    rfl
  · rintro _ _ ⟨rfl, rfl⟩
    rfl
  · rintro _ _ ⟨rfl, rfl⟩ f cdv A outer s H E hr J hJ
    refine rn_cons (rs_if (k := false) (goT_is (goT_not (gx_t (go_var 0))) ?_) (fun h => nomatch h) fun _ => rn_nil (rn_nil fun _ _ => Dp.non))
    rfl
  · rintro _ _ ⟨rfl, rfl⟩ f cdv A outer s H E hr J hJ hM hW
    refine rn_cons (rs_if (k := true) (goT_is (goT_not (gx_t (go_var 0))) ?_) (fun _ => rn_cons (rs_soe (Wx := fun cls d _ H => E cls d H) (soe_raise T_InvalidBook rfl (takes_of rfl rfl rfl rfl)) hM fun σ C d H2 h1 h2 => hW C d H2 h1 h2)) fun h => nomatch h)
    rfl
theorem ok_require_names (df : Dfn K mg "require_names" s_require_names ["names", "least", "most"]) (c_is_name : Cal P w K mg base "is_name" ["text"] 1 S_is_name) (c_require : CalF P w K mg base (L2.CX P w) "require" ["holds"] 1 (orSp (spS K S_require) (spE K E_require)))  (x_LETTERS : GlobD K mg "LETTERS" (.str letS)) (T_InvalidBook : Ec0 K mg "InvalidBook") (bt : Bt mg) : Cal P w K mg base "require_names" ["names", "least", "most"] 2 S_require_names := by
  refine cal_ok df sc_require_names ?_ ?_
  · rintro _ _ ⟨l, lo, hi, rfl, rfl, _⟩
    rfl
  rintro _ _ ⟨l, lo, hi, rfl, rfl, hl, hh⟩ f cdv A outer s H E hr J hJ
  obtain ⟨h1, h2, h3, h4⟩ := hl
  have hz : l.length < 1000000 := by omega
  have hz2 : l.length < 4000 := by omega
  have hw : ∀ x ∈ l, x.length ≤ 1000 := fun x hx => by have := nm_len (h3 x hx); omega
  have e1 : ((l.map fun x => PyData.bool (isNmB x)).all truB) = true := by
    rw [List.all_map]
    exact List.all_eq_true.mpr h3
  have e2 : decide (((dif l).length : Int) = (((l.map PyData.str).length : Nat) : Int)) = true := decide_eq_true (by rw [dif_len h4, List.length_map])
  have hlen : (l.map PyData.str).length = l.length := List.length_map _
  refine rn_cons (rs_expr (gx_callE c_require hr (by decide) (goA_cons (go_is (go_andV (go_chainI op_le op_le (go_var 1) (gx_len bt.len (go_var 0)) (go_var 2)) fun hk => go_andV (gx_all rfl bt.all (go_of_new (gx_lcM (xs := l) (enc := .str) (f := fun x => .bool (isNmB x)) (own := [("name", 3)]) rfl sc_require_names.nd (goi_list (go_var 0)) (fun k x hx => by
    have hw1 := hw x (List.mem_of_getElem? hx)
    exact ⟨_, _, fun s H C cl fp => (gog_name 3 sc_require_names.nd), fun s H C cl fp => (gx_call c_is_name hr (by decide) (goA_cons (go_var 3) goA_nil)), by simp⟩) (by first | (show blkC ["names", "least", "most", "name"] (defScope s_require_names) _ _ = true; decide +kernel) | (show blkC ["names", "least", "most", "name"] (relS _ (defScope s_require_names)) _ _ = true; decide +kernel) | (show blkC ["names", "least", "most", "name"] (relS _ (relS _ (defScope s_require_names))) _ _ = true; decide +kernel))))) fun hk => go_one (goc (gx_c (.of hr) (gx_lenSet rfl bt.len bt.set (go_var 0)) (gx_len bt.len (go_var 0))))) ?_) goA_nil) ⟨rfl, rfl⟩) ?_)
  · rw [e1, e2, decide_eq_true (show ((lo : Nat) : Int) ≤ (((l.map PyData.str).length : Nat) : Int) by omega), decide_eq_true (show (((l.map PyData.str).length : Nat) : Int) ≤ ((hi : Nat) : Int) by omega)]
    rfl
  exact rn_nil fun _ _ => Dp.non
theorem ok_is_effect (df : Dfn K mg "is_effect" s_is_effect ["on", "off", "to", "holds", "modes"]) (c_are_turned : Cal P w K mg base "are_turned" ["on", "off", "holds"] 4 S_are_turned)  (x_LETTERS : GlobD K mg "LETTERS" (.str letS)) (T_InvalidBook : Ec0 K mg "InvalidBook") (bt : Bt mg) : Cal P w K mg base "is_effect" ["on", "off", "to", "holds", "modes"] 5 S_is_effect := by
  refine cal_ok df sc_is_effect ?_ ?_
  · rintro _ _ ⟨on, off, to, hs, ms, rfl, rfl, _⟩
    rfl
  rintro _ _ ⟨on, off, to, hs, ms, rfl, rfl, hl, hl2⟩ f cdv A outer s H E hr J hJ
  cases to with
  | none =>
    refine rn_cons (rs_ret (go_andV (gx_call c_are_turned hr (by decide) (goA_cons (go_var 0) (goA_cons (go_var 1) (goA_cons (go_var 3) goA_nil)))) fun hk => go_one (go_is (go_orV (l := false) (goc (gc_isN (go_var 2))) fun h => absurd h (by decide)) ?_)))
    rfl
  | some x => refine rn_cons (rs_ret (go_andV (gx_call c_are_turned hr (by decide) (goA_cons (go_var 0) (goA_cons (go_var 1) (goA_cons (go_var 3) goA_nil)))) fun hk => (go_one (go_orV (goc (gc_isN (go_var 2))) fun hk => (go_one (goc (gx_in (go_var 2) (go_var 4))))))))
theorem ok_is_step (df : Dfn K mg "is_step" s_is_step ["step", "commands"])   (x_LETTERS : GlobD K mg "LETTERS" (.str letS)) (T_InvalidBook : Ec0 K mg "InvalidBook") (bt : Bt mg) : Cal P w K mg base "is_step" ["step", "commands"] 1 S_is_step := by
  refine cal_ok df sc_is_step ?_ ?_
  · rintro _ _ ⟨s, cs, rfl, rfl⟩
    rfl
  rintro _ _ ⟨s, cs, rfl, rfl⟩ f cdv A outer s' H E hr J hJ
  unfold eSt
  refine rn_cons (rs_ret (go_andV (goc (gx_c (.of hr) (gx_len bt.len (go_var 0)) go_int)) fun hk => (go_andV (go_chainI op_le op_le go_int (gx_ix (go_var 0) go_int) go_int) fun hk => (go_one (goc (gx_in (gx_ix (go_var 0) go_int) (go_var 1)))))))
theorem ok_names_of (df : Dfn K mg "names_of" s_names_of ["parts"])   (x_LETTERS : GlobD K mg "LETTERS" (.str letS)) (T_InvalidBook : Ec0 K mg "InvalidBook") (bt : Bt mg) : Cal P w K mg base "names_of" ["parts"] 1 S_names_of := by
  refine cal_ok df sc_names_of ?_ ?_
  · rintro _ _ ⟨α, xs, nm, tl, rfl, rfl, _⟩
    rfl
  rintro _ _ ⟨α, xs, nm, tl, rfl, rfl, hz⟩ f cdv A outer s' H E hr J hJ
  have hz : xs.length < 1000000 := by omega
  rw [List.map_map]
  refine rn_cons (rs_ret (go_of_new (gx_lcM (xs := xs) (enc := fun x => .tuple (.str (nm x) :: tl x)) (f := fun x => .str (nm x)) (own := [("part", 1)]) rfl sc_names_of.nd (goi_list (go_var 0)) (fun k x hx => ⟨_, _, fun s H C cl fp => (gog_name 1 sc_names_of.nd), fun s H C cl fp => (gx_ix (go_var 1) go_int (by exact atI_head)), by simp⟩) (by first | (show blkC ["parts", "part"] (defScope s_names_of) _ _ = true; decide +kernel) | (show blkC ["parts", "part"] (relS _ (defScope s_names_of)) _ _ = true; decide +kernel) | (show blkC ["parts", "part"] (relS _ (relS _ (defScope s_names_of))) _ _ = true; decide +kernel)))))
end

/-! ### books: the class -/
abbrev s_Book___init__ : Stmt := inClass (topS 19) 0
theorem sc_Book___init__ : FnScope ["self", "holds", "modes", "barred", "commands", "alarms", "rows", "quiet", "parts", "some", "many", "part", "known", "_", "on", "off", "lot", "to", "steps", "step", "named", "command", "ordered", "name"] ["self", "holds", "modes", "barred", "commands", "alarms", "rows", "quiet"] (defScope s_Book___init__) := ⟨rfl, rfl, rfl, by decide +kernel, rfl, by decide +kernel, by decide +kernel⟩
def S_Book___init__ : Ow → List Mn → Mn → Ow → Prop := fun W Ps R W' => ∃ b : Bk, W = insO "Book" [] ∧ Ps = [datP (.list (b.holds.map .str)), datP (.list (b.modes.map eM)), datP (.list (b.barred.map eL)), datP (.list (b.cmds.map eC)), datP (.list (b.alarms.map eA)), datP (.list (b.rows.map eR)), datP (eQ b.quiet)] ∧ R = datP .none ∧ W' = bookO b ∧ BkOk b
theorem nmsM (b : Bk) (h : BkOk b) : S_names_of [datP (.list (b.modes.map eM))] (datP (.list (b.mn.map .str))) := ⟨Md, b.modes, Md.n, fun m => [eL m.on, eL m.off], rfl, rfl, by have := h.m.hi; rw [List.length_map] at this; omega⟩
theorem nmsC (b : Bk) (h : BkOk b) : S_names_of [datP (.list (b.cmds.map eC))] (datP (.list (b.cn.map .str))) := ⟨Cm, b.cmds, Cm.n, fun m => [eL m.ms, eL m.on, eL m.off, eO m.to], rfl, rfl, by have := h.c.hi; rw [List.length_map] at this; omega⟩
theorem nmsA (b : Bk) (h : BkOk b) : S_names_of [datP (.list (b.alarms.map eA))] (datP (.list (b.an.map .str))) := ⟨Al, b.alarms, Al.n, fun m => [eL m.on, eL m.off, eO m.to], rfl, rfl, by have := h.a.hi; rw [List.length_map] at this; omega⟩
theorem nmsR (b : Bk) (h : BkOk b) : S_names_of [datP (.list (b.rows.map eR))] (datP (.list (b.rn.map .str))) := ⟨Rw, b.rows, Rw.n, fun m => [.tuple (m.st.map eSt)], rfl, rfl, by have := h.r.hi; rw [List.length_map] at this; omega⟩
def lensX (b : Bk) : List (List D × Int) := [(b.modes.map eM, 3), (b.cmds.map eC, 5), (b.alarms.map eA, 4), (b.rows.map eR, 2)]
theorem lens_ok (b : Bk) (h : BkOk b) : (∀ p ∈ lensX b, ∀ d ∈ p.1, ∃ es : List D, d = .tuple es ∧ (es.length : Int) = p.2 ∧ es.length ≤ 5) ∧ ∀ p ∈ lensX b, p.1.length ≤ 8 := by
  have h1 := h.m.hi
  have h2 := h.c.hi
  have h3 := h.a.hi
  have h4 := h.r.hi
  rw [List.length_map] at h1 h2 h3 h4
  constructor
  · intro p hp d hd
    simp only [lensX, List.mem_cons, List.not_mem_nil, or_false] at hp
    rcases hp with rfl | rfl | rfl | rfl
    all_goals
      obtain ⟨x, _, rfl⟩ := List.mem_map.mp hd
      exact ⟨_, rfl, rfl, Nat.le_of_ble_eq_true rfl⟩
  · intro p hp
    simp only [lensX, List.mem_cons, List.not_mem_nil, or_false] at hp
    rcases hp with rfl | rfl | rfl | rfl
    all_goals
      simp only [List.length_map]
      omega
def tupOf : D → List D
  | .tuple es => es
  | _ => []
theorem flat_le {α β : Type} (ys : α → List β) (n : Nat) : ∀ xs : List α, (∀ x ∈ xs, (ys x).length ≤ n) → (xs.flatMap ys).length ≤ xs.length * n
  | [], _ => by simp
  | x :: r, h => by
    have ih := flat_le ys n r fun y hy => h y (List.mem_cons_of_mem _ hy)
    have := h x List.mem_cons_self
    rw [List.flatMap_cons, List.length_append, List.length_cons, Nat.succ_mul]
    omega
section
variable {P : Program} {w : World} {K : PySem.W.Frag} {mg : Str → Option Value} {base : Heap}
theorem ok_Book___init__ (df : MtdI K mg "Book" "Book.__init__" s_Book___init__ ["self", "holds", "modes", "barred", "commands", "alarms", "rows", "quiet"]) (c_require : CalF P w K mg base (L2.CX P w) "require" ["holds"] 1 (orSp (spS K S_require) (spE K E_require))) (c_require_names : Cal P w K mg base "require_names" ["names", "least", "most"] 2 S_require_names) (c_names_of : Cal P w K mg base "names_of" ["parts"] 1 S_names_of) (c_are_turned : Cal P w K mg base "are_turned" ["on", "off", "holds"] 4 S_are_turned) (c_is_lot_of : Cal P w K mg base "is_lot_of" ["names", "known"] 3 S_is_lot_of) (c_is_effect : Cal P w K mg base "is_effect" ["on", "off", "to", "holds", "modes"] 5 S_is_effect) (c_is_step : Cal P w K mg base "is_step" ["step", "commands"] 1 S_is_step)  (x_LETTERS : GlobD K mg "LETTERS" (.str letS)) (T_InvalidBook : Ec0 K mg "InvalidBook") (x_MODE : GlobD K mg "MODE" (.str "mode")) (x_COMMAND : GlobD K mg "COMMAND" (.str "command")) (x_ALARM : GlobD K mg "ALARM" (.str "alarm")) (x_ROW : GlobD K mg "ROW" (.str "row")) (O_Book : ClsOk K "Book" ["_holds", "_barred", "_parts", "_quiet"]) (bt : Bt mg) : CalC P w K mg base "Book" ["self", "holds", "modes", "barred", "commands", "alarms", "rows", "quiet"] 6 S_Book___init__ := by
  refine mI_ok df sc_Book___init__ ?_ (by decide) ?_
  · rintro _ _ _ _ ⟨b, rfl, rfl, rfl, rfl, _⟩
    rfl
  rintro _ _ _ _ ⟨b, rfl, rfl, rfl, rfl, hb⟩ v0 f cdv A outer s H E hr J hJ
  have hM := nmsM b hb
  have hC := nmsC b hb
  have hA := nmsA b hb
  have hR := nmsR b hb
  have m1 := hb.m.hi
  have m2 := hb.c.hi
  have m3 := hb.a.hi
  have m4 := hb.r.hi
  have m5 := hb.h.hi
  have zM : b.modes.length < 1000000 := by rw [List.length_map] at m1; omega
  have zC : b.cmds.length < 1000000 := by rw [List.length_map] at m2; omega
  have zA : b.alarms.length < 1000000 := by rw [List.length_map] at m3; omega
  have zR : b.rows.length < 1000000 := by rw [List.length_map] at m4; omega
  have zH : b.holds.length ≤ 1000 := by omega
  have zN : b.mn.length ≤ 1000 := by omega
  refine rn_cons (rs_set 8 (go_lst (god_cons (go_tup (god_cons (go_var 2) (god_cons go_int god_nil))) (god_cons (go_tup (god_cons (go_var 4) (god_cons go_int god_nil))) (god_cons (go_tup (god_cons (go_var 5) (god_cons go_int god_nil))) (god_cons (go_tup (god_cons (go_var 6) (god_cons go_int god_nil))) god_nil))))) ?_ sc_Book___init__.nd)
  obtain ⟨lk1, lk2⟩ := lens_ok b hb
  have bT : ∀ d ∈ (lensX b).flatMap fun p => p.1.map fun d => PyData.bool (decide (((tupOf d).length : Int) = p.2)), d = .bool true := fun d hd => by
    obtain ⟨p, hp, hd⟩ := List.mem_flatMap.mp hd
    obtain ⟨e, he, rfl⟩ := List.mem_map.mp hd
    obtain ⟨es, rfl, h1, _⟩ := lk1 p hp e he
    exact congrArg PyData.bool (decide_eq_true h1)
  refine rn_cons (rs_expr (gx_callE c_require hr (by decide) (goA_cons (go_is (gx_all rfl bt.all (go_of_new (gx_lc2 (xs := lensX b) (enc := fun p => .tuple [.list p.1, .int p.2]) (ys := fun p => p.1) (enc1 := fun _ d => d) (f := fun p d => .bool (decide (((tupOf d).length : Int) = p.2))) [("some", 9), ("many", 10), ("part", 11)] [11] rfl sc_Book___init__.nd (goi_list (go_var 8)) (fun k x hx => by
    have hxm := List.mem_of_getElem? hx
    refine ⟨_, _, fun s H C cl fp => (gog_tup rfl (gogs_cons (gog_name 9 sc_Book___init__.nd) (gogs_cons (gog_name 10 sc_Book___init__.nd) gogs_nil))), fun s H C cl fp => goi_is (goi_list (go_var 9)) (List.map_id' _).symm, fun j y hy => ?_, by simp⟩
    obtain ⟨es, rfl, _, hle⟩ := lk1 x hxm y (List.mem_of_getElem? hy)
    have hes : es.length ≤ sizeLine := leZ (by omega)
    exact ⟨_, _, fun s H C cl fp => (gog_name 11 sc_Book___init__.nd), fun s H C cl fp => (goc (gx_c (.of hr) (gx_len bt.len (go_var 11)) (go_var 10))), by simp⟩) (by first | (show blkC ["self", "holds", "modes", "barred", "commands", "alarms", "rows", "quiet", "parts", "some", "many", "part", "known", "_", "on", "off", "lot", "to", "steps", "step", "named", "command", "ordered", "name"] (defScope s_Book___init__) _ _ = true; decide +kernel) | (show blkC ["self", "holds", "modes", "barred", "commands", "alarms", "rows", "quiet", "parts", "some", "many", "part", "known", "_", "on", "off", "lot", "to", "steps", "step", "named", "command", "ordered", "name"] (relS _ (defScope s_Book___init__)) _ _ = true; decide +kernel) | (show blkC ["self", "holds", "modes", "barred", "commands", "alarms", "rows", "quiet", "parts", "some", "many", "part", "known", "_", "on", "off", "lot", "to", "steps", "step", "named", "command", "ordered", "name"] (relS _ (relS _ (defScope s_Book___init__))) _ _ = true; decide +kernel)) (fun n => by
    refine Nat.lt_of_le_of_lt (flat_le _ 8 _ fun x hx => lk2 x (List.mem_of_mem_take hx)) ?_
    have : ((lensX b).take n).length ≤ 4 := Nat.le_trans (List.length_take_le' _ _) (Nat.le_of_ble_eq_true rfl)
    omega))) (boolsT bT)) ?_) goA_nil) ⟨rfl, rfl⟩) ?_)
  · exact congrArg PyData.bool (allT bT)
  refine rn_cons (rs_expr (gx_call c_require_names hr (by decide) (goA_cons (go_var 1) (goA_cons go_int (goA_cons go_int goA_nil))) ⟨b.holds, 1, 6, rfl, rfl, hb.h, by decide⟩) ?_)
  refine rn_cons (rs_expr (gx_call c_require_names hr (by decide) (goA_cons (gx_call c_names_of hr (by decide) (goA_cons (go_var 2) goA_nil) hM) (goA_cons go_int (goA_cons go_int goA_nil))) ⟨b.mn, 1, 5, rfl, rfl, hb.m, by decide⟩) ?_)
  refine rn_cons (rs_expr (gx_call c_require_names hr (by decide) (goA_cons (gx_call c_names_of hr (by decide) (goA_cons (go_var 4) goA_nil) hC) (goA_cons go_int (goA_cons go_int goA_nil))) ⟨b.cn, 0, 8, rfl, rfl, hb.c, by decide⟩) ?_)
  refine rn_cons (rs_expr (gx_call c_require_names hr (by decide) (goA_cons (gx_call c_names_of hr (by decide) (goA_cons (go_var 5) goA_nil) hA) (goA_cons go_int (goA_cons go_int goA_nil))) ⟨b.an, 0, 4, rfl, rfl, hb.a, by decide⟩) ?_)
  refine rn_cons (rs_expr (gx_call c_require_names hr (by decide) (goA_cons (gx_call c_names_of hr (by decide) (goA_cons (go_var 6) goA_nil) hR) (goA_cons go_int (goA_cons go_int goA_nil))) ⟨b.rn, 0, 3, rfl, rfl, hb.r, by decide⟩) ?_)
  refine rn_cons (rs_set 12 (gx_call c_names_of hr (by decide) (goA_cons (go_var 2) goA_nil) hM) ?_ sc_Book___init__.nd)
  refine rn_cons (rs_expr (gx_callE c_require hr (by decide) (goA_cons (go_is (gx_all rfl bt.all (go_of_new (gx_lcM (xs := b.modes) (enc := eM) (f := fun m => .bool (turnB m.on m.off b.holds)) (own := [("_", 13), ("on", 14), ("off", 15)]) rfl sc_Book___init__.nd (goi_list (go_var 2)) (fun k x hx => by
    have hw := turnS (hb.mT x (List.mem_of_getElem? hx)) zH
    exact ⟨_, _, fun s H C cl fp => (gog_tup rfl (gogs_cons (gog_name 13 sc_Book___init__.nd) (gogs_cons (gog_name 14 sc_Book___init__.nd) (gogs_cons (gog_name 15 sc_Book___init__.nd) gogs_nil)))), fun s H C cl fp => (gx_call c_are_turned hr (by decide) (goA_cons (go_var 14) (goA_cons (go_var 15) (goA_cons (go_var 1) goA_nil))) ⟨x.on, x.off, b.holds, rfl, rfl, hw⟩), by simp⟩) (by first | (show blkC ["self", "holds", "modes", "barred", "commands", "alarms", "rows", "quiet", "parts", "some", "many", "part", "known", "_", "on", "off", "lot", "to", "steps", "step", "named", "command", "ordered", "name"] (defScope s_Book___init__) _ _ = true; decide +kernel) | (show blkC ["self", "holds", "modes", "barred", "commands", "alarms", "rows", "quiet", "parts", "some", "many", "part", "known", "_", "on", "off", "lot", "to", "steps", "step", "named", "command", "ordered", "name"] (relS _ (defScope s_Book___init__)) _ _ = true; decide +kernel) | (show blkC ["self", "holds", "modes", "barred", "commands", "alarms", "rows", "quiet", "parts", "some", "many", "part", "known", "_", "on", "off", "lot", "to", "steps", "step", "named", "command", "ordered", "name"] (relS _ (relS _ (defScope s_Book___init__))) _ _ = true; decide +kernel))))) ?_) goA_nil) ⟨rfl, rfl⟩) ?_)
  · exact congrArg PyData.bool (mapT hb.mT)
  have hb64 : b.barred.length < 64 := by have := hb.b1; omega
  have zB : b.barred.length < 1000000 := by omega
  have lB : (((b.barred.map eL).length : Nat) : Int) = (b.barred.length : Int) := by rw [List.length_map]
  refine rn_cons (rs_expr (gx_callE c_require hr (by decide) (goA_cons (go_is (go_andV (goc (gx_c (.of hr) (gx_len bt.len (go_var 3)) go_int)) fun hk => go_one (goc (gx_c (.of hr) (go_lenSetT (.of hr) rfl bt.len bt.set (go_var 3) hb64) (gx_len bt.len (go_var 3))))) ?_) goA_nil) ⟨rfl, rfl⟩) ?_)
  · have := hb.b1
    rw [lB, ddL_len hb.b2, decide_eq_true (show ((b.barred.length : Nat) : Int) ≤ 8 by omega), decide_eq_true rfl]
    rfl
  refine rn_cons (rs_expr (gx_callE c_require hr (by decide) (goA_cons (go_is (gx_all rfl bt.all (go_of_new (gx_lcM (xs := b.barred) (enc := eL) (f := fun _ => .bool true) (own := [("lot", 16)]) rfl sc_Book___init__.nd (goi_list (go_var 3)) (fun k x hx => by
    obtain ⟨b31, b32⟩ := hb.b3 x (List.mem_of_getElem? hx)
    have hw := lotS_of b32 zH
    have lx : (((x.map PyData.str).length : Nat) : Int) = (x.length : Int) := by rw [List.length_map]
    exact ⟨_, _, fun s H C cl fp => (gog_name 16 sc_Book___init__.nd), fun s H C cl fp => (go_is (go_andV (goc (gx_c (.of hr) (gx_len bt.len (go_var 16)) go_int)) fun hk => go_one (gx_call c_is_lot_of hr (by decide) (goA_cons (go_var 16) (goA_cons (go_var 1) goA_nil)) ⟨x, b.holds, rfl, rfl, hw⟩)) (by rw [b32, lx, decide_eq_true (show (1 : Int) < (x.length : Int) by omega)]; rfl)), by simp⟩) (by first | (show blkC ["self", "holds", "modes", "barred", "commands", "alarms", "rows", "quiet", "parts", "some", "many", "part", "known", "_", "on", "off", "lot", "to", "steps", "step", "named", "command", "ordered", "name"] (defScope s_Book___init__) _ _ = true; decide +kernel) | (show blkC ["self", "holds", "modes", "barred", "commands", "alarms", "rows", "quiet", "parts", "some", "many", "part", "known", "_", "on", "off", "lot", "to", "steps", "step", "named", "command", "ordered", "name"] (relS _ (defScope s_Book___init__)) _ _ = true; decide +kernel) | (show blkC ["self", "holds", "modes", "barred", "commands", "alarms", "rows", "quiet", "parts", "some", "many", "part", "known", "_", "on", "off", "lot", "to", "steps", "step", "named", "command", "ordered", "name"] (relS _ (relS _ (defScope s_Book___init__))) _ _ = true; decide +kernel)))) (fun d hd => by
    obtain ⟨_, _, rfl⟩ := List.mem_map.mp hd
    exact ⟨true, rfl⟩)) ?_) goA_nil) ⟨rfl, rfl⟩) ?_)
  · exact congrArg PyData.bool (allT fun d hd => by
      obtain ⟨_, _, rfl⟩ := List.mem_map.mp hd
      rfl)
  have hcm : ∀ c ∈ b.cmds, LotS c.ms := fun c hc => lotS_of (hb.cM c hc) zN
  refine rn_cons (rs_expr (gx_callE c_require hr (by decide) (goA_cons (go_is (gx_all rfl bt.all (go_of_new (gx_lcM (xs := b.cmds) (enc := eC) (f := fun c => .bool (lotOfB c.ms b.mn)) (own := [("_", 13), ("some", 9)]) rfl sc_Book___init__.nd (goi_list (go_var 4)) (fun k x hx => by
    have hw := hcm x (List.mem_of_getElem? hx)
    exact ⟨_, _, fun s H C cl fp => (gog_tup rfl (gogs_cons (gog_name 13 sc_Book___init__.nd) (gogs_cons (gog_name 9 sc_Book___init__.nd) (gogs_cons (gog_name 13 sc_Book___init__.nd) (gogs_cons (gog_name 13 sc_Book___init__.nd) (gogs_cons (gog_name 13 sc_Book___init__.nd) gogs_nil)))))), fun s H C cl fp => (gx_call c_is_lot_of hr (by decide) (goA_cons (go_var 9) (goA_cons (go_var 12) goA_nil)) ⟨x.ms, b.mn, rfl, rfl, hw⟩), by simp⟩) (by first | (show blkC ["self", "holds", "modes", "barred", "commands", "alarms", "rows", "quiet", "parts", "some", "many", "part", "known", "_", "on", "off", "lot", "to", "steps", "step", "named", "command", "ordered", "name"] (defScope s_Book___init__) _ _ = true; decide +kernel) | (show blkC ["self", "holds", "modes", "barred", "commands", "alarms", "rows", "quiet", "parts", "some", "many", "part", "known", "_", "on", "off", "lot", "to", "steps", "step", "named", "command", "ordered", "name"] (relS _ (defScope s_Book___init__)) _ _ = true; decide +kernel) | (show blkC ["self", "holds", "modes", "barred", "commands", "alarms", "rows", "quiet", "parts", "some", "many", "part", "known", "_", "on", "off", "lot", "to", "steps", "step", "named", "command", "ordered", "name"] (relS _ (relS _ (defScope s_Book___init__))) _ _ = true; decide +kernel))))) ?_) goA_nil) ⟨rfl, rfl⟩) ?_)
  · exact congrArg PyData.bool (mapT hb.cM)
  have eff : ∀ (on off : List Str) (to : Option Str), turnB on off b.holds = true → toOk to b.mn → effB on off to b.holds b.mn = true := fun on off to h1 h2 => by
    unfold effB
    rw [h1]
    cases to with
    | none => rfl
    | some x => exact decide_eq_true (h2 x rfl)
  refine rn_cons (rs_expr (gx_callE c_require hr (by decide) (goA_cons (go_is (gx_all rfl bt.all (go_of_new (gx_lcM (xs := b.cmds) (enc := eC) (f := fun c => .bool (effB c.on c.off c.to b.holds b.mn)) (own := [("_", 13), ("on", 14), ("off", 15), ("to", 17)]) rfl sc_Book___init__.nd (goi_list (go_var 4)) (fun k x hx => by
    have hw := turnS (hb.cE x (List.mem_of_getElem? hx)).1 zH
    exact ⟨_, _, fun s H C cl fp => (gog_tup rfl (gogs_cons (gog_name 13 sc_Book___init__.nd) (gogs_cons (gog_name 13 sc_Book___init__.nd) (gogs_cons (gog_name 14 sc_Book___init__.nd) (gogs_cons (gog_name 15 sc_Book___init__.nd) (gogs_cons (gog_name 17 sc_Book___init__.nd) gogs_nil)))))), fun s H C cl fp => (gx_call c_is_effect hr (by decide) (goA_cons (go_var 14) (goA_cons (go_var 15) (goA_cons (go_var 17) (goA_cons (go_var 1) (goA_cons (go_var 12) goA_nil))))) ⟨x.on, x.off, x.to, b.holds, b.mn, rfl, rfl, hw⟩), by simp⟩) (by first | (show blkC ["self", "holds", "modes", "barred", "commands", "alarms", "rows", "quiet", "parts", "some", "many", "part", "known", "_", "on", "off", "lot", "to", "steps", "step", "named", "command", "ordered", "name"] (defScope s_Book___init__) _ _ = true; decide +kernel) | (show blkC ["self", "holds", "modes", "barred", "commands", "alarms", "rows", "quiet", "parts", "some", "many", "part", "known", "_", "on", "off", "lot", "to", "steps", "step", "named", "command", "ordered", "name"] (relS _ (defScope s_Book___init__)) _ _ = true; decide +kernel) | (show blkC ["self", "holds", "modes", "barred", "commands", "alarms", "rows", "quiet", "parts", "some", "many", "part", "known", "_", "on", "off", "lot", "to", "steps", "step", "named", "command", "ordered", "name"] (relS _ (relS _ (defScope s_Book___init__))) _ _ = true; decide +kernel))))) ?_) goA_nil) ⟨rfl, rfl⟩) ?_)
  · exact congrArg PyData.bool (mapT fun c hc => eff _ _ _ (hb.cE c hc).1 (hb.cE c hc).2)
  refine rn_cons (rs_expr (gx_callE c_require hr (by decide) (goA_cons (go_is (gx_all rfl bt.all (go_of_new (gx_lcM (xs := b.alarms) (enc := eA) (f := fun c => .bool (effB c.on c.off c.to b.holds b.mn)) (own := [("_", 13), ("on", 14), ("off", 15), ("to", 17)]) rfl sc_Book___init__.nd (goi_list (go_var 5)) (fun k x hx => by
    have hw := turnS (hb.aE x (List.mem_of_getElem? hx)).1 zH
    exact ⟨_, _, fun s H C cl fp => (gog_tup rfl (gogs_cons (gog_name 13 sc_Book___init__.nd) (gogs_cons (gog_name 14 sc_Book___init__.nd) (gogs_cons (gog_name 15 sc_Book___init__.nd) (gogs_cons (gog_name 17 sc_Book___init__.nd) gogs_nil))))), fun s H C cl fp => (gx_call c_is_effect hr (by decide) (goA_cons (go_var 14) (goA_cons (go_var 15) (goA_cons (go_var 17) (goA_cons (go_var 1) (goA_cons (go_var 12) goA_nil))))) ⟨x.on, x.off, x.to, b.holds, b.mn, rfl, rfl, hw⟩), by simp⟩) (by first | (show blkC ["self", "holds", "modes", "barred", "commands", "alarms", "rows", "quiet", "parts", "some", "many", "part", "known", "_", "on", "off", "lot", "to", "steps", "step", "named", "command", "ordered", "name"] (defScope s_Book___init__) _ _ = true; decide +kernel) | (show blkC ["self", "holds", "modes", "barred", "commands", "alarms", "rows", "quiet", "parts", "some", "many", "part", "known", "_", "on", "off", "lot", "to", "steps", "step", "named", "command", "ordered", "name"] (relS _ (defScope s_Book___init__)) _ _ = true; decide +kernel) | (show blkC ["self", "holds", "modes", "barred", "commands", "alarms", "rows", "quiet", "parts", "some", "many", "part", "known", "_", "on", "off", "lot", "to", "steps", "step", "named", "command", "ordered", "name"] (relS _ (relS _ (defScope s_Book___init__))) _ _ = true; decide +kernel))))) ?_) goA_nil) ⟨rfl, rfl⟩) ?_)
  · exact congrArg PyData.bool (mapT fun c hc => eff _ _ _ (hb.aE c hc).1 (hb.aE c hc).2)
  refine rn_cons (rs_expr (gx_callE c_require hr (by decide) (goA_cons (go_is (gx_all rfl bt.all (go_of_new (gx_lcM (xs := b.rows) (enc := eR) (f := fun r => .bool (decide ((1 : Int) ≤ (((r.st.map eSt).length : Nat) : Int)) && decide ((((r.st.map eSt).length : Nat) : Int) ≤ 4))) (own := [("_", 13), ("steps", 18)]) rfl sc_Book___init__.nd (goi_list (go_var 6)) (fun k x hx => by
    exact ⟨_, _, fun s H C cl fp => (gog_tup rfl (gogs_cons (gog_name 13 sc_Book___init__.nd) (gogs_cons (gog_name 18 sc_Book___init__.nd) gogs_nil))), fun s H C cl fp => (go_chainI op_le op_le go_int (gx_len bt.len (go_var 18)) go_int), by simp⟩) (by first | (show blkC ["self", "holds", "modes", "barred", "commands", "alarms", "rows", "quiet", "parts", "some", "many", "part", "known", "_", "on", "off", "lot", "to", "steps", "step", "named", "command", "ordered", "name"] (defScope s_Book___init__) _ _ = true; decide +kernel) | (show blkC ["self", "holds", "modes", "barred", "commands", "alarms", "rows", "quiet", "parts", "some", "many", "part", "known", "_", "on", "off", "lot", "to", "steps", "step", "named", "command", "ordered", "name"] (relS _ (defScope s_Book___init__)) _ _ = true; decide +kernel) | (show blkC ["self", "holds", "modes", "barred", "commands", "alarms", "rows", "quiet", "parts", "some", "many", "part", "known", "_", "on", "off", "lot", "to", "steps", "step", "named", "command", "ordered", "name"] (relS _ (relS _ (defScope s_Book___init__))) _ _ = true; decide +kernel))))) ?_) goA_nil) ⟨rfl, rfl⟩) ?_)
  · exact congrArg PyData.bool (mapT fun r hr => by
      obtain ⟨h1, h2, _⟩ := hb.rS r hr
      rw [List.length_map, Bool.and_eq_true]
      exact ⟨decide_eq_true (by omega), decide_eq_true (by omega)⟩)
  have sT : ∀ d ∈ b.rows.flatMap fun r => r.st.map fun s => PyData.bool (stepB s b.cn), d = .bool true := fun d hd => by
    obtain ⟨r, hr, hd⟩ := List.mem_flatMap.mp hd
    obtain ⟨s, hs, rfl⟩ := List.mem_map.mp hd
    obtain ⟨_, _, h3⟩ := hb.rS r hr
    obtain ⟨g1, g2, g3⟩ := h3 s hs
    unfold stepB
    rw [decide_eq_true g1, decide_eq_true g2, decide_eq_true g3]
    rfl
  refine rn_cons (rs_expr (gx_callE c_require hr (by decide) (goA_cons (go_is (gx_all rfl bt.all (go_of_new (gx_lc2 (xs := b.rows) (enc := eR) (ys := fun r => r.st) (enc1 := fun _ s => eSt s) (f := fun _ s => .bool (stepB s b.cn)) [("_", 13), ("steps", 18), ("step", 19)] [19] rfl sc_Book___init__.nd (goi_list (go_var 6)) (fun k x hx => by
    refine ⟨_, _, fun s H C cl fp => (gog_tup rfl (gogs_cons (gog_name 13 sc_Book___init__.nd) (gogs_cons (gog_name 18 sc_Book___init__.nd) gogs_nil))), fun s H C cl fp => goi_tup (go_var 18), fun j y hy => ?_, by simp⟩
    exact ⟨_, _, fun s H C cl fp => (gog_name 19 sc_Book___init__.nd), fun s H C cl fp => (gx_call c_is_step hr (by decide) (goA_cons (go_var 19) (goA_cons (gx_call c_names_of hr (by decide) (goA_cons (go_var 4) goA_nil) hC) goA_nil)) ⟨y, b.cn, rfl, rfl⟩), by simp⟩) (by first | (show blkC ["self", "holds", "modes", "barred", "commands", "alarms", "rows", "quiet", "parts", "some", "many", "part", "known", "_", "on", "off", "lot", "to", "steps", "step", "named", "command", "ordered", "name"] (defScope s_Book___init__) _ _ = true; decide +kernel) | (show blkC ["self", "holds", "modes", "barred", "commands", "alarms", "rows", "quiet", "parts", "some", "many", "part", "known", "_", "on", "off", "lot", "to", "steps", "step", "named", "command", "ordered", "name"] (relS _ (defScope s_Book___init__)) _ _ = true; decide +kernel) | (show blkC ["self", "holds", "modes", "barred", "commands", "alarms", "rows", "quiet", "parts", "some", "many", "part", "known", "_", "on", "off", "lot", "to", "steps", "step", "named", "command", "ordered", "name"] (relS _ (relS _ (defScope s_Book___init__))) _ _ = true; decide +kernel)) (fun n => by
    refine Nat.lt_of_le_of_lt (flat_le _ 4 _ fun x hx => (hb.rS x (List.mem_of_mem_take hx)).2.1) ?_
    have := List.length_take_le' n b.rows
    have m6 : b.rows.length ≤ 3 := by rw [List.length_map] at m4; omega
    omega))) (boolsT sT)) ?_) goA_nil) ⟨rfl, rfl⟩) ?_)
  · exact congrArg PyData.bool (allT sT)
  refine rn_cons (rs_expr (gx_callE c_require hr (by decide) (goA_cons (go_is (go_orV (l := true) (goc (gc_isN (go_var 7))) fun hk => ?_) (congrArg PyData.bool (Bool.or_true _))) goA_nil) ⟨rfl, rfl⟩) ?_)
  · obtain ⟨q, hq⟩ : ∃ q, b.quiet = some q := by
      cases h : b.quiet with
      | none =>
        rw [h] at hk
        exact absurd hk (by decide)
      | some q => exact ⟨q, rfl⟩
    obtain ⟨q1, q2⟩ := hb.q q hq
    refine go_one (go_is (go_chainI op_le op_le go_int (go_is (go_var 7) (d' := .int q) (by rw [hq]; rfl)) go_int) ?_)
    rw [decide_eq_true q1, decide_eq_true q2]
    rfl
  refine rn_to (Γ' := [_, _, _, _, _, _, _, _, _, .any, .any, .any, _, .any, .any, .any, .any, .any, .any, .any, .any, .any, .any, .any]) rfl ?_
  have ndC : ((b.cmds.map fun c => (c.n, eC c)).map (·.1)).Nodup := by
    rw [List.map_map]
    exact hb.c.nd
  have eN : putsD [] (b.cmds.map fun c => (c.n, eC c)) = b.cmds.map fun c => (c.n, eC c) := putsD_new (by rw [List.nil_append]; exact ndC)
  refine rn_cons (rs_fldN 0 (Ss' := [("_holds", .own ((sortS b.holds).map .str))]) O_Book (gx_sort (.of hr) bt.sorted (go_var 1)) rfl .pin ?_)
  refine rn_cons (rs_fldN 0 (Ss' := [("_holds", .own ((sortS b.holds).map .str)), ("_barred", .own (srt (b.barred.map eL)))]) O_Book (goN_sortD (ds := b.barred.map eL) (.of hr) bt.sorted (go_var 3) (by exact rfl) (sortOk_L (xs := b.barred) (by omega) fun l hl e => by have := (hb.b3 l hl).1; rw [e] at this; exact absurd this (by decide))) rfl .pin ?_)
  refine rn_cons (rs_set 20 (goP_dc (xs := b.cmds) (enc := eC) (kf := Cm.n) (f := eC) [("command", 21)] rfl sc_Book___init__.nd (goi_list (go_var 4)) (fun k x hx => ⟨_, _, fun s H C cl fp => (gog_name 21 sc_Book___init__.nd), fun s H C cl fp => (gx_ix (go_var 21) go_int (by exact atI_head)), fun s H C cl fp => go_var 21, by simp⟩) (by first | (show blkC ["self", "holds", "modes", "barred", "commands", "alarms", "rows", "quiet", "parts", "some", "many", "part", "known", "_", "on", "off", "lot", "to", "steps", "step", "named", "command", "ordered", "name"] (defScope s_Book___init__) _ _ = true; decide +kernel) | (show blkC ["self", "holds", "modes", "barred", "commands", "alarms", "rows", "quiet", "parts", "some", "many", "part", "known", "_", "on", "off", "lot", "to", "steps", "step", "named", "command", "ordered", "name"] (relS _ (defScope s_Book___init__)) _ _ = true; decide +kernel) | (show blkC ["self", "holds", "modes", "barred", "commands", "alarms", "rows", "quiet", "parts", "some", "many", "part", "known", "_", "on", "off", "lot", "to", "steps", "step", "named", "command", "ordered", "name"] (relS _ (relS _ (defScope s_Book___init__))) _ _ = true; decide +kernel))) ?_ sc_Book___init__.nd)
  refine rn_is 20 rfl (congrArg (fun z => Sl.pr (dctP z)) eN) ?_
  have eS : ((sortS ((b.cmds.map fun c => (c.n, eC c)).map (·.1))).map PyData.str) = b.cmdsS.map fun c => .str c.n := by
    have e1 : (b.cmds.map fun c => (c.n, eC c)).map (·.1) = b.cn := by
      rw [List.map_map]
      rfl
    rw [e1, ← cmds_n, List.map_map]
    rfl
  have zS : b.cmdsS.length < 1000000 := by rw [(cmds_perm b).length_eq]; exact zC
  refine rn_cons (rs_lcMO 22 (xs := b.cmdsS) (enc := fun c => .str c.n) (f := eC) (own := [("name", 23)]) rfl sc_Book___init__.nd (goi_is (goi_list (go_of_new (goN_sortDct rfl bt.sorted (go_var 20) (by rw [List.length_map] at m2 ⊢; omega)))) eS) (fun k x hx => ⟨_, _, fun s H C cl fp => (gog_name 23 sc_Book___init__.nd), fun s H C cl fp => (go_dctIx (.of hr) (go_var 20) (go_var 23) (getD'_mem ndC (List.mem_map.mpr ⟨x, (cmds_perm b).mem_iff.mp (List.mem_of_getElem? hx), rfl⟩))), by simp⟩) (by first | (show blkC ["self", "holds", "modes", "barred", "commands", "alarms", "rows", "quiet", "parts", "some", "many", "part", "known", "_", "on", "off", "lot", "to", "steps", "step", "named", "command", "ordered", "name"] (defScope s_Book___init__) _ _ = true; decide +kernel) | (show blkC ["self", "holds", "modes", "barred", "commands", "alarms", "rows", "quiet", "parts", "some", "many", "part", "known", "_", "on", "off", "lot", "to", "steps", "step", "named", "command", "ordered", "name"] (relS _ (defScope s_Book___init__)) _ _ = true; decide +kernel) | (show blkC ["self", "holds", "modes", "barred", "commands", "alarms", "rows", "quiet", "parts", "some", "many", "part", "known", "_", "on", "off", "lot", "to", "steps", "step", "named", "command", "ordered", "name"] (relS _ (relS _ (defScope s_Book___init__))) _ _ = true; decide +kernel)) (sw_true rfl rfl rfl (by decide +kernel)) ?_)
  refine rn_cons (rs_fldV 0 22 (Ss' := [("_holds", .own ((sortS b.holds).map .str)), ("_barred", .own (srt (b.barred.map eL))), ("_parts", .ob (dclO b.partsL))]) O_Book (goV_dct4 22 (go_gcon x_MODE) (go_gcon x_COMMAND) (go_gcon x_ALARM) (go_gcon x_ROW) (gx_list bt.list (go_var 2)) (gx_list bt.list (go_var 5)) (gx_list bt.list (go_var 6)) rfl (fun _ _ _ _ => rfl)) rfl .pin (by decide) (by rw [hJ]; decide) ?_)
  refine rn_cons (rs_fld 0 (Ss' := [("_holds", .own ((sortS b.holds).map .str)), ("_barred", .own (srt (b.barred.map eL))), ("_parts", .ob (dclO b.partsL)), ("_quiet", .dat (eQ b.quiet))]) O_Book (go_var 7) rfl .pin ?_)
  exact rn_nil ⟨rfl, fun _ _ => Dp.non⟩
end

/-! ### books: what they tell -/
abbrev s_Book_holds : Stmt := inClass (topS 19) 1
theorem sc_Book_holds : FnScope ["self"] ["self"] (defScope s_Book_holds) := ⟨rfl, rfl, rfl, by decide +kernel, rfl, by decide +kernel, by decide +kernel⟩
abbrev s_Book_modes : Stmt := inClass (topS 19) 2
theorem sc_Book_modes : FnScope ["self"] ["self"] (defScope s_Book_modes) := ⟨rfl, rfl, rfl, by decide +kernel, rfl, by decide +kernel, by decide +kernel⟩
abbrev s_Book_commands : Stmt := inClass (topS 19) 4
theorem sc_Book_commands : FnScope ["self"] ["self"] (defScope s_Book_commands) := ⟨rfl, rfl, rfl, by decide +kernel, rfl, by decide +kernel, by decide +kernel⟩
abbrev s_Book_alarms : Stmt := inClass (topS 19) 5
theorem sc_Book_alarms : FnScope ["self"] ["self"] (defScope s_Book_alarms) := ⟨rfl, rfl, rfl, by decide +kernel, rfl, by decide +kernel, by decide +kernel⟩
abbrev s_Book_rows : Stmt := inClass (topS 19) 6
theorem sc_Book_rows : FnScope ["self"] ["self"] (defScope s_Book_rows) := ⟨rfl, rfl, rfl, by decide +kernel, rfl, by decide +kernel, by decide +kernel⟩
abbrev s_Book_quiet : Stmt := inClass (topS 19) 7
theorem sc_Book_quiet : FnScope ["self"] ["self"] (defScope s_Book_quiet) := ⟨rfl, rfl, rfl, by decide +kernel, rfl, by decide +kernel, by decide +kernel⟩
def S_Book_holds : List Mn → Ow → Prop := fun Ps R => ∃ b : Bk, Ps = [bookP b] ∧ R = lstO ((sortS b.holds).map .str)
def S_Book_modes : List Mn → Ow → Prop := fun Ps R => ∃ b : Bk, Ps = [bookP b] ∧ R = lstO (b.modes.map eM)
def S_Book_commands : List Mn → Ow → Prop := fun Ps R => ∃ b : Bk, Ps = [bookP b] ∧ R = lstO (b.cmdsS.map eC)
def S_Book_alarms : List Mn → Ow → Prop := fun Ps R => ∃ b : Bk, Ps = [bookP b] ∧ R = lstO (b.alarms.map eA)
def S_Book_rows : List Mn → Ow → Prop := fun Ps R => ∃ b : Bk, Ps = [bookP b] ∧ R = lstO (b.rows.map eR)
def S_Book_quiet : List Mn → Mn → Prop := fun Ps R => ∃ b : Bk, Ps = [bookP b] ∧ R = datP (eQ b.quiet)
section
variable {P : Program} {w : World} {K : PySem.W.Frag} {mg : Str → Option Value} {base : Heap}
theorem ok_Book_holds (df : MtdP K "Book" "holds" "Book.holds" s_Book_holds ["self"])   (x_LETTERS : GlobD K mg "LETTERS" (.str letS)) (T_InvalidBook : Ec0 K mg "InvalidBook") (x_MODE : GlobD K mg "MODE" (.str "mode")) (x_COMMAND : GlobD K mg "COMMAND" (.str "command")) (x_ALARM : GlobD K mg "ALARM" (.str "alarm")) (x_ROW : GlobD K mg "ROW" (.str "row")) (O_Book : ClsOk K "Book" ["_holds", "_barred", "_parts", "_quiet"]) (bt : Bt mg) : CalPU P w K mg base "Book" "holds" ["self"] 1 S_Book_holds := by
  refine mPU_ok df sc_Book_holds ?_ ?_
  · rintro _ _ ⟨b, rfl, rfl⟩
    rfl
  rintro _ _ ⟨b, rfl, rfl⟩ f cdv A outer s H E hr J hJ
  refine rn_cons (rs_retU (goU_of_N (gx_list bt.list (go_fld O_Book (go_var 0) rfl (by decide)))))
theorem ok_Book_modes (df : MtdP K "Book" "modes" "Book.modes" s_Book_modes ["self"])   (x_LETTERS : GlobD K mg "LETTERS" (.str letS)) (T_InvalidBook : Ec0 K mg "InvalidBook") (x_MODE : GlobD K mg "MODE" (.str "mode")) (x_COMMAND : GlobD K mg "COMMAND" (.str "command")) (x_ALARM : GlobD K mg "ALARM" (.str "alarm")) (x_ROW : GlobD K mg "ROW" (.str "row")) (O_Book : ClsOk K "Book" ["_holds", "_barred", "_parts", "_quiet"]) (bt : Bt mg) : CalPU P w K mg base "Book" "modes" ["self"] 1 S_Book_modes := by
  refine mPU_ok df sc_Book_modes ?_ ?_
  · rintro _ _ ⟨b, rfl, rfl⟩
    rfl
  rintro _ _ ⟨b, rfl, rfl⟩ f cdv A outer s H E hr J hJ
  refine rn_cons (rs_retU (goU_of_N (gx_list bt.list (go_dctIx (.of hr) (go_fld O_Book (go_var 0) rfl (by decide)) (go_gcon x_MODE) (by exact rfl)))))
theorem ok_Book_commands (df : MtdP K "Book" "commands" "Book.commands" s_Book_commands ["self"])   (x_LETTERS : GlobD K mg "LETTERS" (.str letS)) (T_InvalidBook : Ec0 K mg "InvalidBook") (x_MODE : GlobD K mg "MODE" (.str "mode")) (x_COMMAND : GlobD K mg "COMMAND" (.str "command")) (x_ALARM : GlobD K mg "ALARM" (.str "alarm")) (x_ROW : GlobD K mg "ROW" (.str "row")) (O_Book : ClsOk K "Book" ["_holds", "_barred", "_parts", "_quiet"]) (bt : Bt mg) : CalPU P w K mg base "Book" "commands" ["self"] 1 S_Book_commands := by
  refine mPU_ok df sc_Book_commands ?_ ?_
  · rintro _ _ ⟨b, rfl, rfl⟩
    rfl
  rintro _ _ ⟨b, rfl, rfl⟩ f cdv A outer s H E hr J hJ
  refine rn_cons (rs_retU (goU_of_N (gx_list bt.list (go_dctIx (.of hr) (go_fld O_Book (go_var 0) rfl (by decide)) (go_gcon x_COMMAND) (by exact rfl)))))
theorem ok_Book_alarms (df : MtdP K "Book" "alarms" "Book.alarms" s_Book_alarms ["self"])   (x_LETTERS : GlobD K mg "LETTERS" (.str letS)) (T_InvalidBook : Ec0 K mg "InvalidBook") (x_MODE : GlobD K mg "MODE" (.str "mode")) (x_COMMAND : GlobD K mg "COMMAND" (.str "command")) (x_ALARM : GlobD K mg "ALARM" (.str "alarm")) (x_ROW : GlobD K mg "ROW" (.str "row")) (O_Book : ClsOk K "Book" ["_holds", "_barred", "_parts", "_quiet"]) (bt : Bt mg) : CalPU P w K mg base "Book" "alarms" ["self"] 1 S_Book_alarms := by
  refine mPU_ok df sc_Book_alarms ?_ ?_
  · rintro _ _ ⟨b, rfl, rfl⟩
    rfl
  rintro _ _ ⟨b, rfl, rfl⟩ f cdv A outer s H E hr J hJ
  refine rn_cons (rs_retU (goU_of_N (gx_list bt.list (go_dctIx (.of hr) (go_fld O_Book (go_var 0) rfl (by decide)) (go_gcon x_ALARM) (by exact rfl)))))
theorem ok_Book_rows (df : MtdP K "Book" "rows" "Book.rows" s_Book_rows ["self"])   (x_LETTERS : GlobD K mg "LETTERS" (.str letS)) (T_InvalidBook : Ec0 K mg "InvalidBook") (x_MODE : GlobD K mg "MODE" (.str "mode")) (x_COMMAND : GlobD K mg "COMMAND" (.str "command")) (x_ALARM : GlobD K mg "ALARM" (.str "alarm")) (x_ROW : GlobD K mg "ROW" (.str "row")) (O_Book : ClsOk K "Book" ["_holds", "_barred", "_parts", "_quiet"]) (bt : Bt mg) : CalPU P w K mg base "Book" "rows" ["self"] 1 S_Book_rows := by
  refine mPU_ok df sc_Book_rows ?_ ?_
  · rintro _ _ ⟨b, rfl, rfl⟩
    rfl
  rintro _ _ ⟨b, rfl, rfl⟩ f cdv A outer s H E hr J hJ
  refine rn_cons (rs_retU (goU_of_N (gx_list bt.list (go_dctIx (.of hr) (go_fld O_Book (go_var 0) rfl (by decide)) (go_gcon x_ROW) (by exact rfl)))))
theorem ok_Book_quiet (df : MtdP K "Book" "quiet" "Book.quiet" s_Book_quiet ["self"])   (x_LETTERS : GlobD K mg "LETTERS" (.str letS)) (T_InvalidBook : Ec0 K mg "InvalidBook") (x_MODE : GlobD K mg "MODE" (.str "mode")) (x_COMMAND : GlobD K mg "COMMAND" (.str "command")) (x_ALARM : GlobD K mg "ALARM" (.str "alarm")) (x_ROW : GlobD K mg "ROW" (.str "row")) (O_Book : ClsOk K "Book" ["_holds", "_barred", "_parts", "_quiet"]) (bt : Bt mg) : CalP P w K mg base "Book" "quiet" ["self"] 1 S_Book_quiet := by
  refine mP_ok df sc_Book_quiet ?_ ?_
  · rintro _ _ ⟨b, rfl, rfl⟩
    rfl
  rintro _ _ ⟨b, rfl, rfl⟩ f cdv A outer s H E hr J hJ
  refine rn_cons (rs_ret (go_fld O_Book (go_var 0) rfl (by decide)))
end
/-! ### books: barred lots, the safe mode -/
abbrev s_Book_barred : Stmt := inClass (topS 19) 3
theorem sc_Book_barred : FnScope ["self"] ["self"] (defScope s_Book_barred) := ⟨rfl, rfl, rfl, by decide +kernel, rfl, by decide +kernel, by decide +kernel⟩
abbrev s_Book_safe : Stmt := inClass (topS 19) 8
theorem sc_Book_safe : FnScope ["self"] ["self"] (defScope s_Book_safe) := ⟨rfl, rfl, rfl, by decide +kernel, rfl, by decide +kernel, by decide +kernel⟩
def S_Book_barred : List Mn → Ow → Prop := fun Ps R => ∃ b : Bk, Ps = [bookP b] ∧ R = lstO (srt (b.barred.map eL))
def S_Book_safe : List Mn → Mn → Prop := fun Ps R => ∃ (b : Bk) (m : Md) (r : List Md), Ps = [bookP b] ∧ R = datP (.str m.n) ∧ b.modes = m :: r
section
variable {P : Program} {w : World} {K : PySem.W.Frag} {mg : Str → Option Value} {base : Heap}
theorem ok_Book_barred (df : MtdP K "Book" "barred" "Book.barred" s_Book_barred ["self"])   (x_LETTERS : GlobD K mg "LETTERS" (.str letS)) (T_InvalidBook : Ec0 K mg "InvalidBook") (x_MODE : GlobD K mg "MODE" (.str "mode")) (x_COMMAND : GlobD K mg "COMMAND" (.str "command")) (x_ALARM : GlobD K mg "ALARM" (.str "alarm")) (x_ROW : GlobD K mg "ROW" (.str "row")) (O_Book : ClsOk K "Book" ["_holds", "_barred", "_parts", "_quiet"]) (bt : Bt mg) : CalPU P w K mg base "Book" "barred" ["self"] 1 S_Book_barred := by
  refine mPU_ok df sc_Book_barred ?_ ?_
  · rintro _ _ ⟨b, rfl, rfl⟩
    rfl
  rintro _ _ ⟨b, rfl, rfl⟩ f cdv A outer s H E hr J hJ
  refine rn_cons (rs_retU (goU_of_N (gx_list bt.list (go_fld O_Book (go_var 0) rfl (by decide)))))
theorem ok_Book_safe (df : MtdP K "Book" "safe" "Book.safe" s_Book_safe ["self"])   (x_LETTERS : GlobD K mg "LETTERS" (.str letS)) (T_InvalidBook : Ec0 K mg "InvalidBook") (x_MODE : GlobD K mg "MODE" (.str "mode")) (x_COMMAND : GlobD K mg "COMMAND" (.str "command")) (x_ALARM : GlobD K mg "ALARM" (.str "alarm")) (x_ROW : GlobD K mg "ROW" (.str "row")) (O_Book : ClsOk K "Book" ["_holds", "_barred", "_parts", "_quiet"]) (bt : Bt mg) : CalP P w K mg base "Book" "safe" ["self"] 1 S_Book_safe := by
  refine mP_ok df sc_Book_safe ?_ ?_
  · rintro _ _ ⟨b, m, r, rfl, rfl, _⟩
    rfl
  rintro _ _ ⟨b, m, r, rfl, rfl, hm⟩ f cdv A outer s H E hr J hJ
  have e : getD' b.parts "mode" = some (.list (eM m :: r.map eM)) := by
    show some (PyData.list (b.modes.map eM)) = _
    rw [hm]
    rfl
  refine rn_cons (rs_ret (gx_ix (d := .str m.n) (gx_ix (d := eM m) (go_dctIx (.of hr) (go_fld O_Book (go_var 0) rfl (by decide)) (go_gcon x_MODE) e) go_int (by exact atI_head)) go_int (by exact rfl)))
end

/-! ### ticks: Gears, Turn, Step -/
abbrev s_Step___init__ : Stmt := inClass (topS 21) 0
theorem sc_Step___init__ : FnScope ["self", "standing", "done", "refused", "moments"] ["self", "standing", "done", "refused", "moments"] (defScope s_Step___init__) := ⟨rfl, rfl, rfl, by decide +kernel, rfl, by decide +kernel, by decide +kernel⟩
abbrev s_Gears___init__ : Stmt := inClass (topS 22) 0
theorem sc_Gears___init__ : FnScope ["self", "book", "name", "on", "off", "modes", "to", "steps"] ["self", "book"] (defScope s_Gears___init__) := ⟨rfl, rfl, rfl, by decide +kernel, rfl, by decide +kernel, by decide +kernel⟩
abbrev s_turned : Stmt := topS 23
theorem sc_turned : FnScope ["holds", "on", "off", "hold"] ["holds", "on", "off"] (defScope s_turned) := ⟨rfl, rfl, rfl, by decide +kernel, rfl, by decide +kernel, by decide +kernel⟩
abbrev s_Turn___init__ : Stmt := inClass (topS 24) 0
theorem sc_Turn___init__ : FnScope ["self", "gears", "standing"] ["self", "gears", "standing"] (defScope s_Turn___init__) := ⟨rfl, rfl, rfl, by decide +kernel, rfl, by decide +kernel, by decide +kernel⟩
abbrev s_Turn_effect : Stmt := inClass (topS 24) 1
theorem sc_Turn_effect : FnScope ["self", "on", "off", "to"] ["self", "on", "off", "to"] (defScope s_Turn_effect) := ⟨rfl, rfl, rfl, by decide +kernel, rfl, by decide +kernel, by decide +kernel⟩
abbrev s_Turn_halt : Stmt := inClass (topS 24) 2
theorem sc_Turn_halt : FnScope ["self"] ["self"] (defScope s_Turn_halt) := ⟨rfl, rfl, rfl, by decide +kernel, rfl, by decide +kernel, by decide +kernel⟩
abbrev s_Turn_begin : Stmt := inClass (topS 24) 3
theorem sc_Turn_begin : FnScope ["self", "row", "place", "steps"] ["self", "row", "place"] (defScope s_Turn_begin) := ⟨rfl, rfl, rfl, by decide +kernel, rfl, by decide +kernel, by decide +kernel⟩
abbrev s_Turn_command : Stmt := inClass (topS 24) 4
theorem sc_Turn_command : FnScope ["self", "name", "modes", "on", "off", "to"] ["self", "name"] (defScope s_Turn_command) := ⟨rfl, rfl, rfl, by decide +kernel, rfl, by decide +kernel, by decide +kernel⟩
abbrev s_Turn_answer : Stmt := inClass (topS 24) 5
theorem sc_Turn_answer : FnScope ["self", "alarms", "name", "on", "off", "to"] ["self", "alarms"] (defScope s_Turn_answer) := ⟨rfl, rfl, rfl, by decide +kernel, rfl, by decide +kernel, by decide +kernel⟩
abbrev s_Turn_obey : Stmt := inClass (topS 24) 6
theorem sc_Turn_obey : FnScope ["self", "order"] ["self", "order"] (defScope s_Turn_obey) := ⟨rfl, rfl, rfl, by decide +kernel, rfl, by decide +kernel, by decide +kernel⟩
abbrev s_Turn_wait : Stmt := inClass (topS 24) 7
theorem sc_Turn_wait : FnScope ["self"] ["self"] (defScope s_Turn_wait) := ⟨rfl, rfl, rfl, by decide +kernel, rfl, by decide +kernel, by decide +kernel⟩
abbrev s_Turn_go_on : Stmt := inClass (topS 24) 8
theorem sc_Turn_go_on : FnScope ["self", "row", "place"] ["self"] (defScope s_Turn_go_on) := ⟨rfl, rfl, rfl, by decide +kernel, rfl, by decide +kernel, by decide +kernel⟩
abbrev s_Turn_step : Stmt := inClass (topS 24) 9
theorem sc_Turn_step : FnScope ["self", "standing"] ["self"] (defScope s_Turn_step) := ⟨rfl, rfl, rfl, by decide +kernel, rfl, by decide +kernel, by decide +kernel⟩
abbrev s_tick_by : Stmt := topS 25
theorem sc_tick_by : FnScope ["gears", "standing", "alarms", "order", "turn", "is_begun"] ["gears", "standing", "alarms", "order"] (defScope s_tick_by) := ⟨rfl, rfl, rfl, by decide +kernel, rfl, by decide +kernel, by decide +kernel⟩
def trnD (b : Bk) : List (Str × D) := b.modes.map fun m => (m.n, .tuple [eL m.on, eL m.off])
def effD (b : Bk) : List (Str × D) := b.cmdsS.map fun c => (c.n, .tuple [eL c.ms, eL c.on, eL c.off, eO c.to])
def rspD (b : Bk) : List D := b.alarms.map fun a => .tuple [.str a.n, .tuple [eL a.on, eL a.off, eO a.to]]
def serD (b : Bk) : List (Str × D) := b.rows.map fun r => (r.n, .tuple (r.st.map eSt))
def gearsO (b : Bk) : Ow := insO "Gears" [("home", .dat (.str (homeS b))), ("patience", .dat (eQ b.quiet)), ("turns", .pr (dctP (trnD b))), ("effects", .pr (dctP (effD b))), ("responses", .dat (.list (rspD b))), ("series", .pr (dctP (serD b)))]
def gearsP (b : Bk) : Mn := insP "Gears" [("home", datP (.str (homeS b))), ("patience", datP (eQ b.quiet)), ("turns", dctP (trnD b)), ("effects", dctP (effD b)), ("responses", datP (.list (rspD b))), ("series", dctP (serD b))]
theorem fz_gears (b : Bk) : FzM (gearsO b) (gearsP b) := fz_ins (.pr (.pr (.pr (.pr (.pr (.pr .nil))))))
abbrev turnSs (b : Bk) (t : Tk) : List (Str × Sl) := [("gears", .pr (gearsP b)), ("mode", .dat (.str t.m)), ("lot", .dat (eL t.on)), ("row", .dat (eO t.r)), ("place", .dat (.int t.p)), ("left", .dat (.int t.l)), ("silence", .dat (.int t.s)), ("done", .own (t.dn.map .str)), ("refused", .own (t.rf.map .str)), ("moments", .own (t.mo.map eL))]
def turnO (b : Bk) (t : Tk) : Ow := insO "Turn" (turnSs b t)
def turnP (b : Bk) (t : Tk) : Mn := insP "Turn" [("gears", gearsP b), ("mode", datP (.str t.m)), ("lot", datP (eL t.on)), ("row", datP (eO t.r)), ("place", datP (.int t.p)), ("left", datP (.int t.l)), ("silence", datP (.int t.s)), ("done", datP (.list (t.dn.map .str))), ("refused", datP (.list (t.rf.map .str))), ("moments", datP (.list (t.mo.map eL)))]
theorem fz_turn (b : Bk) (t : Tk) : FzM (turnO b t) (turnP b t) := fz_ins (.pr (.pr (.pr (.pr (.pr (.pr (.pr (.ob (fzM_of (fz_lst _)) (.ob (fzM_of (fz_lst _)) (.ob (fzM_of (fz_lst _)) .nil))))))))))
def stepO (t : Tk) : Ow := insO "Step" [("standing", .dat (eG t.g)), ("done", .own (t.dn.map .str)), ("refused", .own (t.rf.map .str)), ("moments", .own (t.mo.map eL))]
def stepP (t : Tk) : Mn := insP "Step" [("standing", datP (eG t.g)), ("done", datP (.list (t.dn.map .str))), ("refused", datP (.list (t.rf.map .str))), ("moments", datP (.list (t.mo.map eL)))]
theorem fz_step (t : Tk) : FzM (stepO t) (stepP t) := fz_ins (.pr (.ob (fzM_of (fz_lst _)) (.ob (fzM_of (fz_lst _)) (.ob (fzM_of (fz_lst _)) .nil))))
theorem get_trn {b : Bk} (h : BkOk b) {m : Md} (hm : m ∈ b.modes) : getD' (trnD b) m.n = some (.tuple [eL m.on, eL m.off]) := getD'_mem (by unfold trnD; rw [List.map_map]; exact h.m.nd) (List.mem_map.mpr ⟨m, hm, rfl⟩)
theorem get_eff {b : Bk} (h : BkOk b) {c : Cm} (hc : c ∈ b.cmds) : getD' (effD b) c.n = some (.tuple [eL c.ms, eL c.on, eL c.off, eO c.to]) := getD'_mem (by unfold effD; rw [List.map_map]; exact ((cmds_perm b).map Cm.n).nodup_iff.mpr h.c.nd) (List.mem_map.mpr ⟨c, (cmds_perm b).mem_iff.mpr hc, rfl⟩)
theorem get_ser {b : Bk} (h : BkOk b) {r : Rw} (hr : r ∈ b.rows) : getD' (serD b) r.n = some (.tuple (r.st.map eSt)) := getD'_mem (by unfold serD; rw [List.map_map]; exact h.r.nd) (List.mem_map.mpr ⟨r, hr, rfl⟩)
/-- fit to go on -/
def Bd (b : Bk) (t : Tk) : Prop := BkOk b ∧ ∃ n ≤ 100, TkOk b n t
structure Bw (b : Bk) (t : Tk) : Prop where
  ok : BkOk b
  on : lotOfB t.on b.holds = true
  dn : t.dn.length ≤ 100
  rf : t.rf.length ≤ 100
  mo : t.mo.length ≤ 100
theorem Bd.w {b : Bk} {t : Tk} (h : Bd b t) : Bw b t := by
  obtain ⟨h1, n, h2, h3⟩ := h
  exact ⟨h1, h3.on, Nat.le_trans h3.dn h2, Nat.le_trans h3.rf h2, Nat.le_trans h3.mo h2⟩
def S_Step___init__ : Ow → List Mn → Mn → Ow → Prop := fun W Ps R W' => ∃ t : Tk, W = insO "Step" [] ∧ Ps = [datP (eG t.g), datP (.list (t.dn.map .str)), datP (.list (t.rf.map .str)), datP (.list (t.mo.map eL))] ∧ R = datP .none ∧ W' = stepO t
def S_Gears___init__ : Ow → List Mn → Mn → Ow → Prop := fun W Ps R W' => ∃ b : Bk, W = insO "Gears" [] ∧ Ps = [bookP b] ∧ R = datP .none ∧ W' = gearsO b ∧ BkOk b
def S_turned : List Mn → Mn → Prop := fun Ps R => ∃ (l on off : List Str), Ps = [datP (eL l), datP (eL on), datP (eL off)] ∧ R = datP (eL (turnF l (on, off))) ∧ (l.Nodup ∧ on.Nodup ∧ l.length ≤ 20 ∧ on.length ≤ 20)
def S_Turn___init__ : Ow → List Mn → Mn → Ow → Prop := fun W Ps R W' => ∃ (b : Bk) (g : Sg), W = insO "Turn" [] ∧ Ps = [gearsP b, datP (eG g)] ∧ R = datP .none ∧ W' = turnO b (tk0 g)
def S_Turn_effect : Ow → List Mn → Mn → Ow → Prop := fun W Ps R W' => ∃ (b : Bk) (t : Tk) (on off : List Str) (to : Option Str), W = turnO b t ∧ Ps = [datP (eL on), datP (eL off), datP (eO to)] ∧ R = datP .none ∧ W' = turnO b (t.eff b on off to) ∧ (Bw b t ∧ turnB on off b.holds = true ∧ toOk to b.mn)
def S_Turn_halt : Ow → List Mn → Mn → Ow → Prop := fun W Ps R W' => ∃ (b : Bk) (t : Tk), W = turnO b t ∧ Ps = [] ∧ R = datP .none ∧ W' = turnO b t.halt
def S_Turn_begin : Ow → List Mn → Mn → Ow → Prop := fun W Ps R W' => ∃ (b : Bk) (t : Tk) (w : Rw) (p : Int), W = turnO b t ∧ Ps = [datP (.str w.n), datP (.int p)] ∧ R = datP .none ∧ W' = turnO b (t.beg w p) ∧ (BkOk b ∧ w ∈ b.rows ∧ 0 ≤ p ∧ p ≤ (w.st.length : Int))
def S_Turn_command : Ow → List Mn → Mn → Ow → Prop := fun W Ps R W' => ∃ (b : Bk) (t : Tk) (c : Cm), W = turnO b t ∧ Ps = [datP (.str c.n)] ∧ R = datP (.bool (decide (t.m ∈ c.ms))) ∧ W' = turnO b (t.cmd b c) ∧ (c ∈ b.cmds ∧ Bw b t)
def S_Turn_answer : Ow → List Mn → Mn → Ow → Prop := fun W Ps R W' => ∃ (b : Bk) (t : Tk) (as : List Str), W = turnO b t ∧ Ps = [datP (eL as)] ∧ R = datP .none ∧ W' = turnO b (t.ans b as) ∧ (BkOk b ∧ TkOk b 0 t)
def S_Turn_obey : Ow → List Mn → Mn → Ow → Prop := fun W Ps R W' => ∃ (b : Bk) (t : Tk) (o : Oo), W = turnO b t ∧ Ps = [datP (eOo o)] ∧ R = datP (.bool (match o with | .run _ => true | _ => false)) ∧ W' = turnO b (t.obey b o) ∧ (Bd b t ∧ OoOk b o ∧ o ≠ .non)
def S_Turn_wait : Ow → List Mn → Mn → Ow → Prop := fun W Ps R W' => ∃ (b : Bk) (t : Tk), W = turnO b t ∧ Ps = [] ∧ R = datP .none ∧ W' = turnO b (t.wait b) ∧ Bd b t
def S_Turn_go_on : Ow → List Mn → Mn → Ow → Prop := fun W Ps R W' => ∃ (b : Bk) (t : Tk), W = turnO b t ∧ Ps = [] ∧ R = datP .none ∧ W' = turnO b (t.go b) ∧ Bd b t
def S_Turn_step : List Mn → Ow → Prop := fun Ps R => ∃ (b : Bk) (t : Tk), Ps = [turnP b t] ∧ R = stepO t
def S_tick_by : List Mn → Ow → Prop := fun Ps R => ∃ (b : Bk) (g : Sg) (as : List Str) (o : Oo), Ps = [gearsP b, datP (eG g), datP (eL as), datP (eOo o)] ∧ R = stepO (tickT b g as o) ∧ (BkOk b ∧ isSt b g = true ∧ OoOk b o)
abbrev gearPs (b : Bk) : List (Str × Mn) := [("home", datP (.str (homeS b))), ("patience", datP (eQ b.quiet)), ("turns", dctP (trnD b)), ("effects", dctP (effD b)), ("responses", datP (.list (rspD b))), ("series", dctP (serD b))]
theorem isO_turn {m : Str} {b : Bk} {t : Tk} (hm : (turnSs b t).lookup m = none := by rfl) : IsObj "Turn" m (turnO b t) := isObj_ins hm
section
variable {X : Cx} {Γ : Ga} {pos : Pos} {b : Bk} {t : Tk} {v0 : V}
theorem gol_mo (i : Nat) {x : Str} {p' : Pos} (O : ClsOk X.K "Turn" ["gears", "mode", "lot", "row", "place", "left", "silence", "done", "refused", "moments"]) (hΓ : Γ[i]? = some (.ob (pinO (turnO b t) v0)))
    (hN : X.N[i]? = some x := by rfl) (hv : Vis X.env.scope x := by first | exact Or.inl rfl | exact Or.inr (Or.inl rfl) | exact Or.inr (Or.inr rfl)) (hd : (x == ("__debug__" : Str)) = false := by decide) (hcd : (x == ("__classdict__" : Str)) = false := by decide)
    (hb : attributeBase (.Name x p') "moments" X.env (eval (.Name x p') X.env) = eval (.Name x p') X.env := by rfl) : GoL X Γ (.Attribute (.Name x p') "moments" pos) i (t.mo.map eL) fun es => pinO (insO "Turn" [("gears", .pr (gearsP b)), ("mode", .dat (.str t.m)), ("lot", .dat (eL t.on)), ("row", .dat (eO t.r)), ("place", .dat (.int t.p)), ("left", .dat (.int t.l)), ("silence", .dat (.int t.s)), ("done", .own (t.dn.map .str)), ("refused", .own (t.rf.map .str)), ("moments", .own es)]) v0 :=
  gol_fld (Ss := turnSs b t) (Sf := fun es => [("gears", .pr (gearsP b)), ("mode", .dat (.str t.m)), ("lot", .dat (eL t.on)), ("row", .dat (eO t.r)), ("place", .dat (.int t.p)), ("left", .dat (.int t.l)), ("silence", .dat (.int t.s)), ("done", .own (t.dn.map .str)), ("refused", .own (t.rf.map .str)), ("moments", .own es)]) i O hΓ (fun es => .pin) (hm := by decide) (hN := hN) (hv := hv) (hd := hd) (hcd := hcd) (hb := hb)
theorem gol_dn (i : Nat) {x : Str} {p' : Pos} (O : ClsOk X.K "Turn" ["gears", "mode", "lot", "row", "place", "left", "silence", "done", "refused", "moments"]) (hΓ : Γ[i]? = some (.ob (pinO (turnO b t) v0)))
    (hN : X.N[i]? = some x := by rfl) (hv : Vis X.env.scope x := by first | exact Or.inl rfl | exact Or.inr (Or.inl rfl) | exact Or.inr (Or.inr rfl)) (hd : (x == ("__debug__" : Str)) = false := by decide) (hcd : (x == ("__classdict__" : Str)) = false := by decide)
    (hb : attributeBase (.Name x p') "done" X.env (eval (.Name x p') X.env) = eval (.Name x p') X.env := by rfl) : GoL X Γ (.Attribute (.Name x p') "done" pos) i (t.dn.map .str) fun es => pinO (insO "Turn" [("gears", .pr (gearsP b)), ("mode", .dat (.str t.m)), ("lot", .dat (eL t.on)), ("row", .dat (eO t.r)), ("place", .dat (.int t.p)), ("left", .dat (.int t.l)), ("silence", .dat (.int t.s)), ("done", .own es), ("refused", .own (t.rf.map .str)), ("moments", .own (t.mo.map eL))]) v0 :=
  gol_fld (Ss := turnSs b t) (Sf := fun es => [("gears", .pr (gearsP b)), ("mode", .dat (.str t.m)), ("lot", .dat (eL t.on)), ("row", .dat (eO t.r)), ("place", .dat (.int t.p)), ("left", .dat (.int t.l)), ("silence", .dat (.int t.s)), ("done", .own es), ("refused", .own (t.rf.map .str)), ("moments", .own (t.mo.map eL))]) i O hΓ (fun es => .pin) (hm := by decide) (hN := hN) (hv := hv) (hd := hd) (hcd := hcd) (hb := hb)
theorem gol_rf (i : Nat) {x : Str} {p' : Pos} (O : ClsOk X.K "Turn" ["gears", "mode", "lot", "row", "place", "left", "silence", "done", "refused", "moments"]) (hΓ : Γ[i]? = some (.ob (pinO (turnO b t) v0)))
    (hN : X.N[i]? = some x := by rfl) (hv : Vis X.env.scope x := by first | exact Or.inl rfl | exact Or.inr (Or.inl rfl) | exact Or.inr (Or.inr rfl)) (hd : (x == ("__debug__" : Str)) = false := by decide) (hcd : (x == ("__classdict__" : Str)) = false := by decide)
    (hb : attributeBase (.Name x p') "refused" X.env (eval (.Name x p') X.env) = eval (.Name x p') X.env := by rfl) : GoL X Γ (.Attribute (.Name x p') "refused" pos) i (t.rf.map .str) fun es => pinO (insO "Turn" [("gears", .pr (gearsP b)), ("mode", .dat (.str t.m)), ("lot", .dat (eL t.on)), ("row", .dat (eO t.r)), ("place", .dat (.int t.p)), ("left", .dat (.int t.l)), ("silence", .dat (.int t.s)), ("done", .own (t.dn.map .str)), ("refused", .own es), ("moments", .own (t.mo.map eL))]) v0 :=
  gol_fld (Ss := turnSs b t) (Sf := fun es => [("gears", .pr (gearsP b)), ("mode", .dat (.str t.m)), ("lot", .dat (eL t.on)), ("row", .dat (eO t.r)), ("place", .dat (.int t.p)), ("left", .dat (.int t.l)), ("silence", .dat (.int t.s)), ("done", .own (t.dn.map .str)), ("refused", .own es), ("moments", .own (t.mo.map eL))]) i O hΓ (fun es => .pin) (hm := by decide) (hN := hN) (hv := hv) (hd := hd) (hcd := hcd) (hb := hb)
end
section
variable {P : Program} {w : World} {K : PySem.W.Frag} {mg : Str → Option Value} {base : Heap}
theorem ok_Step___init__ (df : MtdI K mg "Step" "Step.__init__" s_Step___init__ ["self", "standing", "done", "refused", "moments"])   (x_LETTERS : GlobD K mg "LETTERS" (.str letS)) (T_InvalidBook : Ec0 K mg "InvalidBook") (x_MODE : GlobD K mg "MODE" (.str "mode")) (x_COMMAND : GlobD K mg "COMMAND" (.str "command")) (x_ALARM : GlobD K mg "ALARM" (.str "alarm")) (x_ROW : GlobD K mg "ROW" (.str "row")) (O_Book : ClsOk K "Book" ["_holds", "_barred", "_parts", "_quiet"]) (O_Step : ClsOk K "Step" ["standing", "done", "refused", "moments"]) (O_Gears : ClsOk K "Gears" ["home", "patience", "turns", "effects", "responses", "series"]) (O_Turn : ClsOk K "Turn" ["gears", "mode", "lot", "row", "place", "left", "silence", "done", "refused", "moments"]) (bt : Bt mg) : CalC P w K mg base "Step" ["self", "standing", "done", "refused", "moments"] 1 S_Step___init__ := by
  refine mI_ok df sc_Step___init__ ?_ (by decide) ?_
  · rintro _ _ _ _ ⟨t, rfl, rfl, rfl, rfl⟩
    rfl
  rintro _ _ _ _ ⟨t, rfl, rfl, rfl, rfl⟩ v0 f cdv A outer s H E hr J hJ
  refine rn_cons (rs_fld 0 (Ss' := [("standing", .dat (eG t.g))]) O_Step (go_var 1) rfl .pin ?_)
  refine rn_cons (rs_fldN 0 (Ss' := [("standing", .dat (eG t.g)), ("done", .own (t.dn.map .str))]) O_Step (gx_list bt.list (go_var 2)) rfl .pin ?_)
  refine rn_cons (rs_fldN 0 (Ss' := [("standing", .dat (eG t.g)), ("done", .own (t.dn.map .str)), ("refused", .own (t.rf.map .str))]) O_Step (gx_list bt.list (go_var 3)) rfl .pin ?_)
  refine rn_cons (rs_fldN 0 (Ss' := [("standing", .dat (eG t.g)), ("done", .own (t.dn.map .str)), ("refused", .own (t.rf.map .str)), ("moments", .own (t.mo.map eL))]) O_Step (gx_list bt.list (go_var 4)) rfl .pin ?_)
  exact rn_nil ⟨rfl, fun _ _ => Dp.non⟩
theorem ok_Gears___init__ (df : MtdI K mg "Gears" "Gears.__init__" s_Gears___init__ ["self", "book"]) (c_Book_safe : CalP P w K mg base "Book" "safe" ["self"] 1 S_Book_safe) (c_Book_quiet : CalP P w K mg base "Book" "quiet" ["self"] 1 S_Book_quiet) (c_Book_modes : CalPU P w K mg base "Book" "modes" ["self"] 1 S_Book_modes) (c_Book_commands : CalPU P w K mg base "Book" "commands" ["self"] 1 S_Book_commands) (c_Book_alarms : CalPU P w K mg base "Book" "alarms" ["self"] 1 S_Book_alarms) (c_Book_rows : CalPU P w K mg base "Book" "rows" ["self"] 1 S_Book_rows)  (x_LETTERS : GlobD K mg "LETTERS" (.str letS)) (T_InvalidBook : Ec0 K mg "InvalidBook") (x_MODE : GlobD K mg "MODE" (.str "mode")) (x_COMMAND : GlobD K mg "COMMAND" (.str "command")) (x_ALARM : GlobD K mg "ALARM" (.str "alarm")) (x_ROW : GlobD K mg "ROW" (.str "row")) (O_Book : ClsOk K "Book" ["_holds", "_barred", "_parts", "_quiet"]) (O_Step : ClsOk K "Step" ["standing", "done", "refused", "moments"]) (O_Gears : ClsOk K "Gears" ["home", "patience", "turns", "effects", "responses", "series"]) (O_Turn : ClsOk K "Turn" ["gears", "mode", "lot", "row", "place", "left", "silence", "done", "refused", "moments"]) (bt : Bt mg) : CalC P w K mg base "Gears" ["self", "book"] 3 S_Gears___init__ := by
  refine mI_ok df sc_Gears___init__ ?_ (by decide) ?_
  · rintro _ _ _ _ ⟨b, rfl, rfl, rfl, rfl, _⟩
    rfl
  rintro _ _ _ _ ⟨b, rfl, rfl, rfl, rfl, hb⟩ v0 f cdv A outer s H E hr J hJ
  obtain ⟨m0, hm0, e0, e1⟩ := home_mem hb
  obtain ⟨mr, hmr⟩ : ∃ r, b.modes = m0 :: r := by
    cases q : b.modes with
    | nil => rw [q] at e1; cases e1
    | cons x r => rw [q] at e1; cases e1; exact ⟨r, rfl⟩
  have m1 := hb.m.hi
  have m2 := hb.c.hi
  have m3 := hb.a.hi
  have m4 := hb.r.hi
  have zM : b.modes.length < 1000000 := by rw [List.length_map] at m1; omega
  have zC : b.cmdsS.length < 1000000 := by rw [List.length_map] at m2; rw [(cmds_perm b).length_eq]; omega
  have zA : b.alarms.length < 1000000 := by rw [List.length_map] at m3; omega
  have zR : b.rows.length < 1000000 := by rw [List.length_map] at m4; omega
  have eT : putsD [] (b.modes.map fun m => (m.n, .tuple [eL m.on, eL m.off])) = trnD b := putsD_new (by rw [List.nil_append, List.map_map]; exact hb.m.nd)
  have eE : putsD [] (b.cmdsS.map fun c => (c.n, .tuple [eL c.ms, eL c.on, eL c.off, eO c.to])) = effD b := putsD_new (by rw [List.nil_append, List.map_map]; exact ((cmds_perm b).map Cm.n).nodup_iff.mpr hb.c.nd)
  have eS : putsD [] (b.rows.map fun r => (r.n, .tuple (r.st.map eSt))) = serD b := putsD_new (by rw [List.nil_append, List.map_map]; exact hb.r.nd)
  refine rn_cons (rs_fld 0 (Ss' := [("home", .dat (.str (homeS b)))]) O_Gears (go_is (gx_prop c_Book_safe hr (by decide) (go_var 1) ⟨b, m0, mr, rfl, rfl, hmr⟩) (congrArg PyData.str e0)) rfl .pin ?_)
  refine rn_cons (rs_fld 0 (Ss' := [("home", .dat (.str (homeS b))), ("patience", .dat (eQ b.quiet))]) O_Gears (gx_prop c_Book_quiet hr (by decide) (go_var 1) (by exact ⟨_, rfl, rfl⟩)) rfl .pin ?_)
  refine rn_cons (rs_fld 0 (Ss' := [("home", .dat (.str (homeS b))), ("patience", .dat (eQ b.quiet)), ("turns", .pr (dctP (trnD b)))]) O_Gears (goP_is (goP_dc (xs := b.modes) (enc := eM) (kf := Md.n) (f := fun m => .tuple [eL m.on, eL m.off]) [("name", 2), ("on", 3), ("off", 4)] rfl sc_Gears___init__.nd (goi_list (go_of_U (goU_prop c_Book_modes hr (by decide) (go_var 1) (by exact ⟨_, rfl, rfl⟩)) (fz_lst _))) (fun k x hx => ⟨_, _, fun s H C cl fp => (gog_tup rfl (gogs_cons (gog_name 2 sc_Gears___init__.nd) (gogs_cons (gog_name 3 sc_Gears___init__.nd) (gogs_cons (gog_name 4 sc_Gears___init__.nd) gogs_nil)))), fun s H C cl fp => (go_var 2), fun s H C cl fp => (go_tup (god_cons (go_var 3) (god_cons (go_var 4) god_nil))), by simp⟩) (by first | (show blkC ["self", "book", "name", "on", "off", "modes", "to", "steps"] (defScope s_Gears___init__) _ _ = true; decide +kernel) | (show blkC ["self", "book", "name", "on", "off", "modes", "to", "steps"] (relS _ (defScope s_Gears___init__)) _ _ = true; decide +kernel) | (show blkC ["self", "book", "name", "on", "off", "modes", "to", "steps"] (relS _ (relS _ (defScope s_Gears___init__))) _ _ = true; decide +kernel))) (congrArg dctP eT)) rfl .pin ?_)
  refine rn_cons (rs_fld 0 (Ss' := [("home", .dat (.str (homeS b))), ("patience", .dat (eQ b.quiet)), ("turns", .pr (dctP (trnD b))), ("effects", .pr (dctP (effD b)))]) O_Gears (goP_is (goP_dc (xs := b.cmdsS) (enc := eC) (kf := Cm.n) (f := fun c => .tuple [eL c.ms, eL c.on, eL c.off, eO c.to]) [("name", 2), ("modes", 5), ("on", 3), ("off", 4), ("to", 6)] rfl sc_Gears___init__.nd (goi_list (go_of_U (goU_prop c_Book_commands hr (by decide) (go_var 1) (by exact ⟨_, rfl, rfl⟩)) (fz_lst _))) (fun k x hx => ⟨_, _, fun s H C cl fp => (gog_tup rfl (gogs_cons (gog_name 2 sc_Gears___init__.nd) (gogs_cons (gog_name 5 sc_Gears___init__.nd) (gogs_cons (gog_name 3 sc_Gears___init__.nd) (gogs_cons (gog_name 4 sc_Gears___init__.nd) (gogs_cons (gog_name 6 sc_Gears___init__.nd) gogs_nil)))))), fun s H C cl fp => (go_var 2), fun s H C cl fp => (go_tup (god_cons (go_var 5) (god_cons (go_var 3) (god_cons (go_var 4) (god_cons (go_var 6) god_nil))))), by simp⟩) (by first | (show blkC ["self", "book", "name", "on", "off", "modes", "to", "steps"] (defScope s_Gears___init__) _ _ = true; decide +kernel) | (show blkC ["self", "book", "name", "on", "off", "modes", "to", "steps"] (relS _ (defScope s_Gears___init__)) _ _ = true; decide +kernel) | (show blkC ["self", "book", "name", "on", "off", "modes", "to", "steps"] (relS _ (relS _ (defScope s_Gears___init__))) _ _ = true; decide +kernel))) (congrArg dctP eE)) rfl .pin ?_)
  refine rn_cons (rs_fld 0 (Ss' := [("home", .dat (.str (homeS b))), ("patience", .dat (eQ b.quiet)), ("turns", .pr (dctP (trnD b))), ("effects", .pr (dctP (effD b))), ("responses", .dat (.list (rspD b)))]) O_Gears (go_of_new (gx_lcM (xs := b.alarms) (enc := eA) (f := fun a => .tuple [.str a.n, .tuple [eL a.on, eL a.off, eO a.to]]) (own := [("name", 2), ("on", 3), ("off", 4), ("to", 6)]) rfl sc_Gears___init__.nd (goi_list (go_of_U (goU_prop c_Book_alarms hr (by decide) (go_var 1) (by exact ⟨_, rfl, rfl⟩)) (fz_lst _))) (fun k x hx => ⟨_, _, fun s H C cl fp => (gog_tup rfl (gogs_cons (gog_name 2 sc_Gears___init__.nd) (gogs_cons (gog_name 3 sc_Gears___init__.nd) (gogs_cons (gog_name 4 sc_Gears___init__.nd) (gogs_cons (gog_name 6 sc_Gears___init__.nd) gogs_nil))))), fun s H C cl fp => (go_tup (god_cons (go_var 2) (god_cons (go_tup (god_cons (go_var 3) (god_cons (go_var 4) (god_cons (go_var 6) god_nil)))) god_nil))), by simp⟩) (by first | (show blkC ["self", "book", "name", "on", "off", "modes", "to", "steps"] (defScope s_Gears___init__) _ _ = true; decide +kernel) | (show blkC ["self", "book", "name", "on", "off", "modes", "to", "steps"] (relS _ (defScope s_Gears___init__)) _ _ = true; decide +kernel) | (show blkC ["self", "book", "name", "on", "off", "modes", "to", "steps"] (relS _ (relS _ (defScope s_Gears___init__))) _ _ = true; decide +kernel)))) rfl .pin ?_)
  refine rn_cons (rs_fld 0 (Ss' := [("home", .dat (.str (homeS b))), ("patience", .dat (eQ b.quiet)), ("turns", .pr (dctP (trnD b))), ("effects", .pr (dctP (effD b))), ("responses", .dat (.list (rspD b))), ("series", .pr (dctP (serD b)))]) O_Gears (goP_is (goP_dc (xs := b.rows) (enc := eR) (kf := Rw.n) (f := fun r => .tuple (r.st.map eSt)) [("name", 2), ("steps", 7)] rfl sc_Gears___init__.nd (goi_list (go_of_U (goU_prop c_Book_rows hr (by decide) (go_var 1) (by exact ⟨_, rfl, rfl⟩)) (fz_lst _))) (fun k x hx => ⟨_, _, fun s H C cl fp => (gog_tup rfl (gogs_cons (gog_name 2 sc_Gears___init__.nd) (gogs_cons (gog_name 7 sc_Gears___init__.nd) gogs_nil))), fun s H C cl fp => (go_var 2), fun s H C cl fp => (go_var 7), by simp⟩) (by first | (show blkC ["self", "book", "name", "on", "off", "modes", "to", "steps"] (defScope s_Gears___init__) _ _ = true; decide +kernel) | (show blkC ["self", "book", "name", "on", "off", "modes", "to", "steps"] (relS _ (defScope s_Gears___init__)) _ _ = true; decide +kernel) | (show blkC ["self", "book", "name", "on", "off", "modes", "to", "steps"] (relS _ (relS _ (defScope s_Gears___init__))) _ _ = true; decide +kernel))) (congrArg dctP eS)) rfl .pin ?_)
  exact rn_nil ⟨rfl, fun _ _ => Dp.non⟩
theorem ok_turned (df : Dfn K mg "turned" s_turned ["holds", "on", "off"])   (x_LETTERS : GlobD K mg "LETTERS" (.str letS)) (T_InvalidBook : Ec0 K mg "InvalidBook") (x_MODE : GlobD K mg "MODE" (.str "mode")) (x_COMMAND : GlobD K mg "COMMAND" (.str "command")) (x_ALARM : GlobD K mg "ALARM" (.str "alarm")) (x_ROW : GlobD K mg "ROW" (.str "row")) (O_Book : ClsOk K "Book" ["_holds", "_barred", "_parts", "_quiet"]) (O_Step : ClsOk K "Step" ["standing", "done", "refused", "moments"]) (O_Gears : ClsOk K "Gears" ["home", "patience", "turns", "effects", "responses", "series"]) (O_Turn : ClsOk K "Turn" ["gears", "mode", "lot", "row", "place", "left", "silence", "done", "refused", "moments"]) (bt : Bt mg) : Cal P w K mg base "turned" ["holds", "on", "off"] 1 S_turned := by
  refine cal_ok df sc_turned ?_ ?_
  · rintro _ _ ⟨l, on, off, rfl, rfl, _⟩
    rfl
  rintro _ _ ⟨l, on, off, rfl, rfl, h1, h2, h3, h4⟩ f cdv A outer s H E hr J hJ
  have z1 : l.length < 1000000 := by omega
  have zf : (l.filter fun x => !decide (x ∈ off)).length ≤ 20 := Nat.le_trans (List.length_filter_le _ _) h3
  have zz : ((l.filter fun x => !decide (x ∈ off)) ++ on).length < 64 := by rw [List.length_append]; omega
  have zb : ((l.filter fun x => !decide (x ∈ off)).map PyData.str).length + (on.map PyData.str).length ≤ sizeLine := leZ (by rw [List.length_map, List.length_map]; omega)
  rw [← turned_eq (t := (on, off)) h1 h2]
  refine rn_cons (rs_ret (gx_tuple bt.tuple (go_of_new (gx_sortSet (xs := (l.filter fun x => !decide (x ∈ off)) ++ on) (.of hr) rfl bt.sorted bt.set (go_is (d' := .list (((l.filter fun x => !decide (x ∈ off)) ++ on).map .str)) (gx_bin (d := .list ((l.filter fun x => !decide (x ∈ off)).map .str ++ on.map .str)) (go_of_new (gx_lc (xs := l) (enc := .str) (q := fun x => !decide (x ∈ off)) (f := .str) (own := [("hold", 3)]) rfl sc_turned.nd (goi_tup (go_var 0)) (fun t x hx => ⟨_, _, fun s H C cl fp => (gog_name 3 sc_turned.nd), fun s H C cl fp => goTs_one (gocT (gx_nin (k := decide (x ∈ off)) (go_var 3) (go_var 2) (by exact ⟨off, rfl, rfl⟩))), fun hq s H C cl fp => (go_var 3), by simp⟩) (by first | (show blkC ["holds", "on", "off", "hold"] (defScope s_turned) _ _ = true; decide +kernel) | (show blkC ["holds", "on", "off", "hold"] (relS _ (defScope s_turned)) _ _ = true; decide +kernel) | (show blkC ["holds", "on", "off", "hold"] (relS _ (relS _ (defScope s_turned))) _ _ = true; decide +kernel)))) (go_of_new (gx_list bt.list (go_var 1) (by exact rfl))) (by exact ⟨rfl, zb⟩)) (by rw [List.map_append])) (by exact rfl) (by omega))) (by exact rfl)))
theorem ok_Turn___init__ (df : MtdI K mg "Turn" "Turn.__init__" s_Turn___init__ ["self", "gears", "standing"])   (x_LETTERS : GlobD K mg "LETTERS" (.str letS)) (T_InvalidBook : Ec0 K mg "InvalidBook") (x_MODE : GlobD K mg "MODE" (.str "mode")) (x_COMMAND : GlobD K mg "COMMAND" (.str "command")) (x_ALARM : GlobD K mg "ALARM" (.str "alarm")) (x_ROW : GlobD K mg "ROW" (.str "row")) (O_Book : ClsOk K "Book" ["_holds", "_barred", "_parts", "_quiet"]) (O_Step : ClsOk K "Step" ["standing", "done", "refused", "moments"]) (O_Gears : ClsOk K "Gears" ["home", "patience", "turns", "effects", "responses", "series"]) (O_Turn : ClsOk K "Turn" ["gears", "mode", "lot", "row", "place", "left", "silence", "done", "refused", "moments"]) (bt : Bt mg) : CalC P w K mg base "Turn" ["self", "gears", "standing"] 1 S_Turn___init__ := by
  refine mI_ok df sc_Turn___init__ ?_ (by decide) ?_
  · rintro _ _ _ _ ⟨b, g, rfl, rfl, rfl, rfl⟩
    rfl
  rintro _ _ _ _ ⟨b, g, rfl, rfl, rfl, rfl⟩ v0 f cdv A outer s H E hr J hJ
  refine rn_cons (rs_fld 0 (Ss' := [("gears", .pr (gearsP b))]) O_Turn (go_var 1) rfl .pin ?_)
  refine rn_cons (rs_unpF 0 (Ss' := [("gears", .pr (gearsP b)), ("mode", .dat (.str g.m)), ("lot", .dat (eL g.on)), ("row", .dat (eO g.r)), ("place", .dat (.int g.p)), ("left", .dat (.int g.l)), ("silence", .dat (.int g.s))]) (go_is (go_var 2) (show _ = PyData.tuple [.str g.m, eL g.on, eO g.r, .int g.p, .int g.l, .int g.s] from rfl)) (gofs_cons O_Turn (gofs_cons O_Turn (gofs_cons O_Turn (gofs_cons O_Turn (gofs_cons O_Turn (gofs_cons O_Turn gofs_nil)))))) rfl rfl .pin ?_)
  refine rn_cons (rs_fldN 0 (Ss' := [("gears", .pr (gearsP b)), ("mode", .dat (.str g.m)), ("lot", .dat (eL g.on)), ("row", .dat (eO g.r)), ("place", .dat (.int g.p)), ("left", .dat (.int g.l)), ("silence", .dat (.int g.s)), ("done", .own [])]) O_Turn (goN_lst god_nil) rfl .pin ?_)
  refine rn_cons (rs_fldN 0 (Ss' := [("gears", .pr (gearsP b)), ("mode", .dat (.str g.m)), ("lot", .dat (eL g.on)), ("row", .dat (eO g.r)), ("place", .dat (.int g.p)), ("left", .dat (.int g.l)), ("silence", .dat (.int g.s)), ("done", .own []), ("refused", .own [])]) O_Turn (goN_lst god_nil) rfl .pin ?_)
  refine rn_cons (rs_fldN 0 (Ss' := [("gears", .pr (gearsP b)), ("mode", .dat (.str g.m)), ("lot", .dat (eL g.on)), ("row", .dat (eO g.r)), ("place", .dat (.int g.p)), ("left", .dat (.int g.l)), ("silence", .dat (.int g.s)), ("done", .own []), ("refused", .own []), ("moments", .own [])]) O_Turn (goN_lst god_nil) rfl .pin ?_)
  exact rn_nil ⟨rfl, fun _ _ => Dp.non⟩
theorem ok_Turn_effect (df : Mtd K "Turn" "effect" "Turn.effect" s_Turn_effect ["self", "on", "off", "to"]) (c_turned : Cal P w K mg base "turned" ["holds", "on", "off"] 1 S_turned)  (x_LETTERS : GlobD K mg "LETTERS" (.str letS)) (T_InvalidBook : Ec0 K mg "InvalidBook") (x_MODE : GlobD K mg "MODE" (.str "mode")) (x_COMMAND : GlobD K mg "COMMAND" (.str "command")) (x_ALARM : GlobD K mg "ALARM" (.str "alarm")) (x_ROW : GlobD K mg "ROW" (.str "row")) (O_Book : ClsOk K "Book" ["_holds", "_barred", "_parts", "_quiet"]) (O_Step : ClsOk K "Step" ["standing", "done", "refused", "moments"]) (O_Gears : ClsOk K "Gears" ["home", "patience", "turns", "effects", "responses", "series"]) (O_Turn : ClsOk K "Turn" ["gears", "mode", "lot", "row", "place", "left", "silence", "done", "refused", "moments"]) (bt : Bt mg) : CalM P w K mg base CX0 "Turn" "effect" ["self", "on", "off", "to"] 2 (spW K S_Turn_effect) := by
  refine mW_ok df sc_Turn_effect ?_ (by decide) ?_
  · rintro _ _ _ _ ⟨b, t, on, off, to, rfl, rfl, rfl, rfl, _⟩
    rfl
  rintro _ _ _ _ ⟨b, t, on, off, to, rfl, rfl, rfl, rfl, ht, hT, hto⟩ v0 f cdv A outer s H E hr J hJ
  have hb := ht.ok
  have hl := lot_hs ht.on
  have hon := turn_hs hT
  have l1 := hs_len hb hl
  have l2 := hs_len hb hon
  have lm : (t.mo.map eL).length < sizeLine := ltZ (by rw [List.length_map]; have := ht.mo; omega)
  refine rn_cons (rs_fld 0 (Ss' := turnSs b { t with on := turnF t.on (on, off) }) O_Turn (gx_call c_turned hr (by decide) (goA_cons (go_fldW 0 O_Turn rfl (innP (W := turnO b t))) (goA_cons (go_var 1) (goA_cons (go_var 2) goA_nil))) ⟨t.on, on, off, rfl, rfl, hl.nd, hon.nd, by omega, by omega⟩) rfl .pin ?_)
  refine rn_is 0 rfl (s' := .ob (pinO (turnO b { t with on := turnF t.on (on, off) }) v0)) rfl ?_
  cases to with
  | none =>
    refine rn_cons (rs_if (k := false) (goT_is (gocT (gc_notN (go_var 3))) rfl) (fun h => nomatch h) fun _ => rn_nil ?_)
    refine rn_cons (rs_appL (gol_mo 0 O_Turn rfl) (go_fldW 0 O_Turn rfl (innP (W := turnO b { t with on := turnF t.on (on, off) }))) lm ?_ (Nat.le_of_ble_eq_true rfl))
    refine rn_is 0 rfl (s' := .ob (pinO (turnO b (t.eff b on off none)) v0)) (by
      show Sl.ob (pinO (insO "Turn" _) v0) = Sl.ob (pinO (insO "Turn" (turnSs b (t.eff b on off none))) v0)
      unfold turnSs Tk.eff
      dsimp only
      rw [List.map_append]
      rfl) ?_
    exact rn_nil ⟨rfl, fun _ _ => Dp.non⟩
  | some x =>
    obtain ⟨md, hmd, rfl⟩ := List.mem_map.mp (hto x rfl)
    have hm2 := turn_hs (hb.mT md hmd)
    have l3 := hs_len hb hm2
    have hl2 := lot_hs (turnF_lot (t := (on, off)) hb ht.on hon)
    have l4 := hs_len hb hl2
    refine rn_cons (rs_if (k := true) (goT_is (gocT (gc_notN (go_var 3))) rfl) (fun _ => ?_) fun h => nomatch h)
    refine rn_cons (rs_fld 0 (Ss' := turnSs b { t with on := turnF t.on (on, off), m := md.n }) O_Turn (go_is (d' := .str md.n) (go_var 3) rfl) rfl .pin ?_)
    refine rn_is 0 rfl (s' := .ob (pinO (turnO b { t with on := turnF t.on (on, off), m := md.n }) v0)) rfl ?_
    have gt : ∀ i : Nat, ∀ d, [eL md.on, eL md.off][i]? = some d → True := fun _ _ _ => True.intro
    refine rn_cons (rs_fld 0 (Ss' := turnSs b { t with on := turnF (turnF t.on (on, off)) (md.on, md.off), m := md.n }) O_Turn (gx_call c_turned hr (by decide) (goA_cons (go_fldW 0 O_Turn rfl (innP (W := turnO b { t with on := turnF t.on (on, off), m := md.n }))) (goA_cons (gx_ix (d := eL md.on) (go_dctIx (.of hr) (go_fld O_Gears (Ps := [("home", datP (.str (homeS b))), ("patience", datP (eQ b.quiet)), ("turns", dctP (trnD b)), ("effects", dctP (effD b)), ("responses", datP (.list (rspD b))), ("series", dctP (serD b))]) (go_fldW 0 O_Turn rfl (innP (W := turnO b { t with on := turnF t.on (on, off), m := md.n }))) rfl (by decide)) (go_is (d' := .str md.n) (go_var 3) rfl) (get_trn hb hmd)) go_int (by exact rfl)) (goA_cons (gx_ix (d := eL md.off) (go_dctIx (.of hr) (go_fld O_Gears (Ps := [("home", datP (.str (homeS b))), ("patience", datP (eQ b.quiet)), ("turns", dctP (trnD b)), ("effects", dctP (effD b)), ("responses", datP (.list (rspD b))), ("series", dctP (serD b))]) (go_fldW 0 O_Turn rfl (innP (W := turnO b { t with on := turnF t.on (on, off), m := md.n }))) rfl (by decide)) (go_is (d' := .str md.n) (go_var 3) rfl) (get_trn hb hmd)) go_int (by exact rfl)) goA_nil))) ⟨turnF t.on (on, off), md.on, md.off, rfl, rfl, hl2.nd, hm2.nd, by omega, by omega⟩) rfl .pin ?_)
    refine rn_is 0 rfl (s' := .ob (pinO (turnO b { t with on := turnF (turnF t.on (on, off)) (md.on, md.off), m := md.n }) v0)) rfl (rn_nil ?_)
    refine rn_cons (rs_appL (gol_mo 0 O_Turn rfl) (go_fldW 0 O_Turn rfl (innP (W := turnO b { t with on := turnF (turnF t.on (on, off)) (md.on, md.off), m := md.n }))) lm ?_ (Nat.le_of_ble_eq_true rfl))
    refine rn_is 0 rfl (s' := .ob (pinO (turnO b (t.eff b on off (some md.n))) v0)) (by
      show Sl.ob (pinO (insO "Turn" _) v0) = Sl.ob (pinO (insO "Turn" (turnSs b (t.eff b on off (some md.n)))) v0)
      unfold turnSs Tk.eff
      dsimp only
      rw [List.map_append, effS_some (t := (on, off)) hb hmd hl.nd hon.nd]
      rfl) ?_
    exact rn_nil ⟨rfl, fun _ _ => Dp.non⟩
theorem ok_Turn_halt (df : Mtd K "Turn" "halt" "Turn.halt" s_Turn_halt ["self"])   (x_LETTERS : GlobD K mg "LETTERS" (.str letS)) (T_InvalidBook : Ec0 K mg "InvalidBook") (x_MODE : GlobD K mg "MODE" (.str "mode")) (x_COMMAND : GlobD K mg "COMMAND" (.str "command")) (x_ALARM : GlobD K mg "ALARM" (.str "alarm")) (x_ROW : GlobD K mg "ROW" (.str "row")) (O_Book : ClsOk K "Book" ["_holds", "_barred", "_parts", "_quiet"]) (O_Step : ClsOk K "Step" ["standing", "done", "refused", "moments"]) (O_Gears : ClsOk K "Gears" ["home", "patience", "turns", "effects", "responses", "series"]) (O_Turn : ClsOk K "Turn" ["gears", "mode", "lot", "row", "place", "left", "silence", "done", "refused", "moments"]) (bt : Bt mg) : CalM P w K mg base CX0 "Turn" "halt" ["self"] 1 (spW K S_Turn_halt) := by
  refine mW_ok df sc_Turn_halt ?_ (by decide) ?_
  · rintro _ _ _ _ ⟨b, t, rfl, rfl, rfl, rfl⟩
    rfl
  rintro _ _ _ _ ⟨b, t, rfl, rfl, rfl, rfl⟩ v0 f cdv A outer s H E hr J hJ
  refine rn_cons (rs_unpF 0 (Ss := turnSs b t) (Ss' := turnSs b t.halt) (go_tup (god_cons go_non (god_cons go_int (god_cons go_int god_nil)))) (gofs_cons O_Turn (gofs_cons O_Turn (gofs_cons O_Turn gofs_nil))) rfl rfl .pin ?_)
  exact rn_nil ⟨rfl, fun _ _ => Dp.non⟩
theorem ok_Turn_begin (df : Mtd K "Turn" "begin" "Turn.begin" s_Turn_begin ["self", "row", "place"]) (c_Turn_halt : CalM P w K mg base CX0 "Turn" "halt" ["self"] 1 (spW K S_Turn_halt))  (x_LETTERS : GlobD K mg "LETTERS" (.str letS)) (T_InvalidBook : Ec0 K mg "InvalidBook") (x_MODE : GlobD K mg "MODE" (.str "mode")) (x_COMMAND : GlobD K mg "COMMAND" (.str "command")) (x_ALARM : GlobD K mg "ALARM" (.str "alarm")) (x_ROW : GlobD K mg "ROW" (.str "row")) (O_Book : ClsOk K "Book" ["_holds", "_barred", "_parts", "_quiet"]) (O_Step : ClsOk K "Step" ["standing", "done", "refused", "moments"]) (O_Gears : ClsOk K "Gears" ["home", "patience", "turns", "effects", "responses", "series"]) (O_Turn : ClsOk K "Turn" ["gears", "mode", "lot", "row", "place", "left", "silence", "done", "refused", "moments"]) (bt : Bt mg) : CalM P w K mg base CX0 "Turn" "begin" ["self", "row", "place"] 2 (spW K S_Turn_begin) := by
  refine mW_ok df sc_Turn_begin ?_ (by decide) ?_
  · rintro _ _ _ _ ⟨b, t, w, p, rfl, rfl, rfl, rfl, _⟩
    rfl
  rintro _ _ _ _ ⟨b, t, w, p, rfl, rfl, rfl, rfl, hb, hw, h1, h2⟩ v0 f cdv A outer s H E hr J hJ
  have le : (((w.st.map eSt).length : Nat) : Int) = (w.st.length : Int) := by rw [List.length_map]
  have hsz : (w.st.map eSt).length ≤ sizeLine := leZ (by rw [List.length_map]; have := (hb.rS w hw).2.1; omega)
  refine rn_cons (rs_set 3 (go_dctIx (.of hr) (go_fld O_Gears (Ps := gearPs b) (go_fldW 0 O_Turn rfl (innP (W := turnO b t))) rfl (by decide)) (go_var 1) (get_ser hb hw)) ?_ sc_Turn_begin.nd)
  unfold Tk.beg
  by_cases c : p = (w.st.length : Int)
  · rw [if_pos c]
    refine rn_cons (rs_if (k := true) (goT_is (gocT (gc_eqI (go_var 2) (gx_len bt.len (go_var 3)))) (by rw [le]; exact decide_eq_true c)) (fun _ => ?_) fun h => nomatch h)
    refine rn_cons (rs_exprM (gm_meth0 0 c_Turn_halt hr (by decide) rfl .pin isO_turn ⟨b, t, rfl, rfl, rfl, rfl⟩) (Nat.le_of_ble_eq_true rfl) ?_)
    exact rn_nil (rn_nil ⟨rfl, fun _ _ => Dp.non⟩)
  · rw [if_neg c]
    have hp : 0 ≤ p ∧ p < (w.st.length : Int) := ⟨h1, by omega⟩
    refine rn_cons (rs_if (k := false) (goT_is (gocT (gc_eqI (go_var 2) (gx_len bt.len (go_var 3)))) (by rw [le]; exact decide_eq_false c)) (fun h => nomatch h) fun _ => ?_)
    refine rn_cons (rs_unpF 0 (Ss := turnSs b t) (Ss' := turnSs b { t with r := some w.n, p := p, l := (stAt w.st p).1 }) (go_is (d' := .tuple [eO (some w.n), .int p, .int (stAt w.st p).1]) (go_tup (god_cons (go_var 1) (god_cons (go_var 2) (god_cons (gx_ix (d := .int (stAt w.st p).1) (gx_ix (d := eSt (stAt w.st p)) (go_var 3) (go_var 2) (by exact st_at hp)) go_int (by exact rfl)) god_nil)))) rfl) (gofs_cons O_Turn (gofs_cons O_Turn (gofs_cons O_Turn gofs_nil))) rfl rfl .pin ?_)
    exact rn_nil (rn_nil ⟨rfl, fun _ _ => Dp.non⟩)
theorem ok_Turn_command (df : Mtd K "Turn" "command" "Turn.command" s_Turn_command ["self", "name"]) (c_Turn_effect : CalM P w K mg base CX0 "Turn" "effect" ["self", "on", "off", "to"] 2 (spW K S_Turn_effect))  (x_LETTERS : GlobD K mg "LETTERS" (.str letS)) (T_InvalidBook : Ec0 K mg "InvalidBook") (x_MODE : GlobD K mg "MODE" (.str "mode")) (x_COMMAND : GlobD K mg "COMMAND" (.str "command")) (x_ALARM : GlobD K mg "ALARM" (.str "alarm")) (x_ROW : GlobD K mg "ROW" (.str "row")) (O_Book : ClsOk K "Book" ["_holds", "_barred", "_parts", "_quiet"]) (O_Step : ClsOk K "Step" ["standing", "done", "refused", "moments"]) (O_Gears : ClsOk K "Gears" ["home", "patience", "turns", "effects", "responses", "series"]) (O_Turn : ClsOk K "Turn" ["gears", "mode", "lot", "row", "place", "left", "silence", "done", "refused", "moments"]) (bt : Bt mg) : CalM P w K mg base CX0 "Turn" "command" ["self", "name"] 3 (spW K S_Turn_command) := by
  refine mW_ok df sc_Turn_command ?_ (by decide) ?_
  · rintro _ _ _ _ ⟨b, t, c, rfl, rfl, rfl, rfl, _⟩
    rfl
  rintro _ _ _ _ ⟨b, t, c, rfl, rfl, rfl, rfl, hc, hBd⟩ v0 f cdv A outer s H E hr J hJ
  have hb := hBd.ok
  have ld : (t.dn.map PyData.str).length < sizeLine := ltZ (by rw [List.length_map]; have := hBd.dn; omega)
  refine rn_cons (rs_unp (go_dctIx (.of hr) (go_fld O_Gears (Ps := gearPs b) (go_fldW 0 O_Turn rfl (innP (W := turnO b t))) rfl (by decide)) (go_var 1) (get_eff hb hc)) (gog_tup rfl (gogs_cons (gog_name 2 sc_Turn_command.nd) (gogs_cons (gog_name 3 sc_Turn_command.nd) (gogs_cons (gog_name 4 sc_Turn_command.nd) (gogs_cons (gog_name 5 sc_Turn_command.nd) gogs_nil))))) ?_)
  unfold Tk.cmd
  by_cases q : t.m ∈ c.ms
  · rw [if_pos q, decide_eq_true q]
    refine rn_cons (rs_if (k := false) (goT_is (gocT (gx_nin (k := decide (t.m ∈ c.ms)) (go_fldW 0 O_Turn rfl (innP (W := turnO b t))) (go_var 2) (by exact ⟨c.ms, rfl, rfl⟩))) (by rw [decide_eq_true q]; rfl)) (fun h => nomatch h) fun _ => rn_nil ?_)
    refine rn_cons (rs_exprM (gm_meth 0 c_Turn_effect hr (by decide) rfl .pin isO_turn (goA_cons (go_var 3) (goA_cons (go_var 4) (goA_cons (go_var 5) goA_nil))) ⟨b, t, c.on, c.off, c.to, rfl, rfl, rfl, rfl, hBd, (hb.cE c hc).1, (hb.cE c hc).2⟩) (Nat.le_of_ble_eq_true rfl) ?_)
    refine rn_is 0 rfl (s' := .ob (pinO (turnO b (t.eff b c.on c.off c.to)) v0)) rfl ?_
    refine rn_cons (rs_appL (gol_dn 0 O_Turn rfl) (go_var 1) ld ?_ (Nat.le_of_ble_eq_true rfl))
    refine rn_is 0 rfl (s' := .ob (pinO (turnO b { t.eff b c.on c.off c.to with dn := t.dn ++ [c.n] }) v0)) (by
      show Sl.ob (pinO (insO "Turn" _) v0) = Sl.ob (pinO (insO "Turn" (turnSs b { t.eff b c.on c.off c.to with dn := t.dn ++ [c.n] })) v0)
      unfold turnSs Tk.eff
      dsimp only
      rw [show (t.dn ++ [c.n]).map PyData.str = t.dn.map .str ++ [.str c.n] by rw [List.map_append]; rfl]) ?_
    exact rn_cons (rs_ret go_bl rfl)
  · rw [if_neg q, decide_eq_false q]
    refine rn_cons (rs_if (k := true) (goT_is (gocT (gx_nin (k := decide (t.m ∈ c.ms)) (go_fldW 0 O_Turn rfl (innP (W := turnO b t))) (go_var 2) (by exact ⟨c.ms, rfl, rfl⟩))) (by rw [decide_eq_false q]; rfl)) (fun _ => ?_) fun h => nomatch h)
    exact rn_cons (rs_ret go_bl rfl)
theorem ok_Turn_answer (df : Mtd K "Turn" "answer" "Turn.answer" s_Turn_answer ["self", "alarms"]) (c_Turn_effect : CalM P w K mg base CX0 "Turn" "effect" ["self", "on", "off", "to"] 2 (spW K S_Turn_effect)) (c_Turn_halt : CalM P w K mg base CX0 "Turn" "halt" ["self"] 1 (spW K S_Turn_halt))  (x_LETTERS : GlobD K mg "LETTERS" (.str letS)) (T_InvalidBook : Ec0 K mg "InvalidBook") (x_MODE : GlobD K mg "MODE" (.str "mode")) (x_COMMAND : GlobD K mg "COMMAND" (.str "command")) (x_ALARM : GlobD K mg "ALARM" (.str "alarm")) (x_ROW : GlobD K mg "ROW" (.str "row")) (O_Book : ClsOk K "Book" ["_holds", "_barred", "_parts", "_quiet"]) (O_Step : ClsOk K "Step" ["standing", "done", "refused", "moments"]) (O_Gears : ClsOk K "Gears" ["home", "patience", "turns", "effects", "responses", "series"]) (O_Turn : ClsOk K "Turn" ["gears", "mode", "lot", "row", "place", "left", "silence", "done", "refused", "moments"]) (bt : Bt mg) : CalM P w K mg base CX0 "Turn" "answer" ["self", "alarms"] 3 (spW K S_Turn_answer) := by
  refine mW_ok df sc_Turn_answer ?_ (by decide) ?_
  · rintro _ _ _ _ ⟨b, t, as, rfl, rfl, rfl, rfl, _⟩
    rfl
  rintro _ _ _ _ ⟨b, t, as, rfl, rfl, rfl, rfl, hb, ht⟩ v0 f cdv A outer s H E hr J hJ
  have m3 := hb.a.hi
  rw [List.length_map] at m3
  refine rn_cons (rs_for (fun k Γ' => ∃ s2 s3 s4 s5 : Sl, Γ' = [.ob (pinO (turnO b ((b.alarms.take k).foldl (Tk.ans1 b as) t)) v0), .dat (eL as), s2, s3, s4, s5] ∧ True) (goi_list (go_fld O_Gears (Ps := gearPs b) (go_fldW 0 O_Turn rfl (innP (W := turnO b t))) rfl (by decide))) ?_ ?_ ?_ rfl)
  · exact ⟨_, _, _, _, rfl, True.intro⟩
  · rintro k d _ hd ⟨s2, s3, s4, s5, rfl, _⟩
    unfold rspD at hd
    rw [List.getElem?_map] at hd
    obtain ⟨a, hk, rfl⟩ := Option.map_eq_some_iff.mp hd
    have ha := List.mem_of_getElem? hk
    have hkl := (List.getElem?_eq_some_iff.mp hk).1
    have e : (b.alarms.take (k + 1)).foldl (Tk.ans1 b as) t = Tk.ans1 b as ((b.alarms.take k).foldl (Tk.ans1 b as) t) a := by
      rw [List.take_add_one, hk, List.foldl_append]
      rfl
    have hT : TkOk b (0 + (b.alarms.take k).length) ((b.alarms.take k).foldl (Tk.ans1 b as) t) := tk_ansL hb as _ 0 t ht fun x hx => List.mem_of_mem_take hx
    have hle : 0 + (b.alarms.take k).length ≤ 100 := by rw [List.length_take]; omega
    have hBd : Bd b ((b.alarms.take k).foldl (Tk.ans1 b as) t) := ⟨hb, _, hle, hT⟩
    rw [e]
    generalize (b.alarms.take k).foldl (Tk.ans1 b as) t = u at hBd
    refine ⟨_, _, (gog_tup rfl (gogs_cons (gog_name 2 sc_Turn_answer.nd) (gogs_cons (gog_tup rfl (gogs_cons (gog_name 3 sc_Turn_answer.nd) (gogs_cons (gog_name 4 sc_Turn_answer.nd) (gogs_cons (gog_name 5 sc_Turn_answer.nd) gogs_nil)))) gogs_nil))), ?_⟩
    unfold Tk.ans1
    by_cases q : a.n ∈ as
    · rw [if_pos q]
      refine rn_cons (rs_if (k := true) (goT_is (gocT (gx_in (k := decide (a.n ∈ as)) (go_var 2) (go_var 1) (by exact ⟨as, rfl, rfl⟩))) (decide_eq_true q)) (fun _ => ?_) fun h => nomatch h)
      refine rn_cons (rs_exprM (gm_meth 0 c_Turn_effect hr (by decide) rfl .pin isO_turn (goA_cons (go_var 3) (goA_cons (go_var 4) (goA_cons (go_var 5) goA_nil))) ⟨b, u, a.on, a.off, a.to, rfl, rfl, rfl, rfl, hBd.w, (hb.aE a ha).1, (hb.aE a ha).2⟩) (Nat.le_of_ble_eq_true rfl) ?_)
      refine rn_cons (rs_exprM (gm_meth0 0 c_Turn_halt hr (by decide) rfl .pin isO_turn ⟨b, u.eff b a.on a.off a.to, rfl, rfl, rfl, rfl⟩) (Nat.le_of_ble_eq_true rfl) ?_)
      exact rn_nil (rn_nil ⟨_, _, _, _, rfl, True.intro⟩)
    · rw [if_neg q]
      refine rn_cons (rs_if (k := false) (goT_is (gocT (gx_in (k := decide (a.n ∈ as)) (go_var 2) (go_var 1) (by exact ⟨as, rfl, rfl⟩))) (decide_eq_false q)) (fun h => nomatch h) fun _ => ?_)
      exact rn_nil (rn_nil ⟨_, _, _, _, rfl, True.intro⟩)
  rintro _ ⟨s2, s3, s4, s5, rfl, _⟩
  unfold rspD
  rw [List.length_map, List.take_length]
  exact rn_nil ⟨rfl, fun _ _ => Dp.non⟩
theorem ok_Turn_wait (df : Mtd K "Turn" "wait" "Turn.wait" s_Turn_wait ["self"]) (c_Turn_effect : CalM P w K mg base CX0 "Turn" "effect" ["self", "on", "off", "to"] 2 (spW K S_Turn_effect)) (c_Turn_halt : CalM P w K mg base CX0 "Turn" "halt" ["self"] 1 (spW K S_Turn_halt))  (x_LETTERS : GlobD K mg "LETTERS" (.str letS)) (T_InvalidBook : Ec0 K mg "InvalidBook") (x_MODE : GlobD K mg "MODE" (.str "mode")) (x_COMMAND : GlobD K mg "COMMAND" (.str "command")) (x_ALARM : GlobD K mg "ALARM" (.str "alarm")) (x_ROW : GlobD K mg "ROW" (.str "row")) (O_Book : ClsOk K "Book" ["_holds", "_barred", "_parts", "_quiet"]) (O_Step : ClsOk K "Step" ["standing", "done", "refused", "moments"]) (O_Gears : ClsOk K "Gears" ["home", "patience", "turns", "effects", "responses", "series"]) (O_Turn : ClsOk K "Turn" ["gears", "mode", "lot", "row", "place", "left", "silence", "done", "refused", "moments"]) (bt : Bt mg) : CalM P w K mg base CX0 "Turn" "wait" ["self"] 3 (spW K S_Turn_wait) := by
  refine mW_ok df sc_Turn_wait ?_ (by decide) ?_
  · rintro _ _ _ _ ⟨b, t, rfl, rfl, rfl, rfl, _⟩
    rfl
  rintro _ _ _ _ ⟨b, t, rfl, rfl, rfl, rfl, hBd⟩ v0 f cdv A outer s H E hr J hJ
  have hb := hBd.1
  obtain ⟨n, hn, ht⟩ := hBd.2
  unfold Tk.wait
  cases hq : b.quiet with
  | none =>
    refine rn_cons (rs_if (k := false) (goT_is (gocT (gc_notN (go_fld O_Gears (Ps := gearPs b) (go_fldW 0 O_Turn rfl (innP (W := turnO b t))) rfl (by decide)))) (by rw [hq]; rfl)) (fun h => nomatch h) fun _ => ?_)
    exact rn_nil (rn_nil ⟨rfl, fun _ _ => Dp.non⟩)
  | some q =>
    dsimp only
    refine rn_cons (rs_if (k := true) (goT_is (gocT (gc_notN (go_fld O_Gears (Ps := gearPs b) (go_fldW 0 O_Turn rfl (innP (W := turnO b t))) rfl (by decide)))) (by rw [hq]; rfl)) (fun _ => ?_) fun h => nomatch h)
    refine rn_cons (rs_augF (g := fun z w => z + w) (Ss := turnSs b t) (Ss' := turnSs b { t with s := t.s + 1 }) 0 O_Turn go_int in_add (fun H Q q => ⟨_, _, rfl, rfl, q⟩) rfl .pin ?_)
    refine rn_is 0 rfl (s' := .ob (pinO (turnO b { t with s := t.s + 1 }) v0)) rfl ?_
    have hB1 : Bd b { t with s := 0 } := ⟨hb, n, hn, tk_s0 hb ht⟩
    by_cases c : t.s + 1 = q
    · rw [if_pos c]
      refine rn_cons (rs_if (k := true) (goT_is (gocT (gc_eqI (go_fldW 0 O_Turn rfl (innP (W := turnO b { t with s := t.s + 1 }))) (go_is (d' := .int q) (go_fld O_Gears (Ps := gearPs b) (go_fldW 0 O_Turn rfl (innP (W := turnO b { t with s := t.s + 1 }))) rfl (by decide)) (by rw [hq]; rfl)))) (decide_eq_true c)) (fun _ => ?_) fun h => nomatch h)
      refine rn_cons (rs_exprM (gm_meth 0 c_Turn_effect hr (by decide) rfl .pin isO_turn (goA_cons (go_is (d' := eL []) (go_tup god_nil) rfl) (goA_cons (go_is (d' := eL []) (go_tup god_nil) rfl) (goA_cons (go_is (d' := eO (some (homeS b))) (go_fld O_Gears (Ps := gearPs b) (go_fldW 0 O_Turn rfl (innP (W := turnO b { t with s := t.s + 1 }))) rfl (by decide)) rfl) goA_nil))) ⟨b, { t with s := t.s + 1 }, [], [], some (homeS b), rfl, rfl, rfl, rfl, ⟨hb, hBd.w.on, hBd.w.dn, hBd.w.rf, hBd.w.mo⟩, turn_nil b, home_ok hb⟩) (Nat.le_of_ble_eq_true rfl) ?_)
      refine rn_cons (rs_exprM (gm_meth0 0 c_Turn_halt hr (by decide) rfl .pin isO_turn ⟨b, ({ t with s := t.s + 1 } : Tk).eff b [] [] (some (homeS b)), rfl, rfl, rfl, rfl⟩) (Nat.le_of_ble_eq_true rfl) ?_)
      refine rn_cons (rs_fld 0 (Ss := turnSs b (({ t with s := t.s + 1 } : Tk).eff b [] [] (some (homeS b))).halt) (Ss' := turnSs b { (({ t with s := t.s + 1 } : Tk).eff b [] [] (some (homeS b))).halt with s := 0 }) O_Turn go_int rfl .pin ?_)
      exact rn_nil (rn_nil (rn_nil ⟨rfl, fun _ _ => Dp.non⟩))
    · rw [if_neg c]
      refine rn_cons (rs_if (k := false) (goT_is (gocT (gc_eqI (go_fldW 0 O_Turn rfl (innP (W := turnO b { t with s := t.s + 1 }))) (go_is (d' := .int q) (go_fld O_Gears (Ps := gearPs b) (go_fldW 0 O_Turn rfl (innP (W := turnO b { t with s := t.s + 1 }))) rfl (by decide)) (by rw [hq]; rfl)))) (decide_eq_false c)) (fun h => nomatch h) fun _ => ?_)
      exact rn_nil (rn_nil (rn_nil ⟨rfl, fun _ _ => Dp.non⟩))
theorem ok_Turn_go_on (df : Mtd K "Turn" "go_on" "Turn.go_on" s_Turn_go_on ["self"]) (c_Turn_command : CalM P w K mg base CX0 "Turn" "command" ["self", "name"] 3 (spW K S_Turn_command)) (c_Turn_begin : CalM P w K mg base CX0 "Turn" "begin" ["self", "row", "place"] 2 (spW K S_Turn_begin))  (x_LETTERS : GlobD K mg "LETTERS" (.str letS)) (T_InvalidBook : Ec0 K mg "InvalidBook") (x_MODE : GlobD K mg "MODE" (.str "mode")) (x_COMMAND : GlobD K mg "COMMAND" (.str "command")) (x_ALARM : GlobD K mg "ALARM" (.str "alarm")) (x_ROW : GlobD K mg "ROW" (.str "row")) (O_Book : ClsOk K "Book" ["_holds", "_barred", "_parts", "_quiet"]) (O_Step : ClsOk K "Step" ["standing", "done", "refused", "moments"]) (O_Gears : ClsOk K "Gears" ["home", "patience", "turns", "effects", "responses", "series"]) (O_Turn : ClsOk K "Turn" ["gears", "mode", "lot", "row", "place", "left", "silence", "done", "refused", "moments"]) (bt : Bt mg) : CalM P w K mg base CX0 "Turn" "go_on" ["self"] 4 (spW K S_Turn_go_on) := by
  refine mW_ok df sc_Turn_go_on ?_ (by decide) ?_
  · rintro _ _ _ _ ⟨b, t, rfl, rfl, rfl, rfl, _⟩
    rfl
  rintro _ _ _ _ ⟨b, t, rfl, rfl, rfl, rfl, hBd⟩ v0 f cdv A outer s H E hr J hJ
  have hb := hBd.1
  obtain ⟨n, hn, ht⟩ := hBd.2
  rcases hrw : t.r with _ | r
  · have eg : t.go b = t := by
      unfold Tk.go
      split
      · rfl
      · rename_i r' h
        rw [hrw] at h
        cases h
    rw [eg]
    refine rn_cons (rs_if (k := false) (goT_is (gocT (gc_notN (go_fldW 0 O_Turn rfl (innP (W := turnO b t))))) (by rw [hrw]; rfl)) (fun h => nomatch h) fun _ => ?_)
    exact rn_nil (rn_nil ⟨rfl, fun _ _ => Dp.non⟩)
  · have eg : t.go b = if t.l - 1 = 0 then ({ t with l := t.l - 1 }.cmd b (cmdOf b (stAt (rowOf b r).st t.p).2)).beg (rowOf b r) (t.p + 1) else { t with l := t.l - 1 } := by
      unfold Tk.go
      split
      · rename_i h
        rw [hrw] at h
        cases h
      · rename_i r' h
        rw [hrw] at h
        cases h
        rfl
    rw [eg]
    have hrow := ht.row
    rw [hrw] at hrow
    obtain ⟨h1, h2, h3, h4, h5, h6, h7⟩ := row_at hb hrow
    obtain ⟨c1, c2⟩ := cmd_has hb h7
    refine rn_cons (rs_if (k := true) (goT_is (gocT (gc_notN (go_fldW 0 O_Turn rfl (innP (W := turnO b t))))) (by rw [hrw]; rfl)) (fun _ => ?_) fun h => nomatch h)
    refine rn_cons (rs_augF (g := fun z w => z - w) (Ss := turnSs b t) (Ss' := turnSs b { t with l := t.l - 1 }) 0 O_Turn go_int in_sub (fun H Q q => ⟨_, _, rfl, rfl, q⟩) rfl .pin ?_)
    refine rn_is 0 rfl (s' := .ob (pinO (turnO b { t with l := t.l - 1 }) v0)) rfl ?_
    by_cases c : t.l - 1 = 0
    · rw [if_pos c]
      refine rn_cons (rs_if (k := true) (goT_is (gocT (gc_eqI (go_fldW 0 O_Turn rfl (innP (W := turnO b { t with l := t.l - 1 }))) go_int)) (decide_eq_true c)) (fun _ => ?_) fun h => nomatch h)
      refine rn_cons (rs_par 1 2 (go_is (d' := .str (rowOf b r).n) (go_fldW 0 O_Turn rfl (innP (W := turnO b { t with l := t.l - 1 }))) (by show eO t.r = _; rw [hrw, h2]; rfl)) (go_fldW 0 O_Turn rfl (innP (W := turnO b { t with l := t.l - 1 }))) ?_ sc_Turn_go_on.nd rfl (by decide))
      refine rn_cons (rs_exprM (gm_meth 0 c_Turn_command hr (by decide) rfl .pin isO_turn (goA_cons (go_is (d' := .str (cmdOf b (stAt (rowOf b r).st t.p).2).n) (gx_ix (d := .str (stAt (rowOf b r).st t.p).2) (gx_ix (d := eSt (stAt (rowOf b r).st t.p)) (go_dctIx (.of hr) (go_fld O_Gears (Ps := gearPs b) (go_fldW 0 O_Turn rfl (innP (W := turnO b { t with l := t.l - 1 }))) rfl (by decide)) (go_var 1) (get_ser hb h1)) (go_var 2) (by exact st_at ⟨h3, h4⟩)) go_int (by exact rfl)) (congrArg PyData.str c2.symm)) goA_nil) ⟨b, { t with l := t.l - 1 }, cmdOf b (stAt (rowOf b r).st t.p).2, rfl, rfl, rfl, rfl, c1, ⟨hb, hBd.w.on, hBd.w.dn, hBd.w.rf, hBd.w.mo⟩⟩) (Nat.le_of_ble_eq_true rfl) ?_)
      refine rn_cons (rs_exprM (gm_meth 0 c_Turn_begin hr (by decide) rfl .pin isO_turn (goA_cons (go_var 1) (goA_cons (gx_bin (go_var 2) go_int) goA_nil)) ⟨b, ({ t with l := t.l - 1 } : Tk).cmd b (cmdOf b (stAt (rowOf b r).st t.p).2), rowOf b r, t.p + 1, rfl, rfl, rfl, rfl, hb, h1, by omega, by omega⟩) (Nat.le_of_ble_eq_true rfl) ?_)
      exact rn_nil (rn_nil (rn_nil ⟨rfl, fun _ _ => Dp.non⟩))
    · rw [if_neg c]
      refine rn_cons (rs_if (k := false) (goT_is (gocT (gc_eqI (go_fldW 0 O_Turn rfl (innP (W := turnO b { t with l := t.l - 1 }))) go_int)) (decide_eq_false c)) (fun h => nomatch h) fun _ => ?_)
      exact rn_nil (rn_nil (rn_nil ⟨rfl, fun _ _ => Dp.non⟩))
theorem ok_Turn_obey (df : Mtd K "Turn" "obey" "Turn.obey" s_Turn_obey ["self", "order"]) (c_Turn_command : CalM P w K mg base CX0 "Turn" "command" ["self", "name"] 3 (spW K S_Turn_command)) (c_Turn_halt : CalM P w K mg base CX0 "Turn" "halt" ["self"] 1 (spW K S_Turn_halt)) (c_Turn_begin : CalM P w K mg base CX0 "Turn" "begin" ["self", "row", "place"] 2 (spW K S_Turn_begin))  (x_LETTERS : GlobD K mg "LETTERS" (.str letS)) (T_InvalidBook : Ec0 K mg "InvalidBook") (x_MODE : GlobD K mg "MODE" (.str "mode")) (x_COMMAND : GlobD K mg "COMMAND" (.str "command")) (x_ALARM : GlobD K mg "ALARM" (.str "alarm")) (x_ROW : GlobD K mg "ROW" (.str "row")) (O_Book : ClsOk K "Book" ["_holds", "_barred", "_parts", "_quiet"]) (O_Step : ClsOk K "Step" ["standing", "done", "refused", "moments"]) (O_Gears : ClsOk K "Gears" ["home", "patience", "turns", "effects", "responses", "series"]) (O_Turn : ClsOk K "Turn" ["gears", "mode", "lot", "row", "place", "left", "silence", "done", "refused", "moments"]) (bt : Bt mg) : CalM P w K mg base CX0 "Turn" "obey" ["self", "order"] 4 (spW K S_Turn_obey) := by
  refine mW_ok df sc_Turn_obey ?_ (by decide) ?_
  · rintro _ _ _ _ ⟨b, t, o, rfl, rfl, rfl, rfl, _⟩
    rfl
  rintro _ _ _ _ ⟨b, t, o, rfl, rfl, rfl, rfl, hBd, ho, hno⟩ v0 f cdv A outer s H E hr J hJ
  have hb := hBd.1
  obtain ⟨n, hn, ht⟩ := hBd.2
  have hB0 : Bd b { t with s := 0 } := ⟨hb, n, hn, tk_s0 hb ht⟩
  have lrf : (t.rf.map PyData.str).length < sizeLine := ltZ (by rw [List.length_map]; have := ht.rf; omega)
  refine rn_cons (rs_fld 0 (Ss := turnSs b t) (Ss' := turnSs b { t with s := 0 }) O_Turn go_int rfl .pin ?_)
  refine rn_is 0 rfl (s' := .ob (pinO (turnO b { t with s := 0 }) v0)) rfl ?_
  cases o with
  | non => exact absurd rfl hno
  | stop =>
    refine rn_to (Γ' := [.ob (pinO (turnO b { t with s := 0 }) v0), .dat (.tuple [.str "stop"])]) rfl ?_
    refine rn_cons (rs_if (k := false) (goT_is (goW_T (goW_and (k := false) (l := false) (goT_is (gocT (gc_eqS (gx_ix (d := .str "stop") (go_var 1) go_int (by exact rfl)) go_str)) (by decide +kernel)) fun h => (by exact nomatch h))) rfl) (fun h => nomatch h) fun _ => rn_nil ?_)
    refine rn_cons (rs_if (k := true) (goT_is (gocT (gc_eqS (gx_ix (d := .str "stop") (go_var 1) go_int (by exact rfl)) go_str)) (by decide +kernel)) (fun _ => ?_) fun h => nomatch h)
    refine rn_cons (rs_exprM (gm_meth0 0 c_Turn_halt hr (by decide) rfl .pin isO_turn ⟨b, { t with s := 0 }, rfl, rfl, rfl, rfl⟩) (Nat.le_of_ble_eq_true rfl) (rn_nil ?_))
    refine rn_cons (rs_if (k := false) (goT_is (gocT (gc_eqS (gx_ix (d := .str "stop") (go_var 1) go_int (by exact rfl)) go_str)) (by decide +kernel)) (fun h => nomatch h) fun _ => rn_nil ?_)
    exact rn_cons (rs_ret (go_is (goc (gc_eqS (gx_ix (d := .str "stop") (go_var 1) go_int (by exact rfl)) go_str)) (congrArg PyData.bool (by decide +kernel))) rfl)
  | dO x =>
    obtain ⟨c1, c2⟩ := cmd_has hb ho
    refine rn_to (Γ' := [.ob (pinO (turnO b { t with s := 0 }) v0), .dat (.tuple [.str "do", .str x])]) rfl ?_
    refine rn_cons (rs_cut (fun Γ' => Γ' = [.ob (pinO (turnO b (t.obey b (.dO x))) v0), .dat (.tuple [.str "do", .str x])]) (rs_ifM (i := 0) (W := pinO (turnO b (({ t with s := 0 } : Tk).cmd b (cmdOf b x))) v0) (k := !decide (({ t with s := 0 } : Tk).m ∈ (cmdOf b x).ms)) (goWM_T (goWM_andP (goT_is (gocT (gc_eqS (gx_ix (d := .str "do") (go_var 1) go_int (by exact rfl)) go_str)) (by decide +kernel)) (goWM_and1 (goTM_not (goTM_val (gm_meth 0 c_Turn_command hr (by decide) rfl .pin isO_turn (goA_cons (go_is (d' := .str (cmdOf b x).n) (gx_ix (d := .str x) (go_var 1) go_int (by exact rfl)) (congrArg PyData.str c2.symm)) goA_nil) ⟨b, { t with s := 0 }, cmdOf b x, rfl, rfl, rfl, rfl, c1, hB0.w⟩)))))) (Nat.le_of_ble_eq_true rfl) (fun h => ?_) fun h => ?_) ?_)
    · rw [Bool.not_eq_true', decide_eq_false_iff_not] at h
      have e1 : ({ t with s := 0 } : Tk).cmd b (cmdOf b x) = { t with s := 0 } := if_neg h
      have e2 : t.obey b (.dO x) = { ({ t with s := 0 } : Tk) with rf := t.rf ++ [x] } := if_neg h
      rw [e1, e2]
      refine rn_cons (rs_appL (gol_rf 0 O_Turn rfl) (gx_ix (d := .str x) (go_var 1) go_int (by exact rfl)) lrf ?_ (Nat.le_of_ble_eq_true rfl))
      refine rn_is 0 rfl (s' := .ob (pinO (turnO b { ({ t with s := 0 } : Tk) with rf := t.rf ++ [x] }) v0)) (by
        show Sl.ob (pinO (insO "Turn" _) v0) = Sl.ob (pinO (insO "Turn" (turnSs b { ({ t with s := 0 } : Tk) with rf := t.rf ++ [x] })) v0)
        unfold turnSs
        dsimp only
        rw [List.map_append]
        rfl) ?_
      exact rn_nil rfl
    · rw [Bool.not_eq_false', decide_eq_true_iff] at h
      have e2 : t.obey b (.dO x) = ({ t with s := 0 } : Tk).cmd b (cmdOf b x) := if_pos h
      rw [e2]
      exact rn_nil rfl
    rintro _ rfl
    refine rn_cons (rs_if (k := false) (goT_is (gocT (gc_eqS (gx_ix (d := .str "do") (go_var 1) go_int (by exact rfl)) go_str)) (by decide +kernel)) (fun h => nomatch h) fun _ => rn_nil ?_)
    refine rn_cons (rs_if (k := false) (goT_is (gocT (gc_eqS (gx_ix (d := .str "do") (go_var 1) go_int (by exact rfl)) go_str)) (by decide +kernel)) (fun h => nomatch h) fun _ => rn_nil ?_)
    exact rn_cons (rs_ret (go_is (goc (gc_eqS (gx_ix (d := .str "do") (go_var 1) go_int (by exact rfl)) go_str)) (congrArg PyData.bool (show decide (("do" : Str) = "run") = false by decide +kernel))) rfl)
  | run x =>
    obtain ⟨c1, c2⟩ := row_has hb ho
    refine rn_to (Γ' := [.ob (pinO (turnO b { t with s := 0 }) v0), .dat (.tuple [.str "run", .str x])]) rfl ?_
    refine rn_cons (rs_if (k := false) (goT_is (goW_T (goW_and (k := false) (l := false) (goT_is (gocT (gc_eqS (gx_ix (d := .str "run") (go_var 1) go_int (by exact rfl)) go_str)) (by decide +kernel)) fun h => (by exact nomatch h))) rfl) (fun h => nomatch h) fun _ => rn_nil ?_)
    refine rn_cons (rs_if (k := false) (goT_is (gocT (gc_eqS (gx_ix (d := .str "run") (go_var 1) go_int (by exact rfl)) go_str)) (by decide +kernel)) (fun h => nomatch h) fun _ => rn_nil ?_)
    refine rn_cons (rs_if (k := true) (goT_is (gocT (gc_eqS (gx_ix (d := .str "run") (go_var 1) go_int (by exact rfl)) go_str)) (by decide +kernel)) (fun _ => ?_) fun h => nomatch h)
    refine rn_cons (rs_exprM (gm_meth 0 c_Turn_begin hr (by decide) rfl .pin isO_turn (goA_cons (go_is (d' := .str (rowOf b x).n) (gx_ix (d := .str x) (go_var 1) go_int (by exact rfl)) (congrArg PyData.str c2.symm)) (goA_cons go_int goA_nil)) ⟨b, { t with s := 0 }, rowOf b x, 0, rfl, rfl, rfl, rfl, hb, c1, Int.le_refl 0, by omega⟩) (Nat.le_of_ble_eq_true rfl) (rn_nil ?_))
    exact rn_cons (rs_ret (go_is (goc (gc_eqS (gx_ix (d := .str "run") (go_var 1) go_int (by exact rfl)) go_str)) (congrArg PyData.bool (show decide (("run" : Str) = "run") = true by decide +kernel))) rfl)
theorem ok_Turn_step (df : Mtd K "Turn" "step" "Turn.step" s_Turn_step ["self"]) (c_Step___init__ : CalC P w K mg base "Step" ["self", "standing", "done", "refused", "moments"] 1 S_Step___init__)  (x_LETTERS : GlobD K mg "LETTERS" (.str letS)) (T_InvalidBook : Ec0 K mg "InvalidBook") (x_MODE : GlobD K mg "MODE" (.str "mode")) (x_COMMAND : GlobD K mg "COMMAND" (.str "command")) (x_ALARM : GlobD K mg "ALARM" (.str "alarm")) (x_ROW : GlobD K mg "ROW" (.str "row")) (O_Book : ClsOk K "Book" ["_holds", "_barred", "_parts", "_quiet"]) (O_Step : ClsOk K "Step" ["standing", "done", "refused", "moments"]) (O_Gears : ClsOk K "Gears" ["home", "patience", "turns", "effects", "responses", "series"]) (O_Turn : ClsOk K "Turn" ["gears", "mode", "lot", "row", "place", "left", "silence", "done", "refused", "moments"]) (bt : Bt mg) : CalM P w K mg base CX0 "Turn" "step" ["self"] 3 (spSU K S_Turn_step) := by
  refine mU_ok df sc_Turn_step ?_ ?_
  · rintro _ _ ⟨b, t, rfl, rfl⟩
    rfl
  rintro _ _ ⟨b, t, rfl, rfl⟩ f cdv A outer s H E hr J hJ
  refine rn_cons (rs_set 1 (go_is (d' := eG t.g) (go_tup (god_cons (go_fld O_Turn (go_var 0) rfl (by decide)) (god_cons (go_fld O_Turn (go_var 0) rfl (by decide)) (god_cons (go_fld O_Turn (go_var 0) rfl (by decide)) (god_cons (go_fld O_Turn (go_var 0) rfl (by decide)) (god_cons (go_fld O_Turn (go_var 0) rfl (by decide)) (god_cons (go_fld O_Turn (go_var 0) rfl (by decide)) god_nil))))))) rfl) ?_ sc_Turn_step.nd)
  refine rn_cons (rs_retU (goU_make c_Step___init__ hr (by decide) (goA_cons (go_var 1) (goA_cons (go_fld O_Turn (go_var 0) rfl (by decide)) (goA_cons (go_fld O_Turn (go_var 0) rfl (by decide)) (goA_cons (go_fld O_Turn (go_var 0) rfl (by decide)) goA_nil)))) ⟨t, rfl, rfl, rfl, rfl⟩))
theorem ok_tick_by (df : Dfn K mg "tick_by" s_tick_by ["gears", "standing", "alarms", "order"]) (c_Turn___init__ : CalC P w K mg base "Turn" ["self", "gears", "standing"] 1 S_Turn___init__) (c_Turn_answer : CalM P w K mg base CX0 "Turn" "answer" ["self", "alarms"] 3 (spW K S_Turn_answer)) (c_Turn_wait : CalM P w K mg base CX0 "Turn" "wait" ["self"] 3 (spW K S_Turn_wait)) (c_Turn_obey : CalM P w K mg base CX0 "Turn" "obey" ["self", "order"] 4 (spW K S_Turn_obey)) (c_Turn_go_on : CalM P w K mg base CX0 "Turn" "go_on" ["self"] 4 (spW K S_Turn_go_on)) (c_Turn_step : CalM P w K mg base CX0 "Turn" "step" ["self"] 3 (spSU K S_Turn_step))  (x_LETTERS : GlobD K mg "LETTERS" (.str letS)) (T_InvalidBook : Ec0 K mg "InvalidBook") (x_MODE : GlobD K mg "MODE" (.str "mode")) (x_COMMAND : GlobD K mg "COMMAND" (.str "command")) (x_ALARM : GlobD K mg "ALARM" (.str "alarm")) (x_ROW : GlobD K mg "ROW" (.str "row")) (O_Book : ClsOk K "Book" ["_holds", "_barred", "_parts", "_quiet"]) (O_Step : ClsOk K "Step" ["standing", "done", "refused", "moments"]) (O_Gears : ClsOk K "Gears" ["home", "patience", "turns", "effects", "responses", "series"]) (O_Turn : ClsOk K "Turn" ["gears", "mode", "lot", "row", "place", "left", "silence", "done", "refused", "moments"]) (bt : Bt mg) : CalU P w K mg base "tick_by" ["gears", "standing", "alarms", "order"] 6 S_tick_by := by
  refine calU_ok df sc_tick_by ?_ ?_
  · rintro _ _ ⟨b, g, as, o, rfl, rfl, _⟩
    rfl
  rintro _ _ ⟨b, g, as, o, rfl, rfl, hb, hg, ho⟩ f cdv A outer s H E hr J hJ
  have h0 := st_tk hg
  have h1 := tk_ans hb h0 as
  refine rn_cons (rs_ownU 4 (goU_make c_Turn___init__ hr (by decide) (goA_cons (go_var 0) (goA_cons (go_var 1) goA_nil)) ⟨b, g, rfl, rfl, rfl, rfl⟩) ?_ sc_tick_by.nd)
  refine rn_cons (rs_exprM (gm_meth 4 c_Turn_answer hr (by decide) rfl .same isO_turn (goA_cons (go_var 2) goA_nil) ⟨b, tk0 g, as, rfl, rfl, rfl, rfl, hb, h0⟩) (Nat.le_of_ble_eq_true rfl) ?_)
  refine rn_cons (rs_set 5 go_bl ?_ sc_tick_by.nd)
  refine rn_to (Γ' := [_, _, _, _, .ob (turnO b ((tk0 g).ans b as)), .dat (.bool false)]) rfl ?_
  have hB : Bd b ((tk0 g).ans b as) := ⟨hb, 0 + 4, by decide, h1⟩
  have fin : ∀ (k : Bool) (t : Tk) (s0 s1 s2 s3 : Sl), (if k = true then t else t.go b) = tickT b g as o → Bd b t → Rn (cxOf CX0 P w K mg base ["gears", "standing", "alarms", "order", "turn", "is_begun"] "tick_by" (defScope s_tick_by) f cdv A outer s H E).nox J { nx := fun _ => False, rt := datP .none, rn := some (stepO (tickT b g as o)) } [s0, s1, s2, s3, .ob (turnO b t), .dat (.bool k)] (List.drop 4 (defBody s_tick_by)) := fun k t s0 s1 s2 s3 e hBt => by
    cases k with
    | true =>
      rw [if_pos rfl] at e
      rw [← e]
      refine rn_cons (rs_if (k := false) (goT_is (goT_not (gx_t (x := .bool true) (go_var 5) (by exact ⟨fun _ h => (nomatch h), fun _ h => (nomatch h)⟩))) rfl) (fun h => nomatch h) fun _ => rn_nil ?_)
      refine rn_iceM 4 rfl (fz_turn b t) (by rw [hJ]; exact List.not_mem_nil) ?_
      refine rn_cons (rs_retU (goU_meth0 c_Turn_step hr (by decide) (go_var 4) rfl ⟨b, t, rfl, rfl⟩))
    | false =>
      rw [if_neg (by decide)] at e
      rw [← e]
      refine rn_cons (rs_if (k := true) (goT_is (goT_not (gx_t (x := .bool false) (go_var 5) (by exact ⟨fun _ h => (nomatch h), fun _ h => (nomatch h)⟩))) rfl) (fun _ => ?_) fun h => nomatch h)
      refine rn_cons (rs_exprM (gm_meth0 4 c_Turn_go_on hr (by decide) rfl .same isO_turn ⟨b, t, rfl, rfl, rfl, rfl, hBt⟩) (Nat.le_of_ble_eq_true rfl) (rn_nil ?_))
      refine rn_iceM 4 rfl (fz_turn b (t.go b)) (by rw [hJ]; exact List.not_mem_nil) ?_
      refine rn_cons (rs_retU (goU_meth0 c_Turn_step hr (by decide) (go_var 4) rfl ⟨b, t.go b, rfl, rfl⟩))
  cases o with
  | non =>
    refine rn_cons (rs_if (k := true) (goT_is (gocT (gc_isN (go_var 3))) rfl) (fun _ => ?_) fun h => nomatch h)
    refine rn_cons (rs_exprM (gm_meth0 4 c_Turn_wait hr (by decide) rfl .same isO_turn ⟨b, (tk0 g).ans b as, rfl, rfl, rfl, rfl, hB⟩) (Nat.le_of_ble_eq_true rfl) (rn_nil ?_))
    exact fin false _ _ _ _ _ rfl ⟨hb, 0 + 4 + 1, by decide, tk_wait hb h1⟩
  | stop =>
    refine rn_cons (rs_if (k := false) (goT_is (gocT (gc_isN (go_var 3))) rfl) (fun h => nomatch h) fun _ => ?_)
    refine rn_cons (rs_setM 5 (gm_meth 4 c_Turn_obey hr (by decide) rfl .same isO_turn (goA_cons (go_var 3) goA_nil) ⟨b, (tk0 g).ans b as, .stop, rfl, rfl, rfl, rfl, hB, ho, fun z => nomatch z⟩) (Nat.le_of_ble_eq_true rfl) (rn_nil ?_) sc_tick_by.nd)
    exact fin false _ _ _ _ _ rfl ⟨hb, 0 + 4 + 1, by decide, tk_obey hb h1 ho⟩
  | dO x =>
    refine rn_cons (rs_if (k := false) (goT_is (gocT (gc_isN (go_var 3))) rfl) (fun h => nomatch h) fun _ => ?_)
    refine rn_cons (rs_setM 5 (gm_meth 4 c_Turn_obey hr (by decide) rfl .same isO_turn (goA_cons (go_var 3) goA_nil) ⟨b, (tk0 g).ans b as, .dO x, rfl, rfl, rfl, rfl, hB, ho, fun z => nomatch z⟩) (Nat.le_of_ble_eq_true rfl) (rn_nil ?_) sc_tick_by.nd)
    exact fin false _ _ _ _ _ rfl ⟨hb, 0 + 4 + 1, by decide, tk_obey hb h1 ho⟩
  | run x =>
    refine rn_cons (rs_if (k := false) (goT_is (gocT (gc_isN (go_var 3))) rfl) (fun h => nomatch h) fun _ => ?_)
    refine rn_cons (rs_setM 5 (gm_meth 4 c_Turn_obey hr (by decide) rfl .same isO_turn (goA_cons (go_var 3) goA_nil) ⟨b, (tk0 g).ans b as, .run x, rfl, rfl, rfl, rfl, hB, ho, fun z => nomatch z⟩) (Nat.le_of_ble_eq_true rfl) (rn_nil ?_) sc_tick_by.nd)
    exact fin true _ _ _ _ _ rfl ⟨hb, 0 + 4 + 1, by decide, tk_obey hb h1 ho⟩
end

/-! ### the book that k24 and its kin draw: names, lots, effects -/
abbrev s__law_names : Stmt := topS 33
theorem sc__law_names : FnScope ["_law_number", "_law_many", "_law_letters", "_law_ahead", "_law_k"] ["_law_number", "_law_many"] (defScope s__law_names) := ⟨rfl, rfl, rfl, by decide +kernel, rfl, by decide +kernel, by decide +kernel⟩
abbrev s__law_lot : Stmt := topS 34
theorem sc__law_lot : FnScope ["_law_names_here", "_law_number", "_law_bits", "_law_k"] ["_law_names_here", "_law_number"] (defScope s__law_lot) := ⟨rfl, rfl, rfl, by decide +kernel, rfl, by decide +kernel, by decide +kernel⟩
abbrev s__law_turned : Stmt := topS 35
theorem sc__law_turned : FnScope ["_law_holds", "_law_on", "_law_off", "_law_hold"] ["_law_holds", "_law_on", "_law_off"] (defScope s__law_turned) := ⟨rfl, rfl, rfl, by decide +kernel, rfl, by decide +kernel, by decide +kernel⟩
abbrev s__law_to : Stmt := topS 36
theorem sc__law_to : FnScope ["_law_modes", "_law_number"] ["_law_modes", "_law_number"] (defScope s__law_to) := ⟨rfl, rfl, rfl, by decide +kernel, rfl, by decide +kernel, by decide +kernel⟩
abbrev s__law_effect : Stmt := topS 37
theorem sc__law_effect : FnScope ["_law_holds", "_law_modes", "_law_number", "_law_other", "_law_on", "_law_off"] ["_law_holds", "_law_modes", "_law_number", "_law_other"] (defScope s__law_effect) := ⟨rfl, rfl, rfl, by decide +kernel, rfl, by decide +kernel, by decide +kernel⟩
def S__law_names : List Mn → Mn → Prop := fun Ps R => ∃ (n m : Int) (k : Nat), Ps = [datP (.int n), datP (.int m)] ∧ R = datP (.list ((nmsF n k).map .str)) ∧ (m = (k : Int) ∧ k ≤ 8)
def S__law_lot : List Mn → Mn → Prop := fun Ps R => ∃ (hs : List Str) (m : Int), Ps = [datP (.list (hs.map .str)), datP (.int m)] ∧ R = datP (eL (lotX hs m)) ∧ hs.length ≤ 6
def S__law_turned : List Mn → Mn → Prop := fun Ps R => ∃ (hs : List Str) (a b : Int), Ps = [datP (.list (hs.map .str)), datP (.int a), datP (.int b)] ∧ R = datP (.tuple [eL (trnX hs a b).1, eL (trnX hs a b).2]) ∧ hs.length ≤ 6
def S__law_to : List Mn → Mn → Prop := fun Ps R => ∃ (ms : List Str) (m : Int), Ps = [datP (.list (ms.map .str)), datP (.int m)] ∧ R = datP (eO (optA ms 3 (m % ((ms.length : Int) + 3)))) ∧ ms.length ≤ 6
def S__law_effect : List Mn → Mn → Prop := fun Ps R => ∃ (hs ms : List Str) (a b : Int), Ps = [datP (.list (hs.map .str)), datP (.list (ms.map .str)), datP (.int a), datP (.int b)] ∧ R = datP (.tuple [eL (effX hs ms a b).1, eL (effX hs ms a b).2.1, eO (effX hs ms a b).2.2]) ∧ (hs.length ≤ 6 ∧ ms.length ≤ 6)
section
variable {P : Program} {w : World} {K : PySem.W.Frag} {mg : Str → Option Value} {base : Heap}
theorem ok__law_names (df : Dfn K mg "_law_names" s__law_names ["_law_number", "_law_many"])   (x_LETTERS : GlobD K mg "LETTERS" (.str letS)) (T_InvalidBook : Ec0 K mg "InvalidBook") (x_MODE : GlobD K mg "MODE" (.str "mode")) (x_COMMAND : GlobD K mg "COMMAND" (.str "command")) (x_ALARM : GlobD K mg "ALARM" (.str "alarm")) (x_ROW : GlobD K mg "ROW" (.str "row")) (O_Book : ClsOk K "Book" ["_holds", "_barred", "_parts", "_quiet"]) (O_Step : ClsOk K "Step" ["standing", "done", "refused", "moments"]) (O_Gears : ClsOk K "Gears" ["home", "patience", "turns", "effects", "responses", "series"]) (O_Turn : ClsOk K "Turn" ["gears", "mode", "lot", "row", "place", "left", "silence", "done", "refused", "moments"]) (bt : Bt mg) : Cal P w K mg base "_law_names" ["_law_number", "_law_many"] 1 S__law_names := by
  refine cal_ok df sc__law_names ?_ ?_
  · rintro _ _ ⟨n, m, k, rfl, rfl, _⟩
    rfl
  rintro _ _ ⟨n, m, k, rfl, rfl, rfl, hk8⟩ f cdv A outer s H E hr J hJ
  have zl : letS.length ≤ sizeLine := leZ (Nat.le_of_ble_eq_true rfl)
  have e1 : n / 36 % 3 = (((n / 36 % 3).toNat : Nat) : Int) := by omega
  have hz0 : (n / 36 % 3).toNat ≤ 2 := by omega
  have hz : (List.range (n / 36 % 3).toNat).length < 1000000 := by rw [List.length_range]; omega
  have hz2 : (List.range k).length < 1000000 := by rw [List.length_range]; omega
  refine rn_cons (rs_set 2 (go_is (d' := .str letS) go_str rfl) ?_ sc__law_names.nd)
  refine rn_cons (rs_set 3 (go_join (z := "") (ys := ahdL n) go_str (go_is (go_of_new (gx_lcM (xs := List.range (n / 36 % 3).toNat) (enc := fun k => .int ((k : Nat) : Int)) (f := fun k => .str (letC ((n + 11 * (k : Int) * (k : Int)) % 36))) (own := [("_law_k", 4)]) rfl sc__law_names.nd (goi_is (gx_rng1 bt.range (go_is (gx_bin (gx_int bt.int (gx_bin (go_var 0) go_int)) go_int) (congrArg PyData.int e1))) (rngNat _)) (fun j x hx => by
    have hx2 : x < (n / 36 % 3).toNat := List.mem_range.mp (List.mem_of_getElem? hx)
    have hx3 : -(2 ^ 64) < (x : Int) ∧ (x : Int) < 2 ^ 64 := by omega
    exact ⟨_, _, fun s H C cl fp => (gog_name 4 sc__law_names.nd), fun s H C cl fp => (go_ixS (go_var 2) (gx_bin (gx_int bt.int (gx_bin (go_var 0) (gx_bin (gx_bin go_int (go_var 4)) (go_var 4)))) go_int) zl (let_at ⟨Int.emod_nonneg _ (by decide), Int.emod_lt_of_pos _ (by decide)⟩)), by simp⟩) (by first | (show blkC ["_law_number", "_law_many", "_law_letters", "_law_ahead", "_law_k"] (defScope s__law_names) _ _ = true; decide +kernel) | (show blkC ["_law_number", "_law_many", "_law_letters", "_law_ahead", "_law_k"] (relS _ (defScope s__law_names)) _ _ = true; decide +kernel) | (show blkC ["_law_number", "_law_many", "_law_letters", "_law_ahead", "_law_k"] (relS _ (relS _ (defScope s__law_names))) _ _ = true; decide +kernel)))) (congrArg PyData.list (List.map_map (f := fun k : Nat => letC ((n + 11 * (k : Int) * (k : Int)) % 36)) (g := PyData.str)).symm)) (by
    unfold ahdL
    rw [List.map_map, List.length_map, List.length_range]
    have : ∀ l : List Nat, (l.map ((fun x : Str => x.length) ∘ fun k : Nat => letC ((n + 11 * (k : Int) * (k : Int)) % 36))).sum = l.length := fun l => by
      induction l with
      | nil => rfl
      | cons a r ih =>
        rw [List.map_cons, List.sum_cons, ih, List.length_cons]
        show 1 + r.length = _
        omega
    have e2 : Str.length (("" : String) : Str) = 0 := rfl
    rw [this, e2, List.length_range]
    omega)) ?_ sc__law_names.nd)
  have ha := ahd_ok n
  have za : (ahd n).length + 1 ≤ sizeLine := leZ (by omega)
  refine rn_to (Γ' := [.dat (.int n), .dat (.int (k : Int)), .dat (.str letS), .dat (.str (ahd n)), .any]) rfl ?_
  refine rn_cons (rs_ret (go_is (go_of_new (gx_lcM (xs := List.range k) (enc := fun k => .int ((k : Nat) : Int)) (f := fun k => .str (ahd n ++ letC ((n + 5 * (k : Int)) % 36))) (own := [("_law_k", 4)]) rfl sc__law_names.nd (goi_is (gx_rng1 bt.range (go_var 1)) (rngNat _)) (fun j x hx => ⟨_, _, fun s H C cl fp => (gog_name 4 sc__law_names.nd), fun s H C cl fp => (gx_bin (go_var 3) (go_ixS (go_var 2) (gx_bin (gx_int bt.int (gx_bin (go_var 0) (gx_bin go_int (go_var 4)))) go_int) zl (let_at ⟨Int.emod_nonneg _ (by decide), Int.emod_lt_of_pos _ (by decide)⟩)) (by exact ⟨rfl, za⟩)), by simp⟩) (by first | (show blkC ["_law_number", "_law_many", "_law_letters", "_law_ahead", "_law_k"] (defScope s__law_names) _ _ = true; decide +kernel) | (show blkC ["_law_number", "_law_many", "_law_letters", "_law_ahead", "_law_k"] (relS _ (defScope s__law_names)) _ _ = true; decide +kernel) | (show blkC ["_law_number", "_law_many", "_law_letters", "_law_ahead", "_law_k"] (relS _ (relS _ (defScope s__law_names))) _ _ = true; decide +kernel)))) (congrArg PyData.list (List.map_map (f := fun k : Nat => ahd n ++ letC ((n + 5 * (k : Int)) % 36)) (g := PyData.str)).symm)))
theorem ok__law_lot (df : Dfn K mg "_law_lot" s__law_lot ["_law_names_here", "_law_number"])   (x_LETTERS : GlobD K mg "LETTERS" (.str letS)) (T_InvalidBook : Ec0 K mg "InvalidBook") (x_MODE : GlobD K mg "MODE" (.str "mode")) (x_COMMAND : GlobD K mg "COMMAND" (.str "command")) (x_ALARM : GlobD K mg "ALARM" (.str "alarm")) (x_ROW : GlobD K mg "ROW" (.str "row")) (O_Book : ClsOk K "Book" ["_holds", "_barred", "_parts", "_quiet"]) (O_Step : ClsOk K "Step" ["standing", "done", "refused", "moments"]) (O_Gears : ClsOk K "Gears" ["home", "patience", "turns", "effects", "responses", "series"]) (O_Turn : ClsOk K "Turn" ["gears", "mode", "lot", "row", "place", "left", "silence", "done", "refused", "moments"]) (bt : Bt mg) : Cal P w K mg base "_law_lot" ["_law_names_here", "_law_number"] 1 S__law_lot := by
  refine cal_ok df sc__law_lot ?_ ?_
  · rintro _ _ ⟨hs, m, rfl, rfl, _⟩
    rfl
  rintro _ _ ⟨hs, m, rfl, rfl, hl⟩ f cdv A outer s H E hr J hJ
  have hlen : (((hs.map PyData.str).length : Nat) : Int) = ((hs.length : Nat) : Int) := by rw [List.length_map]
  have hz : (List.range hs.length).length < 1000000 := by rw [List.length_range]; omega
  refine rn_cons (rs_set 2 (go_is (d' := .tuple [.int 1, .int 2, .int 4, .int 8, .int 16, .int 32]) (go_tup (god_cons go_int (god_cons go_int (god_cons go_int (god_cons go_int (god_cons go_int (god_cons go_int god_nil))))))) rfl) ?_ sc__law_lot.nd)
  have hbl := lotB_len hs m
  refine rn_cons (rs_ret (go_is (gx_tuple bt.tuple (go_of_new (gx_sort (xs := lotB hs m) (.of hr) bt.sorted (go_is (go_of_new (gx_lc (xs := List.range hs.length) (enc := fun k => .int ((k : Nat) : Int)) (q := fun k => decide (m / 2 ^ k % 2 = 1)) (f := fun k => .str (nth hs k)) (own := [("_law_k", 3)]) rfl sc__law_lot.nd (goi_is (gx_rng1 bt.range (go_is (gx_len bt.len (go_var 0)) (congrArg PyData.int hlen))) (rngNat hs.length)) (fun k x hx => by
    have hx2 : x < hs.length := List.mem_range.mp (List.mem_of_getElem? hx)
    have q1 := p2_at6 (k := x) (by omega)
    have q2 := p2_pos (k := x) (by omega)
    have q3 := nth_at hx2
    exact ⟨_, _, fun s H C cl fp => (gog_name 3 sc__law_lot.nd), fun s H C cl fp => goTs_one (gocT (gx_c (.of hr) (gx_bin (gx_int bt.int (gx_bin (go_var 1) (gx_ix (go_var 2) (go_var 3)))) go_int) go_int)), fun hq s H C cl fp => (gx_ix (go_var 0) (go_var 3)), by simp⟩) (by first | (show blkC ["_law_names_here", "_law_number", "_law_bits", "_law_k"] (defScope s__law_lot) _ _ = true; decide +kernel) | (show blkC ["_law_names_here", "_law_number", "_law_bits", "_law_k"] (relS _ (defScope s__law_lot)) _ _ = true; decide +kernel) | (show blkC ["_law_names_here", "_law_number", "_law_bits", "_law_k"] (relS _ (relS _ (defScope s__law_lot))) _ _ = true; decide +kernel)))) (congrArg PyData.list (List.map_map (f := nth hs) (g := PyData.str)).symm)) (by exact rfl) (by omega)))) (show PyData.tuple ((sortS (lotB hs m)).map .str) = eL (lotX hs m) from rfl)))
theorem ok__law_turned (df : Dfn K mg "_law_turned" s__law_turned ["_law_holds", "_law_on", "_law_off"]) (c__law_lot : Cal P w K mg base "_law_lot" ["_law_names_here", "_law_number"] 1 S__law_lot)  (x_LETTERS : GlobD K mg "LETTERS" (.str letS)) (T_InvalidBook : Ec0 K mg "InvalidBook") (x_MODE : GlobD K mg "MODE" (.str "mode")) (x_COMMAND : GlobD K mg "COMMAND" (.str "command")) (x_ALARM : GlobD K mg "ALARM" (.str "alarm")) (x_ROW : GlobD K mg "ROW" (.str "row")) (O_Book : ClsOk K "Book" ["_holds", "_barred", "_parts", "_quiet"]) (O_Step : ClsOk K "Step" ["standing", "done", "refused", "moments"]) (O_Gears : ClsOk K "Gears" ["home", "patience", "turns", "effects", "responses", "series"]) (O_Turn : ClsOk K "Turn" ["gears", "mode", "lot", "row", "place", "left", "silence", "done", "refused", "moments"]) (bt : Bt mg) : Cal P w K mg base "_law_turned" ["_law_holds", "_law_on", "_law_off"] 2 S__law_turned := by
  refine cal_ok df sc__law_turned ?_ ?_
  · rintro _ _ ⟨hs, a, b, rfl, rfl, _⟩
    rfl
  rintro _ _ ⟨hs, a, b, rfl, rfl, hl⟩ f cdv A outer s H E hr J hJ
  have hz : (lotX hs b).length < 1000000 := by have := lotX_len hs b; omega
  refine rn_cons (rs_ret (go_is (go_tup (god_cons (gx_call c__law_lot hr (by decide) (goA_cons (go_var 0) (goA_cons (go_var 1) goA_nil)) ⟨hs, a, rfl, rfl, hl⟩) (god_cons (go_is (gx_tuple bt.tuple (go_of_new (gx_lc (xs := lotX hs b) (enc := .str) (q := fun x => !decide (x ∈ lotX hs a)) (f := .str) (own := [("_law_hold", 3)]) rfl sc__law_turned.nd (goi_tup (gx_call (R := datP (eL (lotX hs b))) c__law_lot hr (by decide) (goA_cons (go_var 0) (goA_cons (go_var 2) goA_nil)) ⟨hs, b, rfl, rfl, hl⟩)) (fun k x hx => ⟨_, _, fun s H C cl fp => (gog_name 3 sc__law_turned.nd), fun s H C cl fp => goTs_one (gocT (gx_nin (k := decide (x ∈ lotX hs a)) (go_var 3) (gx_call (R := datP (eL (lotX hs a))) c__law_lot hr (by decide) (goA_cons (go_var 0) (goA_cons (go_var 1) goA_nil)) ⟨hs, a, rfl, rfl, hl⟩) (by exact ⟨_, rfl, rfl⟩))), fun hq s H C cl fp => (go_var 3), by simp⟩) (by first | (show blkC ["_law_holds", "_law_on", "_law_off", "_law_hold"] (defScope s__law_turned) _ _ = true; decide +kernel) | (show blkC ["_law_holds", "_law_on", "_law_off", "_law_hold"] (relS _ (defScope s__law_turned)) _ _ = true; decide +kernel) | (show blkC ["_law_holds", "_law_on", "_law_off", "_law_hold"] (relS _ (relS _ (defScope s__law_turned))) _ _ = true; decide +kernel))))) (show _ = eL (trnX hs a b).2 from rfl)) god_nil))) rfl))
theorem ok__law_to (df : Dfn K mg "_law_to" s__law_to ["_law_modes", "_law_number"])   (x_LETTERS : GlobD K mg "LETTERS" (.str letS)) (T_InvalidBook : Ec0 K mg "InvalidBook") (x_MODE : GlobD K mg "MODE" (.str "mode")) (x_COMMAND : GlobD K mg "COMMAND" (.str "command")) (x_ALARM : GlobD K mg "ALARM" (.str "alarm")) (x_ROW : GlobD K mg "ROW" (.str "row")) (O_Book : ClsOk K "Book" ["_holds", "_barred", "_parts", "_quiet"]) (O_Step : ClsOk K "Step" ["standing", "done", "refused", "moments"]) (O_Gears : ClsOk K "Gears" ["home", "patience", "turns", "effects", "responses", "series"]) (O_Turn : ClsOk K "Turn" ["gears", "mode", "lot", "row", "place", "left", "silence", "done", "refused", "moments"]) (bt : Bt mg) : Cal P w K mg base "_law_to" ["_law_modes", "_law_number"] 1 S__law_to := by
  refine cal_ok df sc__law_to ?_ ?_
  · rintro _ _ ⟨ms, m, rfl, rfl, _⟩
    rfl
  rintro _ _ ⟨ms, m, rfl, rfl, hl⟩ f cdv A outer s H E hr J hJ
  have lm : (((ms.map PyData.str).length : Nat) : Int) = (ms.length : Int) := by rw [List.length_map]
  have hz1 : (ms.map PyData.str).length + ([PyData.none, PyData.none, PyData.none] : List D).length ≤ sizeLine := leZ (by rw [List.length_map]; show _ + 3 ≤ _; omega)
  have hz2 : 0 < (((ms.map PyData.str).length : Nat) : Int) + 3 := by omega
  have hto : atI (ms.map PyData.str ++ [PyData.none, PyData.none, PyData.none]) (m % ((((ms.map PyData.str).length : Nat) : Int) + 3)) = some (eO (optA ms 3 (m % ((ms.length : Int) + 3)))) := by
    rw [lm]
    exact opt3 ⟨Int.emod_nonneg _ (by omega), Int.emod_lt_of_pos _ (by omega)⟩
  refine rn_cons (rs_ret (gx_ix (d := eO (optA ms 3 (m % ((ms.length : Int) + 3)))) (gx_bin (go_var 0) (go_lst (god_cons go_non (god_cons go_non (god_cons go_non god_nil)))) (by exact ⟨rfl, hz1⟩)) (gx_bin (gx_int bt.int (go_var 1)) (gx_bin (gx_len bt.len (go_var 0)) go_int) (by exact ⟨rfl, hz2⟩)) (by exact hto)))
theorem ok__law_effect (df : Dfn K mg "_law_effect" s__law_effect ["_law_holds", "_law_modes", "_law_number", "_law_other"]) (c__law_turned : Cal P w K mg base "_law_turned" ["_law_holds", "_law_on", "_law_off"] 2 S__law_turned) (c__law_to : Cal P w K mg base "_law_to" ["_law_modes", "_law_number"] 1 S__law_to)  (x_LETTERS : GlobD K mg "LETTERS" (.str letS)) (T_InvalidBook : Ec0 K mg "InvalidBook") (x_MODE : GlobD K mg "MODE" (.str "mode")) (x_COMMAND : GlobD K mg "COMMAND" (.str "command")) (x_ALARM : GlobD K mg "ALARM" (.str "alarm")) (x_ROW : GlobD K mg "ROW" (.str "row")) (O_Book : ClsOk K "Book" ["_holds", "_barred", "_parts", "_quiet"]) (O_Step : ClsOk K "Step" ["standing", "done", "refused", "moments"]) (O_Gears : ClsOk K "Gears" ["home", "patience", "turns", "effects", "responses", "series"]) (O_Turn : ClsOk K "Turn" ["gears", "mode", "lot", "row", "place", "left", "silence", "done", "refused", "moments"]) (bt : Bt mg) : Cal P w K mg base "_law_effect" ["_law_holds", "_law_modes", "_law_number", "_law_other"] 3 S__law_effect := by
  refine cal_ok df sc__law_effect ?_ ?_
  · rintro _ _ ⟨hs, ms, a, b, rfl, rfl, _⟩
    rfl
  rintro _ _ ⟨hs, ms, a, b, rfl, rfl, hl, hm⟩ f cdv A outer s H E hr J hJ
  refine rn_cons (rs_unp (gx_call c__law_turned hr (by decide) (goA_cons (go_var 0) (goA_cons (go_is (d' := .int (onZ a)) (gx_bin (gx_bin (gx_int bt.int (go_var 2)) go_int) (gx_int bt.int (goc (gx_c (.of hr) (gx_bin (gx_int bt.int (gx_bin (go_var 2) go_int)) go_int) go_int)))) rfl) (goA_cons (gx_bin (gx_int bt.int (go_var 3)) go_int) goA_nil))) ⟨hs, onZ a, b % 64, rfl, rfl, hl⟩) (gog_tup rfl (gogs_cons (gog_name 4 sc__law_effect.nd) (gogs_cons (gog_name 5 sc__law_effect.nd) gogs_nil))) ?_)
  refine rn_cons (rs_ret (go_is (go_tup (god_cons (go_var 4) (god_cons (go_var 5) (god_cons (gx_call c__law_to hr (by decide) (goA_cons (go_var 1) (goA_cons (gx_bin (go_var 3) go_int) goA_nil)) ⟨ms, b / 64, rfl, rfl, hm⟩) god_nil)))) rfl))
end

/-! ### the book that k24 and its kin draw -/
abbrev s__law_book : Stmt := topS 38
theorem sc__law_book : FnScope ["_law_numbers_here", "_law_at", "_law_sizes", "_law_holds", "_law_named", "_law_modes", "_law_k", "_law_first", "_law_on", "_law_off", "_law_commands", "_law_name", "_law_place", "_law_some", "_law_alarms", "_law_rows", "_law_steps", "_law_j", "_law_command_here", "_law_barred", "_law_lot_here", "_law_quiet"] ["_law_numbers_here", "_law_at", "_law_sizes"] (defScope s__law_book) := ⟨rfl, rfl, rfl, by decide +kernel, rfl, by decide +kernel, by decide +kernel⟩
def modZ (f : Int) : Int := f % 8 * (1 + 7 * (if decide (f % 5 = 0) then 1 else 0))
structure SzOk (z : List Int) : Prop where
  a : 1 ≤ z.getD 0 0 ∧ z.getD 0 0 ≤ 6
  b : 1 ≤ z.getD 1 0 ∧ z.getD 1 0 ≤ 5
  c : 0 ≤ z.getD 2 0 ∧ z.getD 2 0 ≤ 8
  d : 0 ≤ z.getD 3 0 ∧ z.getD 3 0 ≤ 4
  e : 0 ≤ z.getD 4 0 ∧ z.getD 4 0 ≤ 3
  f : 1 ≤ z.getD 5 0 ∧ z.getD 5 0 ≤ 9
  g : 1 ≤ z.getD 6 0 ∧ z.getD 6 0 ≤ 30
theorem modC {x m : Int} (a : Int) (h : 1 ≤ m) : ∃ k : Nat, 1 + x % m = (k : Int) ∧ 1 ≤ k ∧ (k : Int) ≤ m := by
  have := Int.emod_nonneg x (show m ≠ 0 by omega)
  have := Int.emod_lt_of_pos x (show 0 < m by omega)
  exact ⟨(1 + x % m).toNat, by omega, by omega, by omega⟩
theorem modC1 {x m : Int} (h : 0 ≤ m) : ∃ k : Nat, x % (m + 1) = (k : Int) ∧ (k : Int) ≤ m := by
  have := Int.emod_nonneg x (show m + 1 ≠ 0 by omega)
  have := Int.emod_lt_of_pos x (show 0 < m + 1 by omega)
  exact ⟨(x % (m + 1)).toNat, by omega, by omega⟩
def S__law_book : List Mn → Mn → Prop := fun Ps R => ∃ (n : Nat) (ds : List D) (at_ s0 s1 s2 s3 s4 s5 s6 : Int), Ps = [datP (.list ds), datP (.int at_), datP (.tuple [.int s0, .int s1, .int s2, .int s3, .int s4, .int s5, .int s6])] ∧ R = exP BkOk (fun b => datP (pD b)) ∧ (IntsD Small n ds ∧ 0 ≤ at_ ∧ at_ + 63 ≤ (n : Int) ∧ SzOk [s0, s1, s2, s3, s4, s5, s6])
section
variable {P : Program} {w : World} {K : PySem.W.Frag} {mg : Str → Option Value} {base : Heap}
theorem ok__law_book (df : Dfn K mg "_law_book" s__law_book ["_law_numbers_here", "_law_at", "_law_sizes"]) (c__law_names : Cal P w K mg base "_law_names" ["_law_number", "_law_many"] 1 S__law_names) (c__law_lot : Cal P w K mg base "_law_lot" ["_law_names_here", "_law_number"] 1 S__law_lot) (c__law_turned : Cal P w K mg base "_law_turned" ["_law_holds", "_law_on", "_law_off"] 2 S__law_turned) (c__law_effect : Cal P w K mg base "_law_effect" ["_law_holds", "_law_modes", "_law_number", "_law_other"] 3 S__law_effect)  (x_LETTERS : GlobD K mg "LETTERS" (.str letS)) (T_InvalidBook : Ec0 K mg "InvalidBook") (x_MODE : GlobD K mg "MODE" (.str "mode")) (x_COMMAND : GlobD K mg "COMMAND" (.str "command")) (x_ALARM : GlobD K mg "ALARM" (.str "alarm")) (x_ROW : GlobD K mg "ROW" (.str "row")) (O_Book : ClsOk K "Book" ["_holds", "_barred", "_parts", "_quiet"]) (O_Step : ClsOk K "Step" ["standing", "done", "refused", "moments"]) (O_Gears : ClsOk K "Gears" ["home", "patience", "turns", "effects", "responses", "series"]) (O_Turn : ClsOk K "Turn" ["gears", "mode", "lot", "row", "place", "left", "silence", "done", "refused", "moments"]) (bt : Bt mg) : Cal P w K mg base "_law_book" ["_law_numbers_here", "_law_at", "_law_sizes"] 4 S__law_book := by
  refine cal_ok df sc__law_book ?_ ?_
  · rintro _ _ ⟨n, ds, at_, s0, s1, s2, s3, s4, s5, s6, rfl, rfl, _⟩
    rfl
  rintro _ _ ⟨n, ds, at_, s0, s1, s2, s3, s4, s5, s6', rfl, rfl, hds, ha0', han, hsz⟩ f cdv A outer s H E hr J hJ
  obtain ⟨N, hN⟩ : ∃ N : Nat → Int, ∀ (k : Nat) (i : Int), k ≤ 62 → i = at_ + k → atI ds i = some (.int (N k)) := ⟨fun k => nthI ds (at_ + (k : Nat)), fun k i hk hi => by
    rw [hi]
    exact hds.at ⟨by omega, by omega⟩⟩
  have p0 : 1 ≤ s0 ∧ s0 ≤ 6 := hsz.a
  have p1 : 1 ≤ s1 ∧ s1 ≤ 5 := hsz.b
  have p2 : 0 ≤ s2 ∧ s2 ≤ 8 := hsz.c
  have p3 : 0 ≤ s3 ∧ s3 ≤ 4 := hsz.d
  have p4 : 0 ≤ s4 ∧ s4 ≤ 3 := hsz.e
  have p5 : 1 ≤ s5 ∧ s5 ≤ 9 := hsz.f
  have p6 : 1 ≤ s6' ∧ s6' ≤ 30 := hsz.g
  clear hsz
  have g0 := hN 0 at_ (by omega) (by omega)
  have g1 := hN 1 (at_ + 1) (by omega) (by omega)
  have g2 := hN 2 (at_ + 2) (by omega) (by omega)
  have g8 := hN 8 (at_ + 8) (by omega) (by omega)
  have g9 := hN 9 (at_ + 9) (by omega) (by omega)
  have g34 := hN 34 (at_ + 34) (by omega) (by omega)
  have g43 := hN 43 (at_ + 43) (by omega) (by omega)
  have g44 := hN 44 (at_ + 44) (by omega) (by omega)
  have g57 := hN 57 (at_ + 57) (by omega) (by omega)
  have g61 := hN 61 (at_ + 61) (by omega) (by omega)
  have g62 := hN 62 (at_ + 62) (by omega) (by omega)
  obtain ⟨kh, eh, kh1, kh2⟩ := modC (x := N 1) 0 p0.1
  obtain ⟨km, em, km1, km2⟩ := modC (x := N 1 / 8) 0 p1.1
  obtain ⟨kc, ec, kc2⟩ := modC1 (x := N 9) p2.1
  obtain ⟨ka, ea, ka2⟩ := modC1 (x := N 9 / 16) p3.1
  obtain ⟨kr, er, kr2⟩ := modC1 (x := N 44) p4.1
  refine rn_cons (rs_set 3 (gx_call c__law_names hr (by decide) (goA_cons (gx_ix (go_var 0) (go_var 1)) (goA_cons (go_is (gx_bin go_int (gx_bin (gx_int bt.int (gx_ix (go_var 0) (gx_bin (go_var 1) go_int))) (gx_ix (go_var 2) go_int))) (congrArg PyData.int eh)) goA_nil)) ⟨N 0, _, kh, rfl, rfl, rfl, by omega⟩) ?_ sc__law_book.nd)
  have hh : NmsOk (nmsF (N 0) kh) 1 6 := nmsF_ok _ kh1 (by omega) (by omega)
  revert hh
  generalize nmsF (N 0) kh = hs
  intro hh
  refine rn_cons (rs_set 4 (gx_call c__law_names hr (by decide) (goA_cons (gx_ix (go_var 0) (gx_bin (go_var 1) go_int)) (goA_cons (go_is (gx_bin go_int (gx_bin (gx_int bt.int (gx_bin (gx_ix (go_var 0) (gx_bin (go_var 1) go_int)) go_int)) (gx_ix (go_var 2) go_int))) (congrArg PyData.int em)) goA_nil)) ⟨N 2, _, km, rfl, rfl, rfl, by omega⟩) ?_ sc__law_book.nd)
  have hm : NmsOk (nmsF (N 2) km) 1 5 := nmsF_ok _ km1 (by omega) (by omega)
  revert hm
  generalize nmsF (N 2) km = ms
  intro hm
  have hh6 := hh.hi
  have hm5 := hm.hi
  have lM : (((ms.map PyData.str).length : Nat) : Int) = (ms.length : Int) := by rw [List.length_map]
  refine rn_cons (rs_own 5 (goN_lst god_nil) ?_ sc__law_book.nd)
  refine rn_to (Γ' := [_, _, _, _, _, _, _, _, _, _, _, _, _, _, _, _, _, _, _, _, _, _]) rfl ?_
  refine rn_cons (rs_for (fun k Γ' => ∃ (l : List Md) (s6 s7 s8 s9 : Sl), Γ' = [.dat (.list ds), .dat (.int at_), .dat (.tuple [.int s0, .int s1, .int s2, .int s3, .int s4, .int s5, .int s6']), .dat (.list (hs.map .str)), .dat (.list (ms.map .str)), .own (l.map eM), s6, s7, s8, s9, .any, .any, .any, .any, .any, .any, .any, .any, .any, .any, .any, .any] ∧ l.map Md.n = ms.take k ∧ ∀ x ∈ l, turnB x.on x.off hs = true) (goi_is (gx_rng1 bt.range (go_is (gx_len bt.len (go_var 4)) (congrArg PyData.int lM))) (rngNat ms.length)) ?_ ?_ ?_ rfl)
  · exact ⟨[], _, _, _, _, rfl, rfl, fun _ h => nomatch h⟩
  · rintro k d _ hd ⟨l, t6, t7, t8, t9, rfl, hn, ht⟩
    obtain ⟨hk, rfl⟩ := rngN_get hd
    have q1 := nth_at hk
    have g3 := hN (3 + k) (at_ + 3 + (k : Int)) (by omega) (by omega)
    have hll : l.length ≤ 5 := by
      have := congrArg List.length hn
      rw [List.length_map, List.length_take] at this
      omega
    refine ⟨_, _, (gog_name 6 sc__law_book.nd), ?_⟩
    refine rn_cons (rs_set 7 (gx_int bt.int (gx_ix (go_var 0) (gx_bin (gx_bin (go_var 1) go_int) (go_var 6)))) ?_ sc__law_book.nd)
    refine rn_cons (rs_unp (gx_call c__law_turned hr (by decide) (goA_cons (go_var 3) (goA_cons (go_is (d' := .int (modZ (N (3 + k)))) (gx_bin (gx_bin (gx_int bt.int (go_var 7)) go_int) (gx_bin go_int (gx_bin go_int (gx_int bt.int (goc (gx_c (.of hr) (gx_bin (gx_int bt.int (go_var 7)) go_int) go_int)))))) rfl) (goA_cons (gx_bin (gx_int bt.int (go_var 7)) go_int) goA_nil))) ⟨hs, modZ (N (3 + k)), N (3 + k) / 8, rfl, rfl, hh6⟩) (gog_tup rfl (gogs_cons (gog_name 8 sc__law_book.nd) (gogs_cons (gog_name 9 sc__law_book.nd) gogs_nil))) ?_)
    have hq := trnX_turn hh (modZ (N (3 + k))) (N (3 + k) / 8)
    revert hq
    generalize trnX hs (modZ (N (3 + k))) (N (3 + k) / 8) = q
    intro hq
    refine rn_to (Γ' := [.dat (.list ds), .dat (.int at_), .dat (.tuple [.int s0, .int s1, .int s2, .int s3, .int s4, .int s5, .int s6']), .dat (.list (hs.map .str)), .dat (.list (ms.map .str)), .own (l.map eM), .dat (.int (k : Int)), .dat (.int (N (3 + k))), .dat (eL q.1), .dat (eL q.2), .any, .any, .any, .any, .any, .any, .any, .any, .any, .any, .any, .any]) rfl ?_
    have hz : (l.map eM).length < sizeLine := ltZ (by rw [List.length_map]; omega)
    refine rn_cons (rs_app 5 rfl (go_is (go_tup (god_cons (gx_ix (go_var 4) (go_var 6)) (god_cons (go_var 8) (god_cons (go_var 9) god_nil)))) (show _ = eM ⟨PL.nth ms k, q.1, q.2⟩ from rfl)) hz ?_)
    refine rn_nil ⟨l ++ [⟨PL.nth ms k, q.1, q.2⟩], _, _, _, _, by rw [List.map_append]; rfl, by rw [List.map_append, hn, take_snocS hk]; rfl, fun x hx => ?_⟩
    rcases List.mem_append.mp hx with hx | hx
    · exact ht x hx
    · rw [List.mem_singleton.mp hx]
      exact hq
  rintro _ ⟨l, t6, t7, t8, t9, rfl, hn, ht⟩
  rw [List.length_map, List.length_range, List.take_length] at hn
  refine rn_ice 5 rfl (by rw [hJ]; exact List.not_mem_nil) ?_
  refine rn_cons (rs_own 10 (goN_lst god_nil) ?_ sc__law_book.nd)
  refine rn_to (Γ' := [_, _, _, _, _, _, _, _, _, _, _, _, _, _, _, _, _, _, _, _, _, _]) rfl ?_
  have hcn8 : NmsOk (nmsF (N 8) kc) 0 8 := nmsF_ok _ (Nat.zero_le _) (by omega) (by omega)
  obtain ⟨cn, hcnE⟩ : ∃ cn, nmsF (N 8) kc = cn := ⟨_, rfl⟩
  rw [hcnE] at hcn8
  have hcl8 := hcn8.hi
  refine rn_cons (rs_for (fun k Γ' => ∃ (cs : List Cm) (s6 s7 s8 s9 s11 s12 s13 : Sl), Γ' = [.dat (.list ds), .dat (.int at_), .dat (.tuple [.int s0, .int s1, .int s2, .int s3, .int s4, .int s5, .int s6']), .dat (.list (hs.map .str)), .dat (.list (ms.map .str)), .dat (.list (l.map eM)), s6, s7, s8, s9, .own (cs.map eC), s11, s12, s13, .any, .any, .any, .any, .any, .any, .any, .any] ∧ cs.map Cm.n = cn.take k ∧ (∀ x ∈ cs, lotOfB x.ms ms = true) ∧ ∀ x ∈ cs, turnB x.on x.off hs = true ∧ toOk x.to ms) (goi_list (go_is (gx_call (R := datP (.list ((nmsF (N 8) kc).map .str))) c__law_names hr (by decide) (goA_cons (gx_ix (go_var 0) (gx_bin (go_var 1) go_int)) (goA_cons (go_is (gx_bin (gx_int bt.int (gx_ix (go_var 0) (gx_bin (go_var 1) go_int))) (gx_bin (gx_ix (go_var 2) go_int) go_int)) (congrArg PyData.int ec)) goA_nil)) ⟨N 8, _, kc, rfl, rfl, rfl, by omega⟩) (congrArg (fun z : List Str => PyData.list (z.map .str)) hcnE))) ?_ ?_ ?_ rfl)
  · exact ⟨[], _, _, _, _, _, _, _, rfl, rfl, fun _ h => (nomatch h), fun _ h => (nomatch h)⟩
  · rintro k d _ hd ⟨cs, t6, t7, t8, t9, t11, t12, t13, rfl, hcn, hc1, hc2⟩
    rw [List.getElem?_map] at hd
    obtain ⟨x, hk, rfl⟩ := Option.map_eq_some_iff.mp hd
    have hkl := (List.getElem?_eq_some_iff.mp hk).1
    have hnx : cn.take (k + 1) = cn.take k ++ [x] := by
      rw [List.take_add_one, hk]
      rfl
    have hll : cs.length = k := by
      have := congrArg List.length hcn
      rw [List.length_map, List.length_take] at this
      omega
    have ga := hN (10 + 3 * k) (at_ + 10 + 3 * (k : Int)) (by omega) (by omega)
    have gb := hN (11 + 3 * k) (at_ + 10 + 3 * (k : Int) + 1) (by omega) (by omega)
    have gc := hN (12 + 3 * k) (at_ + 10 + 3 * (k : Int) + 2) (by omega) (by omega)
    refine ⟨_, _, (gog_name 11 sc__law_book.nd), ?_⟩
    refine rn_cons (rs_set 12 (go_is (go_thawI 10 (gx_bin (gx_bin (go_var 1) go_int) (gx_bin go_int (gx_len bt.len (go_var 10))))) (show _ = PyData.int (at_ + 10 + 3 * (k : Int)) by rw [List.length_map, hll])) ?_ sc__law_book.nd)
    refine rn_cons (rs_set 13 (gx_call c__law_lot hr (by decide) (goA_cons (go_var 4) (goA_cons (gx_bin (gx_int bt.int (gx_ix (go_var 0) (go_var 12))) go_int) goA_nil)) ⟨ms, _, rfl, rfl, by omega⟩) ?_ sc__law_book.nd)
    have hlo := lotX_lot hm (N (10 + 3 * k) % 32)
    revert hlo
    generalize lotX ms (N (10 + 3 * k) % 32) = lo
    intro hlo
    have hq := effX_ok (ms := ms) hh (N (11 + 3 * k)) (N (12 + 3 * k))
    have hz : (cs.map eC).length < sizeLine := ltZ (by rw [List.length_map]; omega)
    refine rn_to (Γ' := [.dat (.list ds), .dat (.int at_), .dat (.tuple [.int s0, .int s1, .int s2, .int s3, .int s4, .int s5, .int s6']), .dat (.list (hs.map .str)), .dat (.list (ms.map .str)), .dat (.list (l.map eM)), t6, t7, t8, t9, .own (cs.map eC), .dat (.str x), .dat (.int (at_ + 10 + 3 * (k : Int))), .dat (eL lo), .any, .any, .any, .any, .any, .any, .any, .any]) rfl ?_
    refine rn_cons (rs_app 10 rfl (go_is (gx_bin (go_tup (god_cons (go_var 11) (god_cons (go_var 13) god_nil))) (gx_call c__law_effect hr (by decide) (goA_cons (go_var 3) (goA_cons (go_var 4) (goA_cons (gx_ix (go_var 0) (gx_bin (go_var 12) go_int)) (goA_cons (gx_ix (go_var 0) (gx_bin (go_var 12) go_int)) goA_nil)))) ⟨hs, ms, N (11 + 3 * k), N (12 + 3 * k), rfl, rfl, hh6, by omega⟩) (by exact ⟨rfl, leZ (Nat.le_of_ble_eq_true rfl)⟩)) (show _ = eC ⟨x, lo, (effX hs ms (N (11 + 3 * k)) (N (12 + 3 * k))).1, (effX hs ms (N (11 + 3 * k)) (N (12 + 3 * k))).2.1, (effX hs ms (N (11 + 3 * k)) (N (12 + 3 * k))).2.2⟩ from rfl)) hz ?_)
    revert hq
    generalize effX hs ms (N (11 + 3 * k)) (N (12 + 3 * k)) = q
    intro hq
    refine rn_nil ⟨cs ++ [⟨x, lo, q.1, q.2.1, q.2.2⟩], _, _, _, _, _, _, _, by rw [List.map_append]; rfl, by rw [List.map_append, hcn, hnx]; rfl, fun x hx => ?_, fun x hx => ?_⟩
    · rcases List.mem_append.mp hx with hx | hx
      · exact hc1 x hx
      · rw [List.mem_singleton.mp hx]
        exact hlo
    · rcases List.mem_append.mp hx with hx | hx
      · exact hc2 x hx
      · rw [List.mem_singleton.mp hx]
        exact hq
  rintro _ ⟨cs, t6, t7, t8, t9, t11, t12, t13, rfl, hcn, hc1, hc2⟩
  rw [List.length_map, List.take_length] at hcn
  have hcok : NmsOk (cs.map Cm.n) 0 8 := by
    rw [hcn]
    exact hcn8
  have hcl : cs.length ≤ 8 := by
    have := hcok.hi
    rwa [List.length_map] at this
  refine rn_ice 10 rfl (by rw [hJ]; exact List.not_mem_nil) ?_
  refine rn_cons (rs_own 14 (goN_lst god_nil) ?_ sc__law_book.nd)
  refine rn_to (Γ' := [_, _, _, _, _, _, _, _, _, _, _, _, _, _, _, _, _, _, _, _, _, _]) rfl ?_
  have han8 : NmsOk (nmsF (N 34) ka) 0 4 := nmsF_ok _ (Nat.zero_le _) (by omega) (by omega)
  obtain ⟨an, hanE⟩ : ∃ an, nmsF (N 34) ka = an := ⟨_, rfl⟩
  rw [hanE] at han8
  have hal8 := han8.hi
  refine rn_cons (rs_for (fun k Γ' => ∃ (al : List Al) (s6 s7 s8 s9 s11 s12 s13 : Sl), Γ' = [.dat (.list ds), .dat (.int at_), .dat (.tuple [.int s0, .int s1, .int s2, .int s3, .int s4, .int s5, .int s6']), .dat (.list (hs.map .str)), .dat (.list (ms.map .str)), .dat (.list (l.map eM)), s6, s7, s8, s9, .dat (.list (cs.map eC)), s11, s12, s13, .own (al.map eA), .any, .any, .any, .any, .any, .any, .any] ∧ al.map Al.n = an.take k ∧ ∀ x ∈ al, turnB x.on x.off hs = true ∧ toOk x.to ms) (goi_list (go_is (gx_call (R := datP (.list ((nmsF (N 34) ka).map .str))) c__law_names hr (by decide) (goA_cons (gx_ix (go_var 0) (gx_bin (go_var 1) go_int)) (goA_cons (go_is (gx_bin (gx_int bt.int (gx_bin (gx_ix (go_var 0) (gx_bin (go_var 1) go_int)) go_int)) (gx_bin (gx_ix (go_var 2) go_int) go_int)) (congrArg PyData.int ea)) goA_nil)) ⟨N 34, _, ka, rfl, rfl, rfl, by omega⟩) (congrArg (fun z : List Str => PyData.list (z.map .str)) hanE))) ?_ ?_ ?_ rfl)
  · exact ⟨[], _, _, _, _, _, _, _, rfl, rfl, fun _ h => (nomatch h)⟩
  · rintro k d _ hd ⟨al, t6, t7, t8, t9, t11, t12, t13, rfl, han2, ha2⟩
    rw [List.getElem?_map] at hd
    obtain ⟨x, hk, rfl⟩ := Option.map_eq_some_iff.mp hd
    have hkl := (List.getElem?_eq_some_iff.mp hk).1
    have hnx : an.take (k + 1) = an.take k ++ [x] := by
      rw [List.take_add_one, hk]
      rfl
    have hll : al.length = k := by
      have := congrArg List.length han2
      rw [List.length_map, List.length_take] at this
      omega
    have ga := hN (35 + 2 * k) (at_ + 35 + 2 * (k : Int)) (by omega) (by omega)
    have gb := hN (36 + 2 * k) (at_ + 35 + 2 * (k : Int) + 1) (by omega) (by omega)
    refine ⟨_, _, (gog_name 11 sc__law_book.nd), ?_⟩
    refine rn_cons (rs_set 12 (go_is (go_thawI 14 (gx_bin (gx_bin (go_var 1) go_int) (gx_bin go_int (gx_len bt.len (go_var 14))))) (show _ = PyData.int (at_ + 35 + 2 * (k : Int)) by rw [List.length_map, hll])) ?_ sc__law_book.nd)
    have hq := effX_ok (ms := ms) hh (N (35 + 2 * k)) (N (36 + 2 * k))
    have hz : (al.map eA).length < sizeLine := ltZ (by rw [List.length_map]; omega)
    refine rn_to (Γ' := [.dat (.list ds), .dat (.int at_), .dat (.tuple [.int s0, .int s1, .int s2, .int s3, .int s4, .int s5, .int s6']), .dat (.list (hs.map .str)), .dat (.list (ms.map .str)), .dat (.list (l.map eM)), t6, t7, t8, t9, .dat (.list (cs.map eC)), .dat (.str x), .dat (.int (at_ + 35 + 2 * (k : Int))), t13, .own (al.map eA), .any, .any, .any, .any, .any, .any, .any]) rfl ?_
    refine rn_cons (rs_app 14 rfl (go_is (gx_bin (go_tup (god_cons (go_var 11) god_nil)) (gx_call c__law_effect hr (by decide) (goA_cons (go_var 3) (goA_cons (go_var 4) (goA_cons (gx_ix (go_var 0) (go_var 12)) (goA_cons (gx_ix (go_var 0) (gx_bin (go_var 12) go_int)) goA_nil)))) ⟨hs, ms, N (35 + 2 * k), N (36 + 2 * k), rfl, rfl, hh6, by omega⟩) (by exact ⟨rfl, leZ (Nat.le_of_ble_eq_true rfl)⟩)) (show _ = eA ⟨x, (effX hs ms (N (35 + 2 * k)) (N (36 + 2 * k))).1, (effX hs ms (N (35 + 2 * k)) (N (36 + 2 * k))).2.1, (effX hs ms (N (35 + 2 * k)) (N (36 + 2 * k))).2.2⟩ from rfl)) hz ?_)
    revert hq
    generalize effX hs ms (N (35 + 2 * k)) (N (36 + 2 * k)) = q
    intro hq
    refine rn_nil ⟨al ++ [⟨x, q.1, q.2.1, q.2.2⟩], _, _, _, _, _, _, _, by rw [List.map_append]; rfl, by rw [List.map_append, han2, hnx]; rfl, fun x hx => ?_⟩
    rcases List.mem_append.mp hx with hx | hx
    · exact ha2 x hx
    · rw [List.mem_singleton.mp hx]
      exact hq
  rintro _ ⟨al, t6, t7, t8, t9, t11, t12, t13, rfl, han2, ha2⟩
  rw [List.length_map, List.take_length] at han2
  have haok : NmsOk (al.map Al.n) 0 4 := by
    rw [han2]
    exact han8
  refine rn_ice 14 rfl (by rw [hJ]; exact List.not_mem_nil) ?_
  refine rn_cons (rs_own 15 (goN_lst god_nil) ?_ sc__law_book.nd)
  refine rn_to (Γ' := [_, _, _, _, _, _, _, _, _, _, _, _, _, _, _, _, _, _, _, _, _, _]) rfl ?_
  have hrn8 : NmsOk (nmsF (N 43) kr) 0 3 := nmsF_ok _ (Nat.zero_le _) (by omega) (by omega)
  obtain ⟨rn, hrnE⟩ : ∃ rn, nmsF (N 43) kr = rn := ⟨_, rfl⟩
  rw [hrnE] at hrn8
  have hrl8 := hrn8.hi
  have lc : (((cs.map eC).length : Nat) : Int) = (cs.length : Int) := by rw [List.length_map]
  refine rn_cons (rs_cut (fun Γ' => ∃ (rs : List Rw) (s6 s7 s8 s9 s11 s12 s13 s16 s17 s18 : Sl), Γ' = [.dat (.list ds), .dat (.int at_), .dat (.tuple [.int s0, .int s1, .int s2, .int s3, .int s4, .int s5, .int s6']), .dat (.list (hs.map .str)), .dat (.list (ms.map .str)), .dat (.list (l.map eM)), s6, s7, s8, s9, .dat (.list (cs.map eC)), s11, s12, s13, .dat (.list (al.map eA)), .own (rs.map eR), s16, s17, s18, .any, .any, .any] ∧ NmsOk (rs.map Rw.n) 0 3 ∧ ∀ r ∈ rs, 1 ≤ r.st.length ∧ r.st.length ≤ 4 ∧ ∀ s ∈ r.st, 1 ≤ s.1 ∧ s.1 ≤ 9 ∧ s.2 ∈ cs.map Cm.n) (rs_if (k := decide (0 < cs.length)) (goT_is (gocT (gx_c (.of hr) (gx_len bt.len (go_var 10)) go_int)) (by rw [lc]; exact decide_eq_decide.mpr (by omega))) (fun h => ?_) fun h => rn_nil ⟨[], _, _, _, _, _, _, _, _, _, _, rfl, ⟨Nat.zero_le _, Nat.zero_le _, fun _ h => (nomatch h), List.nodup_nil⟩, fun _ h => (nomatch h)⟩) ?_)
  · skip
    have h := of_decide_eq_true h
    refine rn_cons (rs_for (fun k Γ' => ∃ (rs : List Rw) (s6 s7 s8 s9 s11 s12 s13 s16 s17 s18 : Sl), Γ' = [.dat (.list ds), .dat (.int at_), .dat (.tuple [.int s0, .int s1, .int s2, .int s3, .int s4, .int s5, .int s6']), .dat (.list (hs.map .str)), .dat (.list (ms.map .str)), .dat (.list (l.map eM)), s6, s7, s8, s9, .dat (.list (cs.map eC)), s11, s12, s13, .dat (.list (al.map eA)), .own (rs.map eR), s16, s17, s18, .any, .any, .any] ∧ rs.map Rw.n = rn.take k ∧ ∀ r ∈ rs, 1 ≤ r.st.length ∧ r.st.length ≤ 4 ∧ ∀ s ∈ r.st, 1 ≤ s.1 ∧ s.1 ≤ 9 ∧ s.2 ∈ cs.map Cm.n) (goi_list (go_is (gx_call (R := datP (.list ((nmsF (N 43) kr).map .str))) c__law_names hr (by decide) (goA_cons (gx_ix (go_var 0) (gx_bin (go_var 1) go_int)) (goA_cons (go_is (gx_bin (gx_int bt.int (gx_ix (go_var 0) (gx_bin (go_var 1) go_int))) (gx_bin (gx_ix (go_var 2) go_int) go_int)) (congrArg PyData.int er)) goA_nil)) ⟨N 43, _, kr, rfl, rfl, rfl, by omega⟩) (congrArg (fun z : List Str => PyData.list (z.map .str)) hrnE))) ?_ ?_ ?_ rfl)
    · exact ⟨[], _, _, _, _, _, _, _, _, _, _, rfl, rfl, fun _ h => (nomatch h)⟩
    · rintro k d _ hd ⟨rs, t6, t7, t8, t9, t11, t12, t13, t16, t17, t18, rfl, hrn, hrs⟩
      rw [List.getElem?_map] at hd
      obtain ⟨x, hk, rfl⟩ := Option.map_eq_some_iff.mp hd
      have hkl := (List.getElem?_eq_some_iff.mp hk).1
      have hnx : rn.take (k + 1) = rn.take k ++ [x] := by
        rw [List.take_add_one, hk]
        rfl
      have hll : rs.length = k := by
        have := congrArg List.length hrn
        rw [List.length_map, List.length_take] at this
        omega
      have ga := hN (45 + 4 * k) (at_ + 45 + 4 * (k : Int)) (by omega) (by omega)
      refine ⟨_, _, (gog_name 11 sc__law_book.nd), ?_⟩
      refine rn_cons (rs_set 12 (go_is (go_thawI 15 (gx_bin (gx_bin (go_var 1) go_int) (gx_bin go_int (gx_len bt.len (go_var 15))))) (show _ = PyData.int (at_ + 45 + 4 * (k : Int)) by rw [List.length_map, hll])) ?_ sc__law_book.nd)
      refine rn_cons (rs_own 16 (goN_lst god_nil) ?_ sc__law_book.nd)
      refine rn_to (Γ' := [_, _, _, _, _, _, _, _, _, _, _, _, _, _, _, _, _, _, _, _, _, _]) rfl ?_
      refine rn_cons (rs_for (fun m Γ' => ∃ (st : List (Int × Str)) (s17 s18 : Sl), Γ' = [.dat (.list ds), .dat (.int at_), .dat (.tuple [.int s0, .int s1, .int s2, .int s3, .int s4, .int s5, .int s6']), .dat (.list (hs.map .str)), .dat (.list (ms.map .str)), .dat (.list (l.map eM)), t6, t7, t8, t9, .dat (.list (cs.map eC)), .dat (.str x), .dat (.int (at_ + 45 + 4 * (k : Int))), t13, .dat (.list (al.map eA)), .own (rs.map eR), .own (st.map eSt), s17, s18, .any, .any, .any] ∧ st.length = m ∧ ∀ s ∈ st, 1 ≤ s.1 ∧ s.1 ≤ 9 ∧ s.2 ∈ cs.map Cm.n) (gx_rng1 bt.range (gx_bin go_int (gx_bin (gx_bin (gx_int bt.int (gx_ix (go_var 0) (go_var 12))) go_int) go_int))) ?_ ?_ ?_ rfl)
      · exact ⟨[], _, _, rfl, rfl, fun _ h => (nomatch h)⟩
      · rintro m d _ hd ⟨st, t17, t18, rfl, hsl, hst⟩
        obtain ⟨hm2, rfl⟩ := rng_get hd
        have hm3 : m < 4 := by omega
        have gj := hN (45 + 4 * k + m) (at_ + 45 + 4 * (k : Int) + (0 + (m : Int))) (by omega) (by omega)
        refine ⟨_, _, (gog_name 17 sc__law_book.nd), ?_⟩
        obtain ⟨z, hz⟩ : ∃ z, N (45 + 4 * k + m) = z := ⟨_, rfl⟩
        rw [hz] at gj
        have hz0 : 0 ≤ z / 9 % (cs.length : Int) ∧ z / 9 % (cs.length : Int) < (cs.length : Int) := ⟨Int.emod_nonneg _ (by omega), Int.emod_lt_of_pos _ (by omega)⟩
        obtain ⟨v, hv, hvm⟩ : ∃ v : Cm, atI (cs.map eC) (z / 9 % (((cs.map eC).length : Nat) : Int)) = some (eC v) ∧ v ∈ cs := by
          rw [lc]
          refine ⟨cs[(z / 9 % (cs.length : Int)).toNat]'(by omega), atI_get' (k := (z / 9 % (cs.length : Int)).toNat) ?_ (by omega), List.getElem_mem _⟩
          rw [List.getElem?_map, List.getElem?_eq_getElem (by omega)]
          rfl
        have hc0 : 0 < (((cs.map eC).length : Nat) : Int) := by rw [lc]; omega
        have hzz : (st.map eSt).length < sizeLine := ltZ (by rw [List.length_map]; omega)
        refine rn_cons (rs_set 18 (gx_ix (d := .str v.n) (gx_ix (d := eC v) (go_var 10) (gx_bin (gx_int bt.int (gx_bin (gx_ix (go_var 0) (gx_bin (go_var 12) (go_var 17))) go_int)) (gx_len bt.len (go_var 10)) (by exact ⟨rfl, hc0⟩)) (by exact hv)) go_int (by exact rfl)) ?_ sc__law_book.nd)
        have hf1 : 0 ≤ z % s5 ∧ z % s5 < s5 := ⟨Int.emod_nonneg _ (by omega), Int.emod_lt_of_pos _ (by omega)⟩
        refine rn_cons (rs_app 16 rfl (go_is (go_tup (god_cons (gx_bin go_int (gx_bin (gx_int bt.int (gx_ix (go_var 0) (gx_bin (go_var 12) (go_var 17)))) (gx_ix (go_var 2) go_int))) (god_cons (go_var 18) god_nil))) (show _ = eSt (1 + z % s5, v.n) from rfl)) hzz ?_)
        refine rn_nil ⟨st ++ [(1 + z % s5, v.n)], _, _, by rw [List.map_append]; rfl, by rw [List.length_append, hsl]; rfl, fun x hx => ?_⟩
        rcases List.mem_append.mp hx with hx | hx
        · exact hst x hx
        · rw [List.mem_singleton.mp hx]
          refine ⟨?_, ?_, List.mem_map.mpr ⟨v, hvm, rfl⟩⟩
          · show (1 : Int) ≤ 1 + z % s5
            omega
          · show 1 + z % s5 ≤ (9 : Int)
            omega
      rintro _ ⟨st, t17, t18, rfl, hsl, hst⟩
      rw [rng_len] at hsl
      refine rn_ice 16 rfl (by rw [hJ]; exact List.not_mem_nil) ?_
      have hz : (rs.map eR).length < sizeLine := ltZ (by rw [List.length_map]; omega)
      refine rn_cons (rs_app 15 rfl (go_is (go_tup (god_cons (go_var 11) (god_cons (gx_tuple bt.tuple (go_var 16)) god_nil))) (show _ = eR ⟨x, st⟩ from rfl)) hz ?_)
      refine rn_nil ⟨rs ++ [⟨x, st⟩], _, _, _, _, _, _, _, _, _, _, by rw [List.map_append]; rfl, by rw [List.map_append, hnx, hrn]; rfl, fun y hy => ?_⟩
      rcases List.mem_append.mp hy with hy | hy
      · exact hrs y hy
      · rw [List.mem_singleton.mp hy]
        exact ⟨by show 1 ≤ st.length; omega, by show st.length ≤ 4; omega, hst⟩
    rintro _ ⟨rs, t6, t7, t8, t9, t11, t12, t13, t16, t17, t18, rfl, hrn, hrs⟩
    rw [List.length_map, List.take_length] at hrn
    exact rn_nil ⟨rs, _, _, _, _, _, _, _, _, _, _, rfl, by rw [hrn]; exact hrn8, hrs⟩
  rintro _ ⟨rs, t6, t7, t8, t9, t11, t12, t13, t16, t17, t18, rfl, hrn, hrs⟩
  refine rn_ice 15 rfl (by rw [hJ]; exact List.not_mem_nil) ?_
  refine rn_cons (rs_own 19 (goN_lst god_nil) ?_ sc__law_book.nd)
  refine rn_to (Γ' := [_, _, _, _, _, _, _, _, _, _, _, _, _, _, _, _, _, _, _, _, _, _]) rfl ?_
  refine rn_cons (rs_for (fun k Γ' => ∃ (bs : List (List Str)) (s6 s20 : Sl), Γ' = [.dat (.list ds), .dat (.int at_), .dat (.tuple [.int s0, .int s1, .int s2, .int s3, .int s4, .int s5, .int s6']), .dat (.list (hs.map .str)), .dat (.list (ms.map .str)), .dat (.list (l.map eM)), s6, t7, t8, t9, .dat (.list (cs.map eC)), t11, t12, t13, .dat (.list (al.map eA)), .dat (.list (rs.map eR)), t16, t17, t18, .own (bs.map eL), s20, .any] ∧ bs.Nodup ∧ bs.length ≤ k ∧ ∀ x ∈ bs, 2 ≤ x.length ∧ lotOfB x hs = true) (gx_rng1 bt.range (gx_bin (gx_int bt.int (gx_ix (go_var 0) (gx_bin (go_var 1) go_int))) go_int)) ?_ ?_ ?_ rfl)
  · exact ⟨[], _, _, rfl, List.nodup_nil, Nat.le_refl _, fun _ h => (nomatch h)⟩
  · rintro k d _ hd ⟨bs, t6, t20, rfl, hbn, hbl, hb⟩
    obtain ⟨hk, rfl⟩ := rng_get hd
    have hk2 : k < 4 := by omega
    have g58 := hN (58 + k) (at_ + 58 + (0 + (k : Int))) (by omega) (by omega)
    refine ⟨_, _, (gog_name 6 sc__law_book.nd), ?_⟩
    refine rn_cons (rs_set 20 (gx_call c__law_lot hr (by decide) (goA_cons (go_var 3) (goA_cons (gx_ix (go_var 0) (gx_bin (gx_bin (go_var 1) go_int) (go_var 6))) goA_nil)) ⟨hs, _, rfl, rfl, hh6⟩) ?_ sc__law_book.nd)
    have hlo := lotX_lot hh (N (58 + k))
    revert hlo
    generalize lotX hs (N (58 + k)) = lot
    intro hlo
    have hsh : Shp 1 (eL lot) := shp_L fun x hx => nm_ok (lot_nm (lotOf hlo).1 x hx)
    have hshb : SeqAt.shaped (.list (bs.map eL)) = true := (Shp.list (n := 1) fun d hd => by
      obtain ⟨x, hx, rfl⟩ := List.mem_map.mp hd
      exact shp_L fun y hy => nm_ok (lot_nm (lotOf (hb x hx).2).1 y hy)).ok
    have ll : (((lot.map PyData.str).length : Nat) : Int) = (lot.length : Int) := by rw [List.length_map]
    refine rn_to (Γ' := [.dat (.list ds), .dat (.int at_), .dat (.tuple [.int s0, .int s1, .int s2, .int s3, .int s4, .int s5, .int s6']), .dat (.list (hs.map .str)), .dat (.list (ms.map .str)), .dat (.list (l.map eM)), .dat (.int (0 + (k : Int))), t7, t8, t9, .dat (.list (cs.map eC)), t11, t12, t13, .dat (.list (al.map eA)), .dat (.list (rs.map eR)), t16, t17, t18, .own (bs.map eL), .dat (eL lot), .any]) rfl ?_
    refine rn_cons (rs_if (k := decide ((1 : Int) < (lot.length : Int)) && !decide (lot ∈ bs)) (goT_is (goT_thaw 19 (goW_T (goW_and (gocT (gx_c (.of hr) (gx_len bt.len (go_var 20)) go_int)) fun hk => goW_and1 (gocT (gc_notIn (.of hr) (go_var 20) (go_var 19) hsh.ok hshb))))) (by rw [ll, hasD_lots])) (fun h => ?_) fun h => rn_nil (rn_nil ⟨bs, _, _, rfl, hbn, by omega, hb⟩))
    rw [Bool.and_eq_true, decide_eq_true_iff, Bool.not_eq_true', decide_eq_false_iff_not] at h
    have hz : (bs.map eL).length < sizeLine := ltZ (by rw [List.length_map]; omega)
    refine rn_cons (rs_app 19 rfl (go_var 20) hz ?_)
    refine rn_nil (rn_nil ⟨bs ++ [lot], _, _, by rw [List.map_append]; rfl, List.nodup_append.mpr ⟨hbn, List.nodup_cons.mpr ⟨List.not_mem_nil, List.nodup_nil⟩, fun a ha b hb e => h.2 (by rw [List.mem_singleton.mp hb] at e; exact e ▸ ha)⟩, by rw [List.length_append]; exact Nat.add_le_add hbl (Nat.le_refl 1), fun x hx => ?_⟩)
    rcases List.mem_append.mp hx with hx | hx
    · exact hb x hx
    · rw [List.mem_singleton.mp hx]
      exact ⟨by omega, hlo⟩
  rintro _ ⟨bs, t6, t20, rfl, hbn, hbl, hb⟩
  rw [rng_len] at hbl
  refine rn_ice 19 rfl (by rw [hJ]; exact List.not_mem_nil) ?_
  have hf1 : 0 ≤ N 61 % s6' ∧ N 61 % s6' < s6' := ⟨Int.emod_nonneg _ (by omega), Int.emod_lt_of_pos _ (by omega)⟩
  obtain ⟨qu, hq1, hq2⟩ : ∃ q : Option Int, atI [PyData.none, .int (1 + N 61 % s6')] (N 62 % 2) = some (eQ q) ∧ ∀ z, q = some z → 1 ≤ z ∧ z ≤ 30 := by
    rcases (show N 62 % 2 = 0 ∨ N 62 % 2 = 1 by omega) with h | h <;> rw [h]
    · exact ⟨none, rfl, fun z h => nomatch h⟩
    · exact ⟨some (1 + N 61 % s6'), rfl, fun z h => by cases h; omega⟩
  refine rn_cons (rs_set 21 (gx_ix (d := eQ qu) (go_lst (god_cons go_non (god_cons (gx_bin go_int (gx_bin (gx_int bt.int (gx_ix (go_var 0) (gx_bin (go_var 1) go_int))) (gx_ix (go_var 2) go_int))) god_nil))) (gx_bin (gx_int bt.int (gx_ix (go_var 0) (gx_bin (go_var 1) go_int))) go_int) (by exact hq1)) ?_ sc__law_book.nd)
  refine rn_cons (rs_ret (go_ex ⟨hs, l, bs, cs, al, rs, qu⟩ ⟨hh, by show NmsOk (l.map Md.n) 1 5; rw [hn]; exact hm, hcok, haok, hrn, ht, by show ∀ c ∈ cs, lotOfB c.ms (l.map Md.n) = true; rw [hn]; exact hc1, by show ∀ c ∈ cs, turnB c.on c.off hs = true ∧ toOk c.to (l.map Md.n); rw [hn]; exact hc2, by show ∀ c ∈ al, turnB c.on c.off hs = true ∧ toOk c.to (l.map Md.n); rw [hn]; exact ha2, hrs, hq2, by show bs.length ≤ 8; omega, hbn, hb⟩ (go_is (go_tup (god_cons (go_var 3) (god_cons (go_var 5) (god_cons (go_var 19) (god_cons (go_var 10) (god_cons (go_var 14) (god_cons (go_var 15) (god_cons (go_var 21) god_nil)))))))) rfl)))
end
abbrev s__law_made : Stmt := topS 39
theorem sc__law_made : FnScope ["_law_parts", "_law_holds", "_law_modes", "_law_barred", "_law_commands", "_law_alarms", "_law_rows", "_law_quiet"] ["_law_parts"] (defScope s__law_made) := ⟨rfl, rfl, rfl, by decide +kernel, rfl, by decide +kernel, by decide +kernel⟩
def S__law_made : List Mn → Mn → Prop := fun Ps R => ∃ b : Bk, Ps = [datP (pD b)] ∧ R = bookP b ∧ BkOk b
section
variable {P : Program} {w : World} {K : PySem.W.Frag} {mg : Str → Option Value} {base : Heap}
theorem ok__law_made (df : Dfn K mg "_law_made" s__law_made ["_law_parts"]) (c_Book___init__ : CalC P w K mg base "Book" ["self", "holds", "modes", "barred", "commands", "alarms", "rows", "quiet"] 6 S_Book___init__)  (x_LETTERS : GlobD K mg "LETTERS" (.str letS)) (T_InvalidBook : Ec0 K mg "InvalidBook") (x_MODE : GlobD K mg "MODE" (.str "mode")) (x_COMMAND : GlobD K mg "COMMAND" (.str "command")) (x_ALARM : GlobD K mg "ALARM" (.str "alarm")) (x_ROW : GlobD K mg "ROW" (.str "row")) (O_Book : ClsOk K "Book" ["_holds", "_barred", "_parts", "_quiet"]) (O_Step : ClsOk K "Step" ["standing", "done", "refused", "moments"]) (O_Gears : ClsOk K "Gears" ["home", "patience", "turns", "effects", "responses", "series"]) (O_Turn : ClsOk K "Turn" ["gears", "mode", "lot", "row", "place", "left", "silence", "done", "refused", "moments"]) (bt : Bt mg) : Cal P w K mg base "_law_made" ["_law_parts"] 8 S__law_made := by
  refine cal_ok df sc__law_made ?_ ?_
  · rintro _ _ ⟨b, rfl, rfl, _⟩
    rfl
  rintro _ _ ⟨b, rfl, rfl, hb⟩ f cdv A outer s H E hr J hJ
  unfold pD
  refine rn_cons (rs_unp (go_var 0) (gog_tup rfl (gogs_cons (gog_name 1 sc__law_made.nd) (gogs_cons (gog_name 2 sc__law_made.nd) (gogs_cons (gog_name 3 sc__law_made.nd) (gogs_cons (gog_name 4 sc__law_made.nd) (gogs_cons (gog_name 5 sc__law_made.nd) (gogs_cons (gog_name 6 sc__law_made.nd) (gogs_cons (gog_name 7 sc__law_made.nd) gogs_nil)))))))) ?_)
  refine rn_to (Γ' := [_, _, _, _, _, _, _, _]) rfl ?_
  refine rn_cons (rs_ret (goP_of_U (goU_make c_Book___init__ hr (by decide) (goA_cons (go_of_new (gx_list bt.list (go_var 1))) (goA_cons (go_of_new (gx_list bt.list (go_var 2))) (goA_cons (go_of_new (gx_list bt.list (go_var 3))) (goA_cons (go_of_new (gx_list bt.list (go_var 4))) (goA_cons (go_of_new (gx_list bt.list (go_var 5))) (goA_cons (go_of_new (gx_list bt.list (go_var 6))) (goA_cons (go_var 7) goA_nil))))))) ⟨b, rfl, rfl, rfl, rfl, hb⟩) (fz_book b)))
end

/-! ### the law's own tick: effects, commands -/
abbrev s__law_change : Stmt := topS 40
theorem sc__law_change : FnScope ["_law_lot_here", "_law_on", "_law_off", "_law_hold"] ["_law_lot_here", "_law_on", "_law_off"] (defScope s__law_change) := ⟨rfl, rfl, rfl, by decide +kernel, rfl, by decide +kernel, by decide +kernel⟩
abbrev s__law_effected : Stmt := topS 41
theorem sc__law_effected : FnScope ["_law_parts", "_law_mode", "_law_lot_here", "_law_on", "_law_off", "_law_to_here", "_law_name", "_law_turns_on", "_law_turns_off"] ["_law_parts", "_law_mode", "_law_lot_here", "_law_on", "_law_off", "_law_to_here"] (defScope s__law_effected) := ⟨rfl, rfl, rfl, by decide +kernel, rfl, by decide +kernel, by decide +kernel⟩
abbrev s__law_steps_of : Stmt := topS 42
theorem sc__law_steps_of : FnScope ["_law_parts", "_law_row_here", "_law_name", "_law_steps"] ["_law_parts", "_law_row_here"] (defScope s__law_steps_of) := ⟨rfl, rfl, rfl, by decide +kernel, rfl, by decide +kernel, by decide +kernel⟩
abbrev s__law_command : Stmt := topS 43
theorem sc__law_command : FnScope ["_law_parts", "_law_mode", "_law_name", "_law_one", "_law_modes", "_law_on", "_law_off", "_law_to_here"] ["_law_parts", "_law_mode", "_law_name"] (defScope s__law_command) := ⟨rfl, rfl, rfl, by decide +kernel, rfl, by decide +kernel, by decide +kernel⟩
def cmdD (m : Str) (c : Cm) : D := if m ∈ c.ms then .tuple [eL c.on, eL c.off, eO c.to] else .none
def S__law_change : List Mn → Mn → Prop := fun Ps R => ∃ (l on off : List Str), Ps = [datP (eL l), datP (eL on), datP (eL off)] ∧ R = datP (eL (turnF l (on, off))) ∧ (l.length ≤ 20 ∧ on.length ≤ 20)
def S__law_effected : List Mn → Mn → Prop := fun Ps R => ∃ (b : Bk) (m : Str) (l on off : List Str) (to : Option Str), Ps = [datP (pD b), datP (.str m), datP (eL l), datP (eL on), datP (eL off), datP (eO to)] ∧ R = datP (.tuple [.str (to.getD m), eL (effS b l (on, off) to)]) ∧ (BkOk b ∧ lotOfB l b.holds = true ∧ turnB on off b.holds = true ∧ toOk to b.mn)
def S__law_steps_of : List Mn → Mn → Prop := fun Ps R => ∃ (b : Bk) (w : Rw), Ps = [datP (pD b), datP (.str w.n)] ∧ R = datP (.tuple (w.st.map eSt)) ∧ (BkOk b ∧ w ∈ b.rows)
def S__law_command : List Mn → Mn → Prop := fun Ps R => ∃ (b : Bk) (m : Str) (c : Cm), Ps = [datP (pD b), datP (.str m), datP (.str c.n)] ∧ R = datP (cmdD m c) ∧ (BkOk b ∧ c ∈ b.cmds)
theorem shp_to {to : Option Str} {ms : List Str} (h : toOk to ms) (hm : ∀ x ∈ ms, isNmB x = true) : SeqAt.shaped (eO to) = true := by
  cases to with
  | none => rfl
  | some x => exact (shp_nm (hm x (h x rfl)) 1).ok
theorem eqv_to (x : Str) (to : Option Str) : PyData.eqv (.str x) (eO to) = decide (to = some x) := by
  cases to with
  | none => rfl
  | some y =>
    show PyData.eqv (.str x) (.str y) = _
    rw [eqv_str]
    by_cases h : x = y
    · subst h
      simp
    · rw [beq_eq_false_iff_ne.mpr h, decide_eq_false]
      exact fun z => h (Option.some.inj z).symm
section
variable {P : Program} {w : World} {K : PySem.W.Frag} {mg : Str → Option Value} {base : Heap}
theorem ok__law_change (df : Dfn K mg "_law_change" s__law_change ["_law_lot_here", "_law_on", "_law_off"])   (x_LETTERS : GlobD K mg "LETTERS" (.str letS)) (T_InvalidBook : Ec0 K mg "InvalidBook") (x_MODE : GlobD K mg "MODE" (.str "mode")) (x_COMMAND : GlobD K mg "COMMAND" (.str "command")) (x_ALARM : GlobD K mg "ALARM" (.str "alarm")) (x_ROW : GlobD K mg "ROW" (.str "row")) (O_Book : ClsOk K "Book" ["_holds", "_barred", "_parts", "_quiet"]) (O_Step : ClsOk K "Step" ["standing", "done", "refused", "moments"]) (O_Gears : ClsOk K "Gears" ["home", "patience", "turns", "effects", "responses", "series"]) (O_Turn : ClsOk K "Turn" ["gears", "mode", "lot", "row", "place", "left", "silence", "done", "refused", "moments"]) (bt : Bt mg) : Cal P w K mg base "_law_change" ["_law_lot_here", "_law_on", "_law_off"] 1 S__law_change := by
  refine cal_ok df sc__law_change ?_ ?_
  · rintro _ _ ⟨l, on, off, rfl, rfl, _⟩
    rfl
  rintro _ _ ⟨l, on, off, rfl, rfl, hl, hn⟩ f cdv A outer s H E hr J hJ
  have hz1 : l.length < 1000000 := by omega
  have hf := List.length_filter_le (fun x => !decide (x ∈ off) && !decide (x ∈ on)) l
  have hz2 : ((l.filter fun x => !decide (x ∈ off) && !decide (x ∈ on)).map PyData.str).length + (on.map PyData.str).length ≤ sizeLine := leZ (by
    rw [List.length_map, List.length_map]
    omega)
  refine rn_cons (rs_ret (go_is (gx_tuple bt.tuple (go_of_new (gx_sort (xs := appL l (on, off)) (.of hr) bt.sorted (go_is (gx_bin (d := .list ((l.filter fun x => !decide (x ∈ off) && !decide (x ∈ on)).map .str ++ on.map .str)) (go_of_new (gx_lc (xs := l) (enc := .str) (q := fun x => !decide (x ∈ off) && !decide (x ∈ on)) (f := .str) (own := [("_law_hold", 3)]) rfl sc__law_change.nd (goi_tup (go_var 0)) (fun k y hy => ⟨_, _, fun s H C cl fp => (gog_name 3 sc__law_change.nd), fun s H C cl fp => goTs_one (goW_T (goW_and (gocT (gx_nin (k := decide (y ∈ off)) (go_var 3) (go_var 2) (by exact ⟨off, rfl, rfl⟩))) fun hk => goW_and1 (gocT (gx_nin (k := decide (y ∈ on)) (go_var 3) (go_var 1) (by exact ⟨on, rfl, rfl⟩))))), fun hq s H C cl fp => (go_var 3), by simp⟩) (by first | (show blkC ["_law_lot_here", "_law_on", "_law_off", "_law_hold"] (defScope s__law_change) _ _ = true; decide +kernel) | (show blkC ["_law_lot_here", "_law_on", "_law_off", "_law_hold"] (relS _ (defScope s__law_change)) _ _ = true; decide +kernel) | (show blkC ["_law_lot_here", "_law_on", "_law_off", "_law_hold"] (relS _ (relS _ (defScope s__law_change))) _ _ = true; decide +kernel)))) (go_of_new (gx_list bt.list (go_var 1))) (by exact ⟨rfl, hz2⟩)) (congrArg PyData.list (List.map_append (f := PyData.str)).symm)) (by exact rfl) (by
    show (appL l (on, off)).length ≤ 1000000
    unfold appL
    rw [List.length_append]
    dsimp only
    omega)))) rfl))
theorem ok__law_effected (df : Dfn K mg "_law_effected" s__law_effected ["_law_parts", "_law_mode", "_law_lot_here", "_law_on", "_law_off", "_law_to_here"]) (c__law_change : Cal P w K mg base "_law_change" ["_law_lot_here", "_law_on", "_law_off"] 1 S__law_change)  (x_LETTERS : GlobD K mg "LETTERS" (.str letS)) (T_InvalidBook : Ec0 K mg "InvalidBook") (x_MODE : GlobD K mg "MODE" (.str "mode")) (x_COMMAND : GlobD K mg "COMMAND" (.str "command")) (x_ALARM : GlobD K mg "ALARM" (.str "alarm")) (x_ROW : GlobD K mg "ROW" (.str "row")) (O_Book : ClsOk K "Book" ["_holds", "_barred", "_parts", "_quiet"]) (O_Step : ClsOk K "Step" ["standing", "done", "refused", "moments"]) (O_Gears : ClsOk K "Gears" ["home", "patience", "turns", "effects", "responses", "series"]) (O_Turn : ClsOk K "Turn" ["gears", "mode", "lot", "row", "place", "left", "silence", "done", "refused", "moments"]) (bt : Bt mg) : Cal P w K mg base "_law_effected" ["_law_parts", "_law_mode", "_law_lot_here", "_law_on", "_law_off", "_law_to_here"] 2 S__law_effected := by
  refine cal_ok df sc__law_effected ?_ ?_
  · rintro _ _ ⟨b, m, l, on, off, to, rfl, rfl, _⟩
    rfl
  rintro _ _ ⟨b, m, l, on, off, to, rfl, rfl, hb, hl, ht, hto⟩ f cdv A outer s H E hr J hJ
  have n1 := hs_len hb (lot_hs hl)
  have n2 := hs_len hb (turn_hs ht)
  have hl2 := turnF_lot hb hl (t := (on, off)) (turn_hs ht)
  have n3 := hs_len hb (lot_hs hl2)
  refine rn_cons (rs_set 2 (gx_call c__law_change hr (by decide) (goA_cons (go_var 2) (goA_cons (go_var 3) (goA_cons (go_var 4) goA_nil))) ⟨l, on, off, rfl, rfl, by omega, by omega⟩) ?_ sc__law_effected.nd)
  refine rn_to (Γ' := [.dat (pD b), .dat (.str m), .dat (eL (turnF l (on, off))), .dat (eL on), .dat (eL off), .dat (eO to), .any, .any, .any]) rfl ?_
  refine rn_cons (rs_for (fun k Γ' => ∃ s6 s7 s8 : Sl, Γ' = [.dat (pD b), .dat (.str m), .dat (eL (turnF l (on, off))), .dat (eL on), .dat (eL off), .dat (eO to), s6, s7, s8] ∧ ∀ j < k, ∀ v, b.modes[j]? = some v → to ≠ some v.n) (goi_list (gx_ix (d := .list (b.modes.map eM)) (go_var 0) go_int (by exact rfl))) ?_ ?_ ?_ rfl)
  · exact ⟨_, _, _, rfl, fun j hj => absurd hj (Nat.not_lt_zero _)⟩
  · rintro k d _ hd ⟨s6, s7, s8, rfl, hall⟩
    rw [List.getElem?_map] at hd
    obtain ⟨v, hk, rfl⟩ := Option.map_eq_some_iff.mp hd
    have hv := List.mem_of_getElem? hk
    refine ⟨_, _, (gog_tup rfl (gogs_cons (gog_name 6 sc__law_effected.nd) (gogs_cons (gog_name 7 sc__law_effected.nd) (gogs_cons (gog_name 8 sc__law_effected.nd) gogs_nil)))), ?_⟩
    refine rn_to (Γ' := [.dat (pD b), .dat (.str m), .dat (eL (turnF l (on, off))), .dat (eL on), .dat (eL off), .dat (eO to), .dat (.str v.n), .dat (eL v.on), .dat (eL v.off)]) rfl ?_
    refine rn_cons (rs_if (k := decide (to = some v.n)) (goT_is (gocT (gc_eqD (.of hr) (go_var 6) (go_var 5) (shp_nm (hb.m.nm _ (List.mem_map.mpr ⟨v, hv, rfl⟩)) 1).ok (shp_to hto hb.m.nm))) (eqv_to v.n to)) (fun h => ?_) fun h => rn_nil (rn_nil ⟨_, _, _, rfl, fun j hj v' hv' => ?_⟩))
    · have h := of_decide_eq_true h
      subst h
      have hvT := hb.mT v hv
      have n4 := hs_len hb (turn_hs hvT)
      refine rn_cons (rs_ret (go_is (go_tup (god_cons (go_var 6) (god_cons (gx_call c__law_change hr (by decide) (goA_cons (go_var 2) (goA_cons (go_var 7) (goA_cons (go_var 8) goA_nil))) ⟨turnF l (on, off), v.on, v.off, rfl, rfl, by omega, by omega⟩) god_nil))) (by rw [effS_some hb hv (lot_hs hl).nd (turn_hs ht).nd]; rfl)))
    · have h := of_decide_eq_false h
      by_cases e : j = k
      · subst e
        rw [hk] at hv'
        cases hv'
        exact h
      · exact hall j (by omega) v' hv'
  · rintro _ ⟨s6, s7, s8, rfl, hall⟩
    have hn : to = none := by
      cases to with
      | none => rfl
      | some x =>
        obtain ⟨v, hv, e⟩ := List.mem_map.mp (hto x rfl)
        obtain ⟨j, hj⟩ := List.getElem?_of_mem hv
        have hj2 := (List.getElem?_eq_some_iff.mp hj).1
        exact absurd (congrArg some e.symm) (hall j (by rw [List.length_map]; exact hj2) v hj)
    subst hn
    exact rn_cons (rs_ret (go_is (go_tup (god_cons (go_var 1) (god_cons (go_var 2) god_nil))) rfl))
theorem ok__law_steps_of (df : Dfn K mg "_law_steps_of" s__law_steps_of ["_law_parts", "_law_row_here"])   (x_LETTERS : GlobD K mg "LETTERS" (.str letS)) (T_InvalidBook : Ec0 K mg "InvalidBook") (x_MODE : GlobD K mg "MODE" (.str "mode")) (x_COMMAND : GlobD K mg "COMMAND" (.str "command")) (x_ALARM : GlobD K mg "ALARM" (.str "alarm")) (x_ROW : GlobD K mg "ROW" (.str "row")) (O_Book : ClsOk K "Book" ["_holds", "_barred", "_parts", "_quiet"]) (O_Step : ClsOk K "Step" ["standing", "done", "refused", "moments"]) (O_Gears : ClsOk K "Gears" ["home", "patience", "turns", "effects", "responses", "series"]) (O_Turn : ClsOk K "Turn" ["gears", "mode", "lot", "row", "place", "left", "silence", "done", "refused", "moments"]) (bt : Bt mg) : Cal P w K mg base "_law_steps_of" ["_law_parts", "_law_row_here"] 1 S__law_steps_of := by
  refine cal_ok df sc__law_steps_of ?_ ?_
  · rintro _ _ ⟨b, w, rfl, rfl, _⟩
    rfl
  rintro _ _ ⟨b, r, rfl, rfl, hb, hw⟩ f cdv A outer s H E hr J hJ
  have h4 := hb.r.hi
  have hz : b.rows.length < 1000000 := by rw [List.length_map] at h4; omega
  refine rn_cons (rs_ret (gx_ix (d := .tuple (r.st.map eSt)) (go_is (go_of_new (gx_lc (xs := b.rows) (enc := eR) (q := fun v => decide (v.n = r.n)) (f := fun v => .tuple (v.st.map eSt)) (own := [("_law_name", 2), ("_law_steps", 3)]) rfl sc__law_steps_of.nd (goi_list (gx_ix (d := .list (b.rows.map eR)) (go_var 0) go_int (by exact rfl))) (fun k v hv => ⟨_, _, fun s H C cl fp => (gog_tup rfl (gogs_cons (gog_name 2 sc__law_steps_of.nd) (gogs_cons (gog_name 3 sc__law_steps_of.nd) gogs_nil))), fun s H C cl fp => goTs_one (gocT (gx_c (.of hr) (go_var 2) (go_var 1))), fun hq s H C cl fp => (go_var 3), by simp⟩) (by first | (show blkC ["_law_parts", "_law_row_here", "_law_name", "_law_steps"] (defScope s__law_steps_of) _ _ = true; decide +kernel) | (show blkC ["_law_parts", "_law_row_here", "_law_name", "_law_steps"] (relS _ (defScope s__law_steps_of)) _ _ = true; decide +kernel) | (show blkC ["_law_parts", "_law_row_here", "_law_name", "_law_steps"] (relS _ (relS _ (defScope s__law_steps_of))) _ _ = true; decide +kernel)))) (congrArg PyData.list (show _ = [PyData.tuple (r.st.map eSt)] by rw [row_one hb hw]; rfl))) go_int (by exact rfl)))
theorem ok__law_command (df : Dfn K mg "_law_command" s__law_command ["_law_parts", "_law_mode", "_law_name"])   (x_LETTERS : GlobD K mg "LETTERS" (.str letS)) (T_InvalidBook : Ec0 K mg "InvalidBook") (x_MODE : GlobD K mg "MODE" (.str "mode")) (x_COMMAND : GlobD K mg "COMMAND" (.str "command")) (x_ALARM : GlobD K mg "ALARM" (.str "alarm")) (x_ROW : GlobD K mg "ROW" (.str "row")) (O_Book : ClsOk K "Book" ["_holds", "_barred", "_parts", "_quiet"]) (O_Step : ClsOk K "Step" ["standing", "done", "refused", "moments"]) (O_Gears : ClsOk K "Gears" ["home", "patience", "turns", "effects", "responses", "series"]) (O_Turn : ClsOk K "Turn" ["gears", "mode", "lot", "row", "place", "left", "silence", "done", "refused", "moments"]) (bt : Bt mg) : Cal P w K mg base "_law_command" ["_law_parts", "_law_mode", "_law_name"] 1 S__law_command := by
  refine cal_ok df sc__law_command ?_ ?_
  · rintro _ _ ⟨b, m, c, rfl, rfl, _⟩
    rfl
  rintro _ _ ⟨b, m, c, rfl, rfl, hb, hc⟩ f cdv A outer s H E hr J hJ
  refine rn_cons (rs_for (fun k Γ' => ∃ s3 s4 s5 s6 s7 : Sl, Γ' = [.dat (pD b), .dat (.str m), .dat (.str c.n), s3, s4, s5, s6, s7] ∧ ∀ j < k, ∀ v, b.cmds[j]? = some v → ¬ (v.n = c.n ∧ m ∈ v.ms)) (goi_list (gx_ix (d := .list (b.cmds.map eC)) (go_var 0) go_int (by exact rfl))) ?_ ?_ ?_ rfl)
  · exact ⟨_, _, _, _, _, rfl, fun j hj => absurd hj (Nat.not_lt_zero _)⟩
  · rintro k d _ hd ⟨s3, s4, s5, s6, s7, rfl, hall⟩
    rw [List.getElem?_map] at hd
    obtain ⟨v, hk, rfl⟩ := Option.map_eq_some_iff.mp hd
    have hv := List.mem_of_getElem? hk
    refine ⟨_, _, (gog_tup rfl (gogs_cons (gog_name 3 sc__law_command.nd) (gogs_cons (gog_name 4 sc__law_command.nd) (gogs_cons (gog_name 5 sc__law_command.nd) (gogs_cons (gog_name 6 sc__law_command.nd) (gogs_cons (gog_name 7 sc__law_command.nd) gogs_nil)))))), ?_⟩
    refine rn_to (Γ' := [.dat (pD b), .dat (.str m), .dat (.str c.n), .dat (.str v.n), .dat (eL v.ms), .dat (eL v.on), .dat (eL v.off), .dat (eO v.to)]) rfl ?_
    refine rn_cons (rs_if (k := decide (v.n = c.n) && decide (m ∈ v.ms)) (goW_T (goW_and (gocT (gx_c (.of hr) (go_var 3) (go_var 2))) fun hk => goW_and1 (gocT (gx_in (k := decide (m ∈ v.ms)) (go_var 1) (go_var 4) (by exact ⟨_, rfl, rfl⟩))))) (fun h => ?_) fun h => rn_nil (rn_nil ⟨_, _, _, _, _, rfl, fun j hj v' hv' => ?_⟩))
    · rw [Bool.and_eq_true, decide_eq_true_iff, decide_eq_true_iff] at h
      have e : v = c := by
        have h1 := cmd_of hb hv
        have h2 := cmd_of hb hc
        rw [← h1, h.1, h2]
      subst e
      exact rn_cons (rs_ret (go_is (go_tup (god_cons (go_var 5) (god_cons (go_var 6) (god_cons (go_var 7) god_nil)))) (show _ = cmdD m v by unfold cmdD; rw [if_pos h.2])))
    · by_cases e : j = k
      · subst e
        rw [hk] at hv'
        cases hv'
        rintro ⟨h1, h2⟩
        rw [decide_eq_true h1, decide_eq_true h2] at h
        cases h
      · exact hall j (by omega) v' hv'
  · rintro _ ⟨s3, s4, s5, s6, s7, rfl, hall⟩
    obtain ⟨j, hj⟩ := List.getElem?_of_mem hc
    have hj2 := (List.getElem?_eq_some_iff.mp hj).1
    have hn := hall j (by rw [List.length_map]; exact hj2) c hj
    exact rn_cons (rs_ret (go_is go_non (show _ = cmdD m c by unfold cmdD; rw [if_neg fun z => hn ⟨rfl, z⟩])))
end

/-! ### the law's own tick: a running row -/
abbrev s__law_running : Stmt := topS 44
theorem sc__law_running : FnScope ["_law_parts", "_law_mode", "_law_lot_here", "_law_run", "_law_told", "_law_row_here", "_law_place", "_law_left", "_law_steps", "_law_effect_here"] ["_law_parts", "_law_mode", "_law_lot_here", "_law_run", "_law_told"] (defScope s__law_running) := ⟨rfl, rfl, rfl, by decide +kernel, rfl, by decide +kernel, by decide +kernel⟩
abbrev toldL (t : Tk) : List (List D) := [t.dn.map .str, t.rf.map .str, t.mo.map eL]
def eRun (t : Tk) : D := .tuple [eO t.r, .int t.p, .int t.l]
theorem go_more {b : Bk} {t : Tk} {r : Str} (h : t.r = some r) (hl : ¬ t.l = 1) : t.go b = { t with l := t.l - 1 } := by
  unfold Tk.go
  rw [h]
  dsimp only
  rw [if_neg (by omega)]
theorem go_last {b : Bk} {t : Tk} {r : Str} (h : t.r = some r) (hl : t.l = 1) : t.go b = ({ t with l := 0 }.cmd b (cmdOf b (stAt (rowOf b r).st t.p).2)).beg (rowOf b r) (t.p + 1) := by
  unfold Tk.go
  rw [h]
  dsimp only
  rw [if_pos (by omega), show t.l - 1 = 0 by omega]
def S__law_running : Ow → List Mn → Mn → Ow → Prop := fun W Ps R W' => ∃ (b : Bk) (t : Tk) (r : Str), W = tlO (toldL t) ∧ Ps = [datP (pD b), datP (.str t.m), datP (eL t.on), datP (eRun t)] ∧ R = datP (.tuple [.str (t.go b).m, eL (t.go b).on, eRun (t.go b)]) ∧ W' = tlO (toldL (t.go b)) ∧ (t.r = some r ∧ Bd b t)
section
variable {P : Program} {w : World} {K : PySem.W.Frag} {mg : Str → Option Value} {base : Heap}
theorem ok__law_running (df : Dfn K mg "_law_running" s__law_running ["_law_parts", "_law_mode", "_law_lot_here", "_law_run", "_law_told"]) (c__law_effected : Cal P w K mg base "_law_effected" ["_law_parts", "_law_mode", "_law_lot_here", "_law_on", "_law_off", "_law_to_here"] 2 S__law_effected) (c__law_steps_of : Cal P w K mg base "_law_steps_of" ["_law_parts", "_law_row_here"] 1 S__law_steps_of) (c__law_command : Cal P w K mg base "_law_command" ["_law_parts", "_law_mode", "_law_name"] 1 S__law_command)  (x_LETTERS : GlobD K mg "LETTERS" (.str letS)) (T_InvalidBook : Ec0 K mg "InvalidBook") (x_MODE : GlobD K mg "MODE" (.str "mode")) (x_COMMAND : GlobD K mg "COMMAND" (.str "command")) (x_ALARM : GlobD K mg "ALARM" (.str "alarm")) (x_ROW : GlobD K mg "ROW" (.str "row")) (O_Book : ClsOk K "Book" ["_holds", "_barred", "_parts", "_quiet"]) (O_Step : ClsOk K "Step" ["standing", "done", "refused", "moments"]) (O_Gears : ClsOk K "Gears" ["home", "patience", "turns", "effects", "responses", "series"]) (O_Turn : ClsOk K "Turn" ["gears", "mode", "lot", "row", "place", "left", "silence", "done", "refused", "moments"]) (bt : Bt mg) : CalF P w K mg base CX0 "_law_running" ["_law_parts", "_law_mode", "_law_lot_here", "_law_run", "_law_told"] 3 (spWL K S__law_running) := by
  refine fL_ok (n := 4) df sc__law_running ?_ (by decide) (by decide) ?_
  · rintro _ _ _ _ ⟨b, t, r, rfl, rfl, rfl, rfl, _⟩
    rfl
  rintro _ _ _ _ ⟨b, t, r, rfl, rfl, rfl, rfl, hr1, hbd⟩ v0 f cdv A outer s H E hr J hJ
  obtain ⟨hb, n0, hn0, hk⟩ := hbd
  have hrow := hk.row
  rw [hr1] at hrow
  obtain ⟨w1, w2, w3, w4, w5, w6, w7⟩ := row_at hb hrow
  obtain ⟨c1, c2⟩ := cmd_has hb w7
  have hst := st_at ⟨w3, w4⟩
  generalize hW : rowOf b r = rw at *
  generalize hC : cmdOf b (stAt rw.st t.p).2 = c at *
  refine rn_cons (rs_unp (go_is (go_var 3) (show _ = PyData.tuple [.str r, .int t.p, .int t.l] by unfold eRun; rw [hr1]; rfl)) (gog_tup rfl (gogs_cons (gog_name 5 sc__law_running.nd) (gogs_cons (gog_name 6 sc__law_running.nd) (gogs_cons (gog_name 7 sc__law_running.nd) gogs_nil)))) ?_)
  refine rn_to (Γ' := [.dat (pD b), .dat (.str t.m), .dat (eL t.on), .dat (eRun t), .ob (pinO (tlO (toldL t)) v0), .dat (.str r), .dat (.int t.p), .dat (.int t.l), .any, .any]) rfl ?_
  refine rn_cons (rs_if (k := decide (1 < t.l)) (gocT (gx_c (.of hr) (go_var 7) go_int)) (fun h => ?_) fun h => rn_nil ?_)
  · have h := of_decide_eq_true h
    rw [go_more hr1 (by omega)]
    exact rn_cons (rs_ret (go_is (go_tup (god_cons (go_var 1) (god_cons (go_var 2) (god_cons (go_tup (god_cons (go_var 5) (god_cons (go_var 6) (god_cons (gx_bin (go_var 7) go_int) god_nil)))) god_nil)))) (show _ = PyData.tuple [.str t.m, eL t.on, eRun { t with l := t.l - 1 }] by unfold eRun; dsimp only; rw [hr1]; rfl)) rfl)
  have h := of_decide_eq_false h
  have hgo := go_last (b := b) hr1 (by omega)
  rw [hW, hC] at hgo
  refine rn_cons (rs_set 8 (gx_call c__law_steps_of hr (by decide) (goA_cons (go_var 0) (goA_cons (go_is (d' := .str rw.n) (go_var 5) (congrArg PyData.str w2.symm)) goA_nil)) ⟨b, rw, rfl, rfl, hb, w1⟩) ?_ sc__law_running.nd)
  refine rn_cons (rs_set 9 (gx_call c__law_command hr (by decide) (goA_cons (go_var 0) (goA_cons (go_var 1) (goA_cons (go_is (d' := .str c.n) (gx_ix (d := .str (stAt rw.st t.p).2) (gx_ix (d := eSt (stAt rw.st t.p)) (go_var 8) (go_var 6) (by exact hst)) go_int (by exact rfl)) (congrArg PyData.str c2.symm)) goA_nil))) ⟨b, t.m, c, rfl, rfl, hb, c1⟩) ?_ sc__law_running.nd)
  refine rn_to (Γ' := [.dat (pD b), .dat (.str t.m), .dat (eL t.on), .dat (eRun t), .ob (pinO (tlO (toldL t)) v0), .dat (.str r), .dat (.int t.p), .dat (.int t.l), .dat (.tuple (rw.st.map eSt)), .dat (cmdD t.m c)]) rfl ?_
  refine rn_cons (rs_cut (fun Γ' => ∃ (u : Tk) (s9 : Sl), Γ' = [.dat (pD b), .dat (.str u.m), .dat (eL u.on), .dat (eRun t), .ob (pinO (tlO (toldL u)) v0), .dat (.str r), .dat (.int t.p), .dat (.int t.l), .dat (.tuple (rw.st.map eSt)), s9] ∧ t.go b = u.beg rw (t.p + 1)) ?_ ?_)
  · by_cases q : t.m ∈ c.ms
    · have ec : cmdD t.m c = .tuple [eL c.on, eL c.off, eO c.to] := if_pos q
      have eu : Tk.cmd b { t with l := 0 } c = { Tk.eff b { t with l := 0 } c.on c.off c.to with dn := t.dn ++ [c.n] } := if_pos q
      rw [eu] at hgo
      rw [ec]
      have hcE := hb.cE c c1
      refine rs_if (k := true) (goT_is (gocT (gc_notN (go_var 9))) rfl) (fun _ => ?_) (fun h => nomatch h)
      refine rn_cons (rs_unp (gx_call c__law_effected hr (by decide) (goA_cons (go_var 0) (goA_cons (go_var 1) (goA_cons (go_var 2) (goA_cons (gx_ix (d := eL c.on) (go_var 9) go_int (by exact rfl)) (goA_cons (gx_ix (d := eL c.off) (go_var 9) go_int (by exact rfl)) (goA_cons (gx_ix (d := eO c.to) (go_var 9) go_int (by exact rfl)) goA_nil)))))) ⟨b, t.m, t.on, c.on, c.off, c.to, rfl, rfl, hb, hk.on, hcE.1, hcE.2⟩) (gog_tup rfl (gogs_cons (gog_name 1 sc__law_running.nd) (gogs_cons (gog_name 2 sc__law_running.nd) gogs_nil))) ?_)
      have z1 : (t.dn.map PyData.str).length < sizeLine := ltZ (by rw [List.length_map]; have := hk.dn; omega)
      have z2 : (t.mo.map eL).length < sizeLine := ltZ (by rw [List.length_map]; have := hk.mo; omega)
      refine rn_cons (rs_appL (gol_ixTP 4 (k := 0) rfl) (go_is (d' := .str c.n) (gx_ix (d := .str (stAt rw.st t.p).2) (gx_ix (d := eSt (stAt rw.st t.p)) (go_var 8) (go_var 6) (by exact hst)) go_int (by exact rfl)) (congrArg PyData.str c2.symm)) z1 ?_ (Nat.le_of_ble_eq_true rfl))
      refine rn_cons (rs_appL (gol_ixTP 4 (k := 2) rfl) (go_var 2) z2 ?_ (Nat.le_of_ble_eq_true rfl))
      refine rn_nil ⟨{ Tk.eff b { t with l := 0 } c.on c.off c.to with dn := t.dn ++ [c.n] }, .dat (.tuple [eL c.on, eL c.off, eO c.to]), ?_, hgo⟩
      unfold toldL Tk.eff
      dsimp only
      rw [List.map_append, List.map_append]
      rfl
    · have ec : cmdD t.m c = .none := if_neg q
      have eu : Tk.cmd b { t with l := 0 } c = { t with l := 0 } := if_neg q
      rw [eu] at hgo
      rw [ec]
      exact rs_if (k := false) (goT_is (gocT (gc_notN (go_var 9))) rfl) (fun h => nomatch h) (fun _ => rn_nil ⟨{ t with l := 0 }, _, rfl, hgo⟩)
  · rintro _ ⟨u, s9, rfl, e⟩
    rw [e]
    have lst : (((rw.st.map eSt).length : Nat) : Int) = (rw.st.length : Int) := by rw [List.length_map]
    refine rn_cons (rs_if (k := decide (t.p + 1 < (rw.st.length : Int))) (goT_is (gocT (gx_c (.of hr) (gx_bin (go_var 6) go_int) (gx_len bt.len (go_var 8)))) (by rw [lst])) (fun h => ?_) fun h => rn_nil ?_)
    · have h := of_decide_eq_true h
      have hst2 := st_at (st := rw.st) (p := t.p + 1) ⟨by omega, h⟩
      have eb : u.beg rw (t.p + 1) = { u with r := some rw.n, p := t.p + 1, l := (stAt rw.st (t.p + 1)).1 } := if_neg (by omega)
      rw [eb]
      exact rn_cons (rs_ret (go_is (go_tup (god_cons (go_var 1) (god_cons (go_var 2) (god_cons (go_tup (god_cons (go_var 5) (god_cons (gx_bin (go_var 6) go_int) (god_cons (gx_ix (d := .int (stAt rw.st (t.p + 1)).1) (gx_ix (d := eSt (stAt rw.st (t.p + 1))) (go_var 8) (gx_bin (go_var 6) go_int) (by exact hst2)) go_int (by exact rfl)) god_nil)))) god_nil)))) (by rw [← w2]; rfl)) rfl)
    · have h := of_decide_eq_false h
      have eb : u.beg rw (t.p + 1) = u.halt := if_pos (by omega)
      rw [eb]
      exact rn_cons (rs_ret (go_is (go_tup (god_cons (go_var 1) (god_cons (go_var 2) (god_cons (go_tup (god_cons go_non (god_cons go_int (god_cons go_int god_nil)))) god_nil)))) rfl) rfl)
end

/-! ### the law's own tick -/
abbrev s__law_tick : Stmt := topS 45
theorem sc__law_tick : FnScope ["_law_parts", "_law_standing_here", "_law_alarms", "_law_order", "_law_mode", "_law_lot_here", "_law_row_here", "_law_place", "_law_left", "_law_silence", "_law_run", "_law_told", "_law_begun", "_law_name", "_law_on", "_law_off", "_law_to_here", "_law_effect_here"] ["_law_parts", "_law_standing_here", "_law_alarms", "_law_order"] (defScope s__law_tick) := ⟨rfl, rfl, rfl, by decide +kernel, rfl, by decide +kernel, by decide +kernel⟩
theorem beg_s (u : Tk) (w : Rw) (p : Int) : (u.beg w p).s = u.s := by
  unfold Tk.beg
  split <;> rfl
theorem cmd_s (b : Bk) (u : Tk) (c : Cm) : (u.cmd b c).s = u.s := by
  unfold Tk.cmd
  split <;> rfl
theorem go_s (b : Bk) (u : Tk) : (u.go b).s = u.s := by
  unfold Tk.go
  split
  · rfl
  · split
    · rw [beg_s, cmd_s]
    · rfl
theorem ans1_s (b : Bk) (as : List Str) (u : Tk) (a : Al) : (u.ans1 b as a).s = u.s := by
  unfold Tk.ans1
  split <;> rfl
theorem go_none {b : Bk} {u : Tk} (h : u.r = none) : u.go b = u := by
  unfold Tk.go
  rw [h]
def S__law_tick : List Mn → Mn → Prop := fun Ps R => ∃ (b : Bk) (g : Sg) (as : List Str) (o : Oo), Ps = [datP (pD b), datP (eG g), datP (eL as), datP (eOo o)] ∧ R = datP (.tuple (eTk (tickT b g as o))) ∧ (BkOk b ∧ isSt b g = true ∧ OoOk b o)
section
variable {P : Program} {w : World} {K : PySem.W.Frag} {mg : Str → Option Value} {base : Heap}
theorem ok__law_tick (df : Dfn K mg "_law_tick" s__law_tick ["_law_parts", "_law_standing_here", "_law_alarms", "_law_order"]) (c__law_effected : Cal P w K mg base "_law_effected" ["_law_parts", "_law_mode", "_law_lot_here", "_law_on", "_law_off", "_law_to_here"] 2 S__law_effected) (c__law_command : Cal P w K mg base "_law_command" ["_law_parts", "_law_mode", "_law_name"] 1 S__law_command) (c__law_steps_of : Cal P w K mg base "_law_steps_of" ["_law_parts", "_law_row_here"] 1 S__law_steps_of) (c__law_running : CalF P w K mg base CX0 "_law_running" ["_law_parts", "_law_mode", "_law_lot_here", "_law_run", "_law_told"] 3 (spWL K S__law_running))  (x_LETTERS : GlobD K mg "LETTERS" (.str letS)) (T_InvalidBook : Ec0 K mg "InvalidBook") (x_MODE : GlobD K mg "MODE" (.str "mode")) (x_COMMAND : GlobD K mg "COMMAND" (.str "command")) (x_ALARM : GlobD K mg "ALARM" (.str "alarm")) (x_ROW : GlobD K mg "ROW" (.str "row")) (O_Book : ClsOk K "Book" ["_holds", "_barred", "_parts", "_quiet"]) (O_Step : ClsOk K "Step" ["standing", "done", "refused", "moments"]) (O_Gears : ClsOk K "Gears" ["home", "patience", "turns", "effects", "responses", "series"]) (O_Turn : ClsOk K "Turn" ["gears", "mode", "lot", "row", "place", "left", "silence", "done", "refused", "moments"]) (bt : Bt mg) : Cal P w K mg base "_law_tick" ["_law_parts", "_law_standing_here", "_law_alarms", "_law_order"] 4 S__law_tick := by
  refine cal_ok df sc__law_tick ?_ ?_
  · rintro _ _ ⟨b, g, as, o, rfl, rfl, _⟩
    rfl
  rintro _ _ ⟨b, g, as, o, rfl, rfl, hb, hg, ho⟩ f cdv A outer s H E hr J hJ
  have h0 := st_tk hg
  have fin : ∀ (k : Bool) (u : Tk) (s6 s7 s8 s13 s14 s15 s16 s17 : Sl), (if k = true then u else u.go b) = tickT b g as o → Bd b u → Rn (cxOf CX0 P w K mg base ["_law_parts", "_law_standing_here", "_law_alarms", "_law_order", "_law_mode", "_law_lot_here", "_law_row_here", "_law_place", "_law_left", "_law_silence", "_law_run", "_law_told", "_law_begun", "_law_name", "_law_on", "_law_off", "_law_to_here", "_law_effect_here"] "_law_tick" (defScope s__law_tick) f cdv A outer s H E).nox J { nx := fun _ => ∀ K B, (datP (.tuple (eTk (tickT b g as o)))).p K B .non, rt := datP (.tuple (eTk (tickT b g as o))) } [.dat (pD b), .dat (eG g), .dat (eL as), .dat (eOo o), .dat (.str u.m), .dat (eL u.on), s6, s7, s8, .dat (.int u.s), .dat (eRun u), .ob (tlO (toldL u)), .dat (.bool k), s13, s14, s15, s16, s17] (List.drop 8 (defBody s__law_tick)) := fun k u s6 s7 s8 s13 s14 s15 s16 s17 e hB => by
    refine rn_cons (rs_cut (fun Γ' => ∃ s4 s5 : Sl, Γ' = [.dat (pD b), .dat (eG g), .dat (eL as), .dat (eOo o), .dat (.str (tickT b g as o).m), .dat (eL (tickT b g as o).on), s6, s7, s8, .dat (.int (tickT b g as o).s), .dat (eRun (tickT b g as o)), .ob (tlO (toldL (tickT b g as o))), .dat (.bool k), s13, s14, s15, s16, s17]) ?_ ?_)
    · rw [← e]
      cases k with
      | true =>
        rw [if_pos rfl]
        refine rs_if (k := !isNonD (eO u.r) && false) (goW_T (goW_and (gocT (gc_notN (gx_ix (d := eO u.r) (go_is (d' := .tuple [eO u.r, .int u.p, .int u.l]) (go_var 10) rfl) go_int (by exact rfl)))) fun _ => goW_and1 (goT_is (goT_not (gx_t (x := .bool true) (go_var 12) (by exact ⟨fun _ h => (nomatch h), fun _ h => (nomatch h)⟩))) rfl))) (fun h => ?_) (fun _ => rn_nil ⟨.any, .any, rfl⟩)
        rw [Bool.and_false] at h
        cases h
      | false =>
        rw [if_neg (by decide)]
        cases hur : u.r with
        | none =>
          rw [go_none hur]
          exact rs_if (k := false) (goT_is (goW_T (goW_and (k := false) (l := false) (goT_is (gocT (gc_notN (gx_ix (d := eO u.r) (go_is (d' := .tuple [eO u.r, .int u.p, .int u.l]) (go_var 10) rfl) go_int (by exact rfl)))) (by rw [hur]; rfl)) fun h => (by exact nomatch h))) rfl) (fun h => nomatch h) (fun _ => rn_nil ⟨.any, .any, rfl⟩)
        | some r =>
          have es := go_s b u
          refine rs_if (k := true) (goT_is (goW_T (goW_and (k := true) (l := true) (goT_is (gocT (gc_notN (gx_ix (d := eO u.r) (go_is (d' := .tuple [eO u.r, .int u.p, .int u.l]) (go_var 10) rfl) go_int (by exact rfl)))) (by rw [hur]; rfl)) fun _ => goW_and1 (goT_is (goT_not (gx_t (x := .bool false) (go_var 12) (by exact ⟨fun _ h => (nomatch h), fun _ h => (nomatch h)⟩))) rfl))) rfl) (fun _ => ?_) (fun h => nomatch h)
          refine rn_cons (rs_unpM (gm_callL 11 c__law_running hr (by decide) rfl .same (goal_cons (go_var 0) (goal_cons (go_var 4) (goal_cons (go_var 5) (goal_cons (go_var 10) (goal_one 11))))) ⟨b, u, r, rfl, rfl, rfl, rfl, hur, hB⟩) (Nat.le_of_ble_eq_true rfl) (gog_tup rfl (gogs_cons (gog_name 4 sc__law_tick.nd) (gogs_cons (gog_name 5 sc__law_tick.nd) (gogs_cons (gog_name 10 sc__law_tick.nd) gogs_nil)))) (rn_nil ⟨.any, .any, ?_⟩))
          rw [es]
          rfl
    · rintro _ ⟨_, _, rfl⟩
      generalize tickT b g as o = t
      refine rn_iceO 11 rfl (fz_tl _) (by rw [hJ]; exact List.not_mem_nil) ?_
      exact rn_cons (rs_ret (go_is (go_tup (god_cons (gx_bin (gx_bin (go_tup (god_cons (go_var 4) (god_cons (go_var 5) god_nil))) (go_is (d' := .tuple [eO t.r, .int t.p, .int t.l]) (go_var 10) rfl) (by exact ⟨rfl, leZ (Nat.le_of_ble_eq_true rfl)⟩)) (go_tup (god_cons (go_var 9) god_nil)) (by exact ⟨rfl, leZ (Nat.le_of_ble_eq_true rfl)⟩)) (god_cons (gx_ix (d := .list (t.dn.map .str)) (go_var 11) go_int (by exact rfl)) (god_cons (gx_ix (d := .list (t.rf.map .str)) (go_var 11) go_int (by exact rfl)) (god_cons (gx_ix (d := .list (t.mo.map eL)) (go_var 11) go_int (by exact rfl)) god_nil))))) rfl))
  have fin6 : isNonD (eOo o) = false → ∀ (k : Bool) (u : Tk) (s9 s6 s7 s8 s13 s14 s15 s16 s17 : Sl), u.s = 0 → (if k = true then u else u.go b) = tickT b g as o → Bd b u → Rn (cxOf CX0 P w K mg base ["_law_parts", "_law_standing_here", "_law_alarms", "_law_order", "_law_mode", "_law_lot_here", "_law_row_here", "_law_place", "_law_left", "_law_silence", "_law_run", "_law_told", "_law_begun", "_law_name", "_law_on", "_law_off", "_law_to_here", "_law_effect_here"] "_law_tick" (defScope s__law_tick) f cdv A outer s H E).nox J { nx := fun _ => ∀ K B, (datP (.tuple (eTk (tickT b g as o)))).p K B .non, rt := datP (.tuple (eTk (tickT b g as o))) } [.dat (pD b), .dat (eG g), .dat (eL as), .dat (eOo o), .dat (.str u.m), .dat (eL u.on), s6, s7, s8, s9, .dat (eRun u), .ob (tlO (toldL u)), .dat (.bool k), s13, s14, s15, s16, s17] (List.drop 6 (defBody s__law_tick)) := fun ho2 k u s9 s6 s7 s8 s13 s14 s15 s16 s17 hs e hB => by
    refine rn_cons (rs_set 9 (P := datP (.int u.s)) (go_ifE (k := false) (P := datP (.int u.s)) (goT_is (goW_T (goW_and (k := false) (l := false) (goT_is (gocT (gc_isN (go_var 3))) ho2) fun h => (by exact nomatch h))) rfl) (fun h => nomatch h) (fun _ => go_is go_int (congrArg PyData.int hs.symm))) ?_ sc__law_tick.nd)
    refine rn_cons (rs_if (k := false) (goT_is (goW_T (goW_and (k := false) (l := false) (goT_is (gocT (gc_isN (go_var 3))) ho2) fun h => (by exact nomatch h))) rfl) (fun h => nomatch h) fun _ => rn_nil ?_)
    exact fin k u _ _ _ _ _ _ _ _ e hB
  refine rn_cons (rs_unp (go_is (go_var 1) (show _ = PyData.tuple [.str g.m, eL g.on, eO g.r, .int g.p, .int g.l, .int g.s] from rfl)) (gog_tup rfl (gogs_cons (gog_name 4 sc__law_tick.nd) (gogs_cons (gog_name 5 sc__law_tick.nd) (gogs_cons (gog_name 6 sc__law_tick.nd) (gogs_cons (gog_name 7 sc__law_tick.nd) (gogs_cons (gog_name 8 sc__law_tick.nd) (gogs_cons (gog_name 9 sc__law_tick.nd) gogs_nil))))))) ?_)
  refine rn_cons (rs_par3M 10 11 12 (go_tup (god_cons (go_var 6) (god_cons (go_var 7) (god_cons (go_var 8) god_nil)))) (goU_tl (gons_cons (goN_lst god_nil) (gons_cons (goN_lst god_nil) (gons_cons (goN_lst god_nil) gons_nil)))) go_bl ?_ sc__law_tick.nd rfl (by decide) (by decide) (by decide))
  refine rn_to (Γ' := [.dat (pD b), .dat (eG g), .dat (eL as), .dat (eOo o), .dat (.str (tk0 g).m), .dat (eL (tk0 g).on), .dat (eO g.r), .dat (.int g.p), .dat (.int g.l), .dat (.int (tk0 g).s), .dat (eRun (tk0 g)), .ob (tlO (toldL (tk0 g))), .dat (.bool false), .any, .any, .any, .any, .any]) rfl ?_
  have hal4 := hb.a.hi
  rw [List.length_map] at hal4
  refine rn_cons (rs_for (fun k Γ' => ∃ (t : Tk) (s13 s14 s15 s16 : Sl), Γ' = [.dat (pD b), .dat (eG g), .dat (eL as), .dat (eOo o), .dat (.str t.m), .dat (eL t.on), .dat (eO g.r), .dat (.int g.p), .dat (.int g.l), .dat (.int t.s), .dat (eRun t), .ob (tlO (toldL t)), .dat (.bool false), s13, s14, s15, s16, .any] ∧ t = (b.alarms.take k).foldl (Tk.ans1 b as) (tk0 g)) (goi_list (gx_ix (d := .list (b.alarms.map eA)) (go_var 0) go_int (by exact rfl))) ?_ ?_ ?_ rfl)
  · exact ⟨tk0 g, _, _, _, _, rfl, rfl⟩
  · rintro k d _ hd ⟨t, s13, s14, s15, s16, rfl, ht⟩
    rw [List.getElem?_map] at hd
    obtain ⟨a, hk, rfl⟩ := Option.map_eq_some_iff.mp hd
    have ha := List.mem_of_getElem? hk
    have hT : TkOk b (0 + (b.alarms.take k).length) t := ht ▸ tk_ansL hb as (b.alarms.take k) 0 _ h0 fun x hx => List.mem_of_mem_take hx
    have htl : (b.alarms.take k).length ≤ 4 := by rw [List.length_take]; omega
    have enx : t.ans1 b as a = (b.alarms.take (k + 1)).foldl (Tk.ans1 b as) (tk0 g) := by
      rw [List.take_add_one, hk, List.foldl_append, ← ht]
      rfl
    refine ⟨_, _, (gog_tup rfl (gogs_cons (gog_name 13 sc__law_tick.nd) (gogs_cons (gog_name 14 sc__law_tick.nd) (gogs_cons (gog_name 15 sc__law_tick.nd) (gogs_cons (gog_name 16 sc__law_tick.nd) gogs_nil))))), ?_⟩
    refine rn_to (Γ' := [.dat (pD b), .dat (eG g), .dat (eL as), .dat (eOo o), .dat (.str t.m), .dat (eL t.on), .dat (eO g.r), .dat (.int g.p), .dat (.int g.l), .dat (.int t.s), .dat (eRun t), .ob (tlO (toldL t)), .dat (.bool false), .dat (.str a.n), .dat (eL a.on), .dat (eL a.off), .dat (eO a.to), .any]) rfl ?_
    refine rn_cons (rs_if (k := decide (a.n ∈ as)) (gocT (gx_in (k := decide (a.n ∈ as)) (go_var 13) (go_var 2) (by exact ⟨_, rfl, rfl⟩))) (fun h => ?_) fun h => rn_nil (rn_nil ⟨t, _, _, _, _, rfl, ?_⟩))
    · have h := of_decide_eq_true h
      have ea : t.ans1 b as a = (t.eff b a.on a.off a.to).halt := if_pos h
      rw [ea] at enx
      have haE := hb.aE a ha
      have z2 : (t.mo.map eL).length < sizeLine := ltZ (by rw [List.length_map]; have := hT.mo; omega)
      refine rn_cons (rs_unp (gx_call c__law_effected hr (by decide) (goA_cons (go_var 0) (goA_cons (go_var 4) (goA_cons (go_var 5) (goA_cons (go_var 14) (goA_cons (go_var 15) (goA_cons (go_var 16) goA_nil)))))) ⟨b, t.m, t.on, a.on, a.off, a.to, rfl, rfl, hb, hT.on, haE.1, haE.2⟩) (gog_tup rfl (gogs_cons (gog_name 4 sc__law_tick.nd) (gogs_cons (gog_name 5 sc__law_tick.nd) gogs_nil))) ?_)
      refine rn_cons (rs_appL (gol_ixT 11 (k := 2) rfl) (go_var 5) z2 ?_ (Nat.le_of_ble_eq_true rfl))
      refine rn_cons (rs_set 10 (go_tup (god_cons go_non (god_cons go_int (god_cons go_int god_nil)))) (rn_nil (rn_nil ⟨(t.eff b a.on a.off a.to).halt, .dat (.str a.n), .dat (eL a.on), .dat (eL a.off), .dat (eO a.to), ?_, enx⟩)) sc__law_tick.nd)
      unfold toldL Tk.halt Tk.eff
      dsimp only
      rw [List.map_append]
      rfl
    · have h := of_decide_eq_false h
      have ea : t.ans1 b as a = t := if_neg h
      rw [ea] at enx
      exact enx
  rintro _ ⟨t, s13, s14, s15, s16, rfl, ht⟩
  rw [List.length_map, List.take_length] at ht
  have hT : TkOk b (0 + 4) t := ht ▸ tk_ans hb h0 as
  have hts : t.s = g.s := by
    have : ∀ (l : List Al) (u : Tk), (l.foldl (Tk.ans1 b as) u).s = u.s := fun l => by
      induction l with
      | nil => exact fun u => rfl
      | cons a r ih => exact fun u => (ih _).trans (ans1_s b as u a)
    rw [ht]
    exact this _ _
  cases o with
  | non =>
    have etk : tickT b g as .non = (t.wait b).go b := by rw [ht]; rfl
    have hW := tk_wait hb hT
    have hBW : Bd b (t.wait b) := ⟨hb, 0 + 4 + 1, by decide, hW⟩
    refine rn_cons (rs_if (k := false) (goT_is (goW_T (goW_and (k := false) (l := false) (goT_is (gocT (gc_notN (go_var 3))) rfl) fun h => (by exact nomatch h))) rfl) (fun h => nomatch h) fun _ => rn_nil ?_)
    refine rn_cons (rs_if (k := false) (goT_is (goW_T (goW_and (k := false) (l := false) (goT_is (gocT (gc_notN (go_var 3))) rfl) fun h => (by exact nomatch h))) rfl) (fun h => nomatch h) fun _ => rn_nil ?_)
    refine rn_cons (rs_if (k := false) (goT_is (goW_T (goW_and (k := false) (l := false) (goT_is (gocT (gc_notN (go_var 3))) rfl) fun h => (by exact nomatch h))) rfl) (fun h => nomatch h) fun _ => rn_nil ?_)
    cases hq : b.quiet with
    | none =>
      have ew : t.wait b = t := by unfold Tk.wait; rw [hq]
      have hz : t.s = 0 := by
        have h1 := hT.s1
        have h2 := hT.s0
        unfold mostZ at h1
        rw [hq] at h1
        have h1 : t.s < 1 := h1
        omega
      rw [ew] at etk hBW
      refine rn_cons (rs_set 9 (P := datP (.int t.s)) (go_ifE (k := false) (P := datP (.int t.s)) (goT_is (goW_T (goW_and (k := true) (l := false) (goT_is (gocT (gc_isN (go_var 3))) rfl) fun _ => goW_and1 (goT_is (gocT (gc_notN (gx_ix (d := eQ b.quiet) (go_var 0) go_int (by exact rfl)))) (by rw [hq]; rfl)))) rfl) (fun h => nomatch h) (fun _ => go_is go_int (congrArg PyData.int hz.symm))) ?_ sc__law_tick.nd)
      refine rn_cons (rs_if (k := false) (goT_is (goW_T (goW_and (k := true) (l := false) (goT_is (gocT (gc_isN (go_var 3))) rfl) fun _ => goW_and (k := false) (l := false) (goT_is (gocT (gc_notN (gx_ix (d := eQ b.quiet) (go_var 0) go_int (by exact rfl)))) (by rw [hq]; rfl)) fun h => (by exact nomatch h))) rfl) (fun h => nomatch h) fun _ => rn_nil ?_)
      exact fin false t _ _ _ _ _ _ _ _ etk.symm hBW
    | some q =>
      refine rn_cons (rs_set 9 (P := datP (.int (t.s + 1))) (go_ifE (k := true) (P := datP (.int (t.s + 1))) (goT_is (goW_T (goW_and (k := true) (l := true) (goT_is (gocT (gc_isN (go_var 3))) rfl) fun _ => goW_and1 (goT_is (gocT (gc_notN (gx_ix (d := eQ b.quiet) (go_var 0) go_int (by exact rfl)))) (by rw [hq]; rfl)))) rfl) (fun _ => (gx_bin (go_var 9) go_int)) (fun h => nomatch h)) ?_ sc__law_tick.nd)
      refine rn_cons (rs_if (k := decide (t.s + 1 = q)) (goT_is (goW_T (goW_and (k := true) (l := true && decide (t.s + 1 = q)) (goT_is (gocT (gc_isN (go_var 3))) rfl) fun _ => goW_and (k := true) (l := decide (t.s + 1 = q)) (goT_is (gocT (gc_notN (gx_ix (d := eQ b.quiet) (go_var 0) go_int (by exact rfl)))) (by rw [hq]; rfl)) fun _ => goW_and1 (gocT (gx_c (.of hr) (go_var 9) (go_is (d' := .int q) (gx_ix (d := eQ b.quiet) (go_var 0) go_int (by exact rfl)) (by rw [hq]; rfl)))))) (by rw [Bool.true_and, Bool.true_and])) (fun h => ?_) fun h => rn_nil ?_)
      · have h := of_decide_eq_true h
        have ew : t.wait b = ⟨homeS b, effS b t.on ([], []) (some (homeS b)), none, 0, 0, 0, t.dn, t.rf, t.mo ++ [effS b t.on ([], []) (some (homeS b))]⟩ := by unfold Tk.wait; rw [hq]; exact if_pos h
        rw [ew] at etk hBW
        obtain ⟨m0, hm0, e0, e1⟩ := home_mem hb
        have at0 : atI (b.modes.map eM) 0 = some (eM m0) := atI_get' (k := 0) (by rw [List.getElem?_map, e1]; rfl) rfl
        have z2 : (t.mo.map eL).length < sizeLine := ltZ (by rw [List.length_map]; have := hT.mo; omega)
        refine rn_cons (rs_unp (gx_call c__law_effected hr (by decide) (goA_cons (go_var 0) (goA_cons (go_var 4) (goA_cons (go_var 5) (goA_cons (go_is (d' := eL []) (go_tup god_nil) rfl) (goA_cons (go_is (d' := eL []) (go_tup god_nil) rfl) (goA_cons (go_is (d' := eO (some (homeS b))) (gx_ix (d := .str m0.n) (gx_ix (d := eM m0) (gx_ix (d := .list (b.modes.map eM)) (go_var 0) go_int (by exact rfl)) go_int (by exact at0)) go_int (by exact rfl)) (congrArg PyData.str e0)) goA_nil)))))) ⟨b, t.m, t.on, [], [], some (homeS b), rfl, rfl, hb, hT.on, turn_nil b, home_ok hb⟩) (gog_tup rfl (gogs_cons (gog_name 4 sc__law_tick.nd) (gogs_cons (gog_name 5 sc__law_tick.nd) gogs_nil))) ?_)
        refine rn_cons (rs_appL (gol_ixT 11 (k := 2) rfl) (go_var 5) z2 ?_ (Nat.le_of_ble_eq_true rfl))
        refine rn_cons (rs_unp (go_tup (god_cons (go_tup (god_cons go_non (god_cons go_int (god_cons go_int god_nil)))) (god_cons go_int god_nil))) (gog_tup rfl (gogs_cons (gog_name 10 sc__law_tick.nd) (gogs_cons (gog_name 9 sc__law_tick.nd) gogs_nil))) (rn_nil ?_))
        refine rn_to (Γ' := [.dat (pD b), .dat (eG g), .dat (eL as), .dat (eOo .non), .dat (.str (homeS b)), .dat (eL (effS b t.on ([], []) (some (homeS b)))), .dat (eO g.r), .dat (.int g.p), .dat (.int g.l), .dat (.int 0), .dat (.tuple [.none, .int 0, .int 0]), .ob (tlO [t.dn.map .str, t.rf.map .str, (t.mo ++ [effS b t.on ([], []) (some (homeS b))]).map eL]),   .dat (.bool false), s13, s14, s15, s16, .any]) ?_ (fin false ⟨homeS b, effS b t.on ([], []) (some (homeS b)), none, 0, 0, 0, t.dn, t.rf, t.mo ++ [effS b t.on ([], []) (some (homeS b))]⟩ _ _ _ _ _ _ _ _ etk.symm hBW)
        rw [List.map_append]
        rfl
      · have h := of_decide_eq_false h
        have ew : t.wait b = { t with s := t.s + 1 } := by unfold Tk.wait; rw [hq]; exact if_neg h
        rw [ew] at etk hBW
        exact fin false { t with s := t.s + 1 } _ _ _ _ _ _ _ _ etk.symm hBW
  | stop =>
    have etk : tickT b g as .stop = (t.obey b .stop).go b := by rw [ht]; rfl
    have hBO : Bd b (t.obey b .stop) := ⟨hb, 0 + 4 + 1, by decide, tk_obey hb hT ho⟩
    refine rn_cons (rs_if (k := false) (goT_is (goW_T (goW_and (k := true) (l := false) (goT_is (gocT (gc_notN (go_var 3))) rfl) fun _ => goW_and1 (goT_is (gocT (gc_eqS (gx_ix (d := .str "stop") (go_var 3) go_int (by exact rfl)) go_str)) (by decide +kernel)))) rfl) (fun h => nomatch h) fun _ => rn_nil ?_)
    refine rn_cons (rs_if (k := true) (goT_is (goW_T (goW_and (k := true) (l := true) (goT_is (gocT (gc_notN (go_var 3))) rfl) fun _ => goW_and1 (goT_is (gocT (gc_eqS (gx_ix (d := .str "stop") (go_var 3) go_int (by exact rfl)) go_str)) (by decide +kernel)))) rfl) (fun _ => ?_) fun h => nomatch h)
    refine rn_cons (rs_set 10 (go_tup (god_cons go_non (god_cons go_int (god_cons go_int god_nil)))) (rn_nil ?_) sc__law_tick.nd)
    refine rn_cons (rs_if (k := false) (goT_is (goW_T (goW_and (k := true) (l := false) (goT_is (gocT (gc_notN (go_var 3))) rfl) fun _ => goW_and1 (goT_is (gocT (gc_eqS (gx_ix (d := .str "stop") (go_var 3) go_int (by exact rfl)) go_str)) (by decide +kernel)))) rfl) (fun h => nomatch h) fun _ => rn_nil ?_)
    exact fin6 rfl false (t.obey b .stop) _ _ _ _ _ _ _ _ _ rfl etk.symm hBO
  | dO x =>
    have etk : tickT b g as (.dO x) = (t.obey b (.dO x)).go b := by rw [ht]; rfl
    have hBO : Bd b (t.obey b (.dO x)) := ⟨hb, 0 + 4 + 1, by decide, tk_obey hb hT ho⟩
    obtain ⟨c1, c2⟩ := cmd_has hb ho
    have eob : t.obey b (.dO x) = if t.m ∈ (cmdOf b x).ms then { t with s := 0 }.cmd b (cmdOf b x) else { t with s := 0, rf := t.rf ++ [x] } := rfl
    generalize cmdOf b x = c at c1 c2 eob
    have hos : (t.obey b (.dO x)).s = 0 := by
      rw [eob]
      split
      · exact cmd_s b _ c
      · rfl
    refine rn_cons (rs_cut (fun Γ' => ∃ s17 : Sl, Γ' = [.dat (pD b), .dat (eG g), .dat (eL as), .dat (eOo (.dO x)), .dat (.str (t.obey b (.dO x)).m), .dat (eL (t.obey b (.dO x)).on), .dat (eO g.r), .dat (.int g.p), .dat (.int g.l), .dat (.int t.s), .dat (eRun (t.obey b (.dO x))), .ob (tlO (toldL (t.obey b (.dO x)))), .dat (.bool false), s13, s14, s15, s16, s17]) ?_ ?_)
    · refine rs_if (k := true) (goT_is (goW_T (goW_and (k := true) (l := true) (goT_is (gocT (gc_notN (go_var 3))) rfl) fun _ => goW_and1 (goT_is (gocT (gc_eqS (gx_ix (d := .str "do") (go_var 3) go_int (by exact rfl)) go_str)) (by decide +kernel)))) rfl) (fun _ => ?_) (fun h => nomatch h)
      refine rn_cons (rs_set 17 (gx_call c__law_command hr (by decide) (goA_cons (go_var 0) (goA_cons (go_var 4) (goA_cons (go_is (d' := .str c.n) (gx_ix (d := .str x) (go_var 3) go_int (by exact rfl)) (congrArg PyData.str c2.symm)) goA_nil))) ⟨b, t.m, c, rfl, rfl, hb, c1⟩) ?_ sc__law_tick.nd)
      have z0 : (t.dn.map PyData.str).length < sizeLine := ltZ (by rw [List.length_map]; have := hT.dn; omega)
      have z1 : (t.rf.map PyData.str).length < sizeLine := ltZ (by rw [List.length_map]; have := hT.rf; omega)
      have z2 : (t.mo.map eL).length < sizeLine := ltZ (by rw [List.length_map]; have := hT.mo; omega)
      by_cases q : t.m ∈ c.ms
      · have ec : cmdD t.m c = .tuple [eL c.on, eL c.off, eO c.to] := if_pos q
        have eu : Tk.cmd b { t with s := 0 } c = { Tk.eff b { t with s := 0 } c.on c.off c.to with dn := t.dn ++ [c.n] } := if_pos q
        rw [if_pos q, eu] at eob
        rw [eob, ec]
        have hcE := hb.cE c c1
        refine rn_cons (rs_if (k := false) (goT_is (gocT (gc_isN (go_var 17))) rfl) (fun h => nomatch h) (fun _ => ?_))
        refine rn_cons (rs_unp (gx_call c__law_effected hr (by decide) (goA_cons (go_var 0) (goA_cons (go_var 4) (goA_cons (go_var 5) (goA_cons (gx_ix (d := eL c.on) (go_var 17) go_int (by exact rfl)) (goA_cons (gx_ix (d := eL c.off) (go_var 17) go_int (by exact rfl)) (goA_cons (gx_ix (d := eO c.to) (go_var 17) go_int (by exact rfl)) goA_nil)))))) ⟨b, t.m, t.on, c.on, c.off, c.to, rfl, rfl, hb, hT.on, hcE.1, hcE.2⟩) (gog_tup rfl (gogs_cons (gog_name 4 sc__law_tick.nd) (gogs_cons (gog_name 5 sc__law_tick.nd) gogs_nil))) ?_)
        refine rn_cons (rs_appL (gol_ixT 11 (k := 0) rfl) (go_is (d' := .str c.n) (gx_ix (d := .str x) (go_var 3) go_int (by exact rfl)) (congrArg PyData.str c2.symm)) z0 ?_ (Nat.le_of_ble_eq_true rfl))
        refine rn_cons (rs_appL (gol_ixT 11 (k := 2) rfl) (go_var 5) z2 (rn_nil (rn_nil ⟨.dat (.tuple [eL c.on, eL c.off, eO c.to]), ?_⟩)) (Nat.le_of_ble_eq_true rfl))
        unfold toldL Tk.eff
        dsimp only
        rw [List.map_append, List.map_append]
        rfl
      · have ec : cmdD t.m c = .none := if_neg q
        rw [if_neg q] at eob
        rw [eob, ec]
        refine rn_cons (rs_if (k := true) (goT_is (gocT (gc_isN (go_var 17))) rfl) (fun _ => ?_) (fun h => nomatch h))
        refine rn_cons (rs_appL (gol_ixT 11 (k := 1) rfl) (gx_ix (d := .str x) (go_var 3) go_int (by exact rfl)) z1 (rn_nil (rn_nil ⟨.dat .none, ?_⟩)) (Nat.le_of_ble_eq_true rfl))
        unfold toldL
        dsimp only
        rw [List.map_append]
        rfl
    · rintro _ ⟨s17, rfl⟩
      refine rn_cons (rs_if (k := false) (goT_is (goW_T (goW_and (k := true) (l := false) (goT_is (gocT (gc_notN (go_var 3))) rfl) fun _ => goW_and1 (goT_is (gocT (gc_eqS (gx_ix (d := .str "do") (go_var 3) go_int (by exact rfl)) go_str)) (by decide +kernel)))) rfl) (fun h => nomatch h) fun _ => rn_nil ?_)
      refine rn_cons (rs_if (k := false) (goT_is (goW_T (goW_and (k := true) (l := false) (goT_is (gocT (gc_notN (go_var 3))) rfl) fun _ => goW_and1 (goT_is (gocT (gc_eqS (gx_ix (d := .str "do") (go_var 3) go_int (by exact rfl)) go_str)) (by decide +kernel)))) rfl) (fun h => nomatch h) fun _ => rn_nil ?_)
      exact fin6 rfl false (t.obey b (.dO x)) _ _ _ _ _ _ _ _ _ hos etk.symm hBO
  | run x =>
    have etk : tickT b g as (.run x) = t.obey b (.run x) := by rw [ht]; rfl
    have hBO : Bd b (t.obey b (.run x)) := ⟨hb, 0 + 4 + 1, by decide, tk_obey hb hT ho⟩
    obtain ⟨c1, c2⟩ := row_has hb ho
    have eob : t.obey b (.run x) = { t with s := 0 }.beg (rowOf b x) 0 := rfl
    generalize rowOf b x = rw at c1 c2 eob
    have hrS := hb.rS rw c1
    have eob2 : { t with s := 0 }.beg rw 0 = { t with s := 0, r := some rw.n, p := 0, l := (stAt rw.st 0).1 } := if_neg (by omega)
    rw [eob2] at eob
    have hst := st_at (st := rw.st) (p := 0) ⟨by omega, by omega⟩
    refine rn_cons (rs_if (k := false) (goT_is (goW_T (goW_and (k := true) (l := false) (goT_is (gocT (gc_notN (go_var 3))) rfl) fun _ => goW_and1 (goT_is (gocT (gc_eqS (gx_ix (d := .str "run") (go_var 3) go_int (by exact rfl)) go_str)) (by decide +kernel)))) rfl) (fun h => nomatch h) fun _ => rn_nil ?_)
    refine rn_cons (rs_if (k := false) (goT_is (goW_T (goW_and (k := true) (l := false) (goT_is (gocT (gc_notN (go_var 3))) rfl) fun _ => goW_and1 (goT_is (gocT (gc_eqS (gx_ix (d := .str "run") (go_var 3) go_int (by exact rfl)) go_str)) (by decide +kernel)))) rfl) (fun h => nomatch h) fun _ => rn_nil ?_)
    refine rn_cons (rs_if (k := true) (goT_is (goW_T (goW_and (k := true) (l := true) (goT_is (gocT (gc_notN (go_var 3))) rfl) fun _ => goW_and1 (goT_is (gocT (gc_eqS (gx_ix (d := .str "run") (go_var 3) go_int (by exact rfl)) go_str)) (by decide +kernel)))) rfl) (fun _ => ?_) fun h => nomatch h)
    refine rn_cons (rs_par 10 12 (go_tup (god_cons (gx_ix (d := .str x) (go_var 3) go_int (by exact rfl)) (god_cons go_int (god_cons (gx_ix (d := .int (stAt rw.st 0).1) (gx_ix (d := eSt (stAt rw.st 0)) (gx_call (R := datP (.tuple (rw.st.map eSt))) c__law_steps_of hr (by decide) (goA_cons (go_var 0) (goA_cons (go_is (d' := .str rw.n) (gx_ix (d := .str x) (go_var 3) go_int (by exact rfl)) (congrArg PyData.str c2.symm)) goA_nil)) ⟨b, rw, rfl, rfl, hb, c1⟩) go_int (by exact hst)) go_int (by exact rfl)) god_nil)))) go_bl (rn_nil ?_) sc__law_tick.nd rfl (by decide))
    rw [eob] at etk hBO
    rw [c2] at etk hBO
    exact fin6 rfl true { t with s := 0, r := some x, p := 0, l := (stAt rw.st 0).1 } _ _ _ _ _ _ _ _ _ rfl etk.symm hBO
end

/-! ### drawn standings -/
abbrev s__law_standing : Stmt := topS 46
theorem sc__law_standing : FnScope ["_law_numbers_here", "_law_at", "_law_parts", "_law_mode", "_law_lot_here", "_law_run", "_law_name", "_law_steps", "_law_place", "_law_silence"] ["_law_numbers_here", "_law_at", "_law_parts"] (defScope s__law_standing) := ⟨rfl, rfl, rfl, by decide +kernel, rfl, by decide +kernel, by decide +kernel⟩
def S__law_standing : List Mn → Mn → Prop := fun Ps R => ∃ (n : Nat) (ds : List D) (at_ : Int) (b : Bk), Ps = [datP (.list ds), datP (.int at_), datP (pD b)] ∧ R = exP (fun g => isSt b g = true) (fun g => datP (eG g)) ∧ (IntsD Small n ds ∧ 0 ≤ at_ ∧ at_ + 5 ≤ (n : Int) ∧ BkOk b)
section
variable {P : Program} {w : World} {K : PySem.W.Frag} {mg : Str → Option Value} {base : Heap}
theorem ok__law_standing (df : Dfn K mg "_law_standing" s__law_standing ["_law_numbers_here", "_law_at", "_law_parts"]) (c__law_lot : Cal P w K mg base "_law_lot" ["_law_names_here", "_law_number"] 1 S__law_lot)  (x_LETTERS : GlobD K mg "LETTERS" (.str letS)) (T_InvalidBook : Ec0 K mg "InvalidBook") (x_MODE : GlobD K mg "MODE" (.str "mode")) (x_COMMAND : GlobD K mg "COMMAND" (.str "command")) (x_ALARM : GlobD K mg "ALARM" (.str "alarm")) (x_ROW : GlobD K mg "ROW" (.str "row")) (O_Book : ClsOk K "Book" ["_holds", "_barred", "_parts", "_quiet"]) (O_Step : ClsOk K "Step" ["standing", "done", "refused", "moments"]) (O_Gears : ClsOk K "Gears" ["home", "patience", "turns", "effects", "responses", "series"]) (O_Turn : ClsOk K "Turn" ["gears", "mode", "lot", "row", "place", "left", "silence", "done", "refused", "moments"]) (bt : Bt mg) : Cal P w K mg base "_law_standing" ["_law_numbers_here", "_law_at", "_law_parts"] 2 S__law_standing := by
  refine cal_ok df sc__law_standing ?_ ?_
  · rintro _ _ ⟨n, ds, at_, b, rfl, rfl, _⟩
    rfl
  rintro _ _ ⟨n, ds, at_, b, rfl, rfl, hds, ha0, han, hb⟩ f cdv A outer s H E hr J hJ
  obtain ⟨N, hN⟩ : ∃ N : Nat → Int, ∀ (k : Nat) (i : Int), k ≤ 4 → i = at_ + k → atI ds i = some (.int (N k)) := ⟨fun k => nthI ds (at_ + (k : Nat)), fun k i hk hi => by
    rw [hi]
    exact hds.at ⟨by omega, by omega⟩⟩
  have g0 := hN 0 at_ (by omega) (by omega)
  have g1 := hN 1 (at_ + 1) (by omega) (by omega)
  have g2 := hN 2 (at_ + 2) (by omega) (by omega)
  have g3 := hN 3 (at_ + 3) (by omega) (by omega)
  have g4 := hN 4 (at_ + 4) (by omega) (by omega)
  have m1 := hb.m.lo
  rw [List.length_map] at m1
  have hh6 := hb.h.hi
  obtain ⟨m, hm, hmA⟩ := pick_at b.modes eM (N 0) (by omega)
  have pm : 0 < (((b.modes.map eM).length : Nat) : Int) := by rw [List.length_map]; omega
  refine rn_cons (rs_set 3 (gx_ix (d := .str m.n) (gx_ix (d := eM m) (gx_ix (d := .list (b.modes.map eM)) (go_var 2) go_int (by exact rfl)) (gx_bin (gx_int bt.int (gx_ix (go_var 0) (go_var 1))) (gx_len bt.len (gx_ix (d := .list (b.modes.map eM)) (go_var 2) go_int (by exact rfl))) (by exact ⟨rfl, pm⟩)) (by exact hmA)) go_int (by exact rfl)) ?_ sc__law_standing.nd)
  refine rn_cons (rs_set 4 (gx_call c__law_lot hr (by decide) (goA_cons (gx_ix (d := .list (b.holds.map .str)) (go_var 2) go_int (by exact rfl)) (goA_cons (gx_bin (gx_int bt.int (gx_ix (go_var 0) (gx_bin (go_var 1) go_int))) go_int) goA_nil)) ⟨b.holds, _, rfl, rfl, hh6⟩) ?_ sc__law_standing.nd)
  have hlo := lotX_lot hb.h (N 1 % 64)
  revert hlo
  generalize lotX b.holds (N 1 % 64) = lot
  intro hlo
  refine rn_cons (rs_set 5 (go_tup (god_cons go_non (god_cons go_int (god_cons go_int god_nil)))) ?_ sc__law_standing.nd)
  refine rn_to (Γ' := [.dat (.list ds), .dat (.int at_), .dat (pD b), .dat (.str m.n), .dat (eL lot), .dat (.tuple [.none, .int 0, .int 0]), .any, .any, .any, .any]) rfl ?_
  have lR : (((b.rows.map eR).length : Nat) : Int) = (b.rows.length : Int) := by rw [List.length_map]
  refine rn_cons (rs_cut (fun Γ' => ∃ (r : Option Str) (p l : Int) (s6 s7 s8 : Sl), Γ' = [.dat (.list ds), .dat (.int at_), .dat (pD b), .dat (.str m.n), .dat (eL lot), .dat (.tuple [eO r, .int p, .int l]), s6, s7, s8, .any] ∧ rowB b r p l = true) (rs_if (k := decide (0 < b.rows.length) && decide (0 < N 2 % 3)) (goT_is (goW_T (goW_and (gocT (gx_c (.of hr) (gx_len bt.len (gx_ix (d := .list (b.rows.map eR)) (go_var 2) go_int (by exact rfl))) go_int)) fun hk => goW_and1 (gocT (gx_c (.of hr) (gx_bin (gx_int bt.int (gx_ix (go_var 0) (gx_bin (go_var 1) go_int))) go_int) go_int)))) (by rw [lR]; exact congrArg (· && _) (decide_eq_decide.mpr (by omega)))) (fun h => ?_) fun h => rn_nil ⟨none, 0, 0, _, _, _, rfl, rfl⟩) ?_)
  · rw [Bool.and_eq_true, decide_eq_true_iff, decide_eq_true_iff] at h
    obtain ⟨v, hv, hvA⟩ := pick_at b.rows eR (N 2 / 3) h.1
    have pr : 0 < (((b.rows.map eR).length : Nat) : Int) := by rw [lR]; omega
    refine rn_cons (rs_unp (go_is (gx_ix (d := eR v) (gx_ix (d := .list (b.rows.map eR)) (go_var 2) go_int (by exact rfl)) (gx_bin (gx_bin (gx_int bt.int (gx_ix (go_var 0) (gx_bin (go_var 1) go_int))) go_int) (gx_len bt.len (gx_ix (d := .list (b.rows.map eR)) (go_var 2) go_int (by exact rfl))) (by exact ⟨rfl, pr⟩)) (by exact hvA)) (show _ = PyData.tuple [.str v.n, .tuple (v.st.map eSt)] from rfl)) (gog_tup rfl (gogs_cons (gog_name 6 sc__law_standing.nd) (gogs_cons (gog_name 7 sc__law_standing.nd) gogs_nil))) ?_)
    have hS := hb.rS v hv
    have lst : (((v.st.map eSt).length : Nat) : Int) = (v.st.length : Int) := by rw [List.length_map]
    have ps : 0 < (((v.st.map eSt).length : Nat) : Int) := by rw [lst]; omega
    refine rn_cons (rs_set 8 (go_is (gx_bin (gx_int bt.int (gx_ix (go_var 0) (gx_bin (go_var 1) go_int))) (gx_len bt.len (go_var 7)) (by exact ⟨rfl, ps⟩)) (show _ = PyData.int (N 3 % (v.st.length : Int)) by rw [lst])) ?_ sc__law_standing.nd)
    have p1 := Int.emod_nonneg (N 3) (show (v.st.length : Int) ≠ 0 by omega)
    have p2 := Int.emod_lt_of_pos (N 3) (show 0 < (v.st.length : Int) by omega)
    generalize N 3 % (v.st.length : Int) = pl at p1 p2
    have hst := st_at ⟨p1, p2⟩
    have hs1 := (hS.2.2 _ (st_mem ⟨p1, p2⟩)).1
    generalize stAt v.st pl = q at hst hs1
    have q1 := Int.emod_nonneg (N 3 / 4) (show q.1 ≠ 0 by omega)
    have q2 := Int.emod_lt_of_pos (N 3 / 4) (show 0 < q.1 by omega)
    have hq0 : 0 < q.1 := by omega
    refine rn_to (Γ' := [.dat (.list ds), .dat (.int at_), .dat (pD b), .dat (.str m.n), .dat (eL lot), .dat (.tuple [.none, .int 0, .int 0]), .dat (.str v.n), .dat (.tuple (v.st.map eSt)), .dat (.int pl), .any]) rfl ?_
    refine rn_cons (rs_set 5 (go_tup (god_cons (go_var 6) (god_cons (go_var 8) (god_cons (gx_bin go_int (gx_bin (gx_bin (gx_int bt.int (gx_ix (go_var 0) (gx_bin (go_var 1) go_int))) go_int) (gx_ix (d := .int q.1) (gx_ix (d := eSt q) (go_var 7) (go_var 8) (by exact hst)) go_int (by exact rfl)) (by exact ⟨rfl, hq0⟩))) god_nil)))) (rn_nil ⟨some v.n, pl, 1 + N 3 / 4 % q.1, _, _, _, rfl, ?_⟩) sc__law_standing.nd)
    have e := st_at ⟨p1, p2⟩
    rw [hst] at e
    have e2 : q.1 = (stAt v.st pl).1 := by
      have := Option.some.inj e
      unfold eSt at this
      injection this with this
      injection this with this
      injection this
    exact row_mk hb hv ⟨p1, p2⟩ ⟨by omega, by rw [← e2]; omega⟩
  · rintro _ ⟨r, p, l, s6, s7, s8, rfl, hrow⟩
    have fin : ∀ sl : Int, 0 ≤ sl → sl < mostZ b → isSt b ⟨m.n, lot, r, p, l, sl⟩ = true := fun sl h1 h2 => isSt_iff.mpr ⟨List.mem_map.mpr ⟨m, hm, rfl⟩, hlo, hrow, h1, h2⟩
    cases hq : b.quiet with
    | none =>
      have hmz : mostZ b = 1 := by unfold mostZ; rw [hq]
      refine rn_cons (rs_set 9 (P := datP (.int 0)) (go_ifE (k := true) (P := datP (.int 0)) (goT_is (gocT (gc_isN (gx_ix (d := eQ b.quiet) (go_var 2) go_int (by exact rfl)))) (by rw [hq]; rfl)) (fun _ => go_int) (fun h => nomatch h)) ?_ sc__law_standing.nd)
      exact rn_cons (rs_ret (go_ex (⟨m.n, lot, r, p, l, 0⟩ : Sg) (fin 0 (by omega) (by omega)) (go_is (gx_bin (gx_bin (go_tup (god_cons (go_var 3) (god_cons (go_var 4) god_nil))) (go_var 5) (by exact ⟨rfl, leZ (Nat.le_of_ble_eq_true rfl)⟩)) (go_tup (god_cons (go_var 9) god_nil)) (by exact ⟨rfl, leZ (Nat.le_of_ble_eq_true rfl)⟩)) rfl)))
    | some q =>
      have hmz : mostZ b = q := by unfold mostZ; rw [hq]
      have hq1 := (hb.q q hq).1
      have q1 := Int.emod_nonneg (N 4) (show q ≠ 0 by omega)
      have q2 := Int.emod_lt_of_pos (N 4) (show 0 < q by omega)
      have q0 : 0 < q := by omega
      refine rn_cons (rs_set 9 (P := datP (.int (N 4 % q))) (go_ifE (k := false) (P := datP (.int (N 4 % q))) (goT_is (gocT (gc_isN (gx_ix (d := eQ b.quiet) (go_var 2) go_int (by exact rfl)))) (by rw [hq]; rfl)) (fun h => nomatch h) (fun _ => gx_bin (gx_int bt.int (gx_ix (go_var 0) (gx_bin (go_var 1) go_int))) (go_is (d' := .int q) (gx_ix (d := eQ b.quiet) (go_var 2) go_int (by exact rfl)) (by rw [hq]; rfl)) (by exact ⟨rfl, q0⟩))) ?_ sc__law_standing.nd)
      exact rn_cons (rs_ret (go_ex (⟨m.n, lot, r, p, l, N 4 % q⟩ : Sg) (fin _ (by omega) (by omega)) (go_is (gx_bin (gx_bin (go_tup (god_cons (go_var 3) (god_cons (go_var 4) god_nil))) (go_var 5) (by exact ⟨rfl, leZ (Nat.le_of_ble_eq_true rfl)⟩)) (go_tup (god_cons (go_var 9) god_nil)) (by exact ⟨rfl, leZ (Nat.le_of_ble_eq_true rfl)⟩)) rfl)))
end

/-! ### rest -/
abbrev s_is_at_rest : Stmt := topS 27
theorem sc_is_at_rest : FnScope ["gears", "standing", "mode", "lot", "row", "_", "on", "off"] ["gears", "standing"] (defScope s_is_at_rest) := ⟨rfl, rfl, rfl, by decide +kernel, rfl, by decide +kernel, by decide +kernel⟩
abbrev s_rests : Stmt := topS 28
theorem sc_rests : FnScope ["book", "standing"] ["book", "standing"] (defScope s_rests) := ⟨rfl, rfl, rfl, by decide +kernel, rfl, by decide +kernel, by decide +kernel⟩
abbrev s_rest_time : Stmt := topS 29
theorem sc_rest_time : FnScope ["book", "standing", "gears", "count"] ["book", "standing"] (defScope s_rest_time) := ⟨rfl, rfl, rfl, by decide +kernel, rfl, by decide +kernel, by decide +kernel⟩
def S_is_at_rest : List Mn → Mn → Prop := fun Ps R => ∃ (b : Bk) (g : Sg), Ps = [gearsP b, datP (eG g)] ∧ R = datP (.bool (restB b g)) ∧ (BkOk b ∧ isSt b g = true)
def S_rests : List Mn → Mn → Prop := fun Ps R => ∃ (b : Bk) (g : Sg), Ps = [bookP b, datP (eG g)] ∧ R = datP (.bool (restB b g)) ∧ (BkOk b ∧ isSt b g = true)
def S_rest_time : List Mn → Mn → Prop := fun Ps R => ∃ (b : Bk) (g : Sg) (n : Nat), Ps = [bookP b, datP (eG g)] ∧ R = datP (.int (n : Int)) ∧ (BkOk b ∧ isSt b g = true ∧ RestAt b g n)
theorem shp_lot {l ks : List Str} (h : lotOfB l ks = true) : SeqAt.shaped (eL l) = true := (lotsh h).ok
section
variable {P : Program} {w : World} {K : PySem.W.Frag} {mg : Str → Option Value} {base : Heap}
theorem ok_is_at_rest (df : Dfn K mg "is_at_rest" s_is_at_rest ["gears", "standing"]) (c_turned : Cal P w K mg base "turned" ["holds", "on", "off"] 1 S_turned)  (x_LETTERS : GlobD K mg "LETTERS" (.str letS)) (T_InvalidBook : Ec0 K mg "InvalidBook") (x_MODE : GlobD K mg "MODE" (.str "mode")) (x_COMMAND : GlobD K mg "COMMAND" (.str "command")) (x_ALARM : GlobD K mg "ALARM" (.str "alarm")) (x_ROW : GlobD K mg "ROW" (.str "row")) (O_Book : ClsOk K "Book" ["_holds", "_barred", "_parts", "_quiet"]) (O_Step : ClsOk K "Step" ["standing", "done", "refused", "moments"]) (O_Gears : ClsOk K "Gears" ["home", "patience", "turns", "effects", "responses", "series"]) (O_Turn : ClsOk K "Turn" ["gears", "mode", "lot", "row", "place", "left", "silence", "done", "refused", "moments"]) (bt : Bt mg) : Cal P w K mg base "is_at_rest" ["gears", "standing"] 2 S_is_at_rest := by
  refine cal_ok df sc_is_at_rest ?_ ?_
  · rintro _ _ ⟨b, g, rfl, rfl, _⟩
    rfl
  rintro _ _ ⟨b, g, rfl, rfl, hb, hg⟩ f cdv A outer s H E hr J hJ
  obtain ⟨h1, h2, h3, h4, h5⟩ := isSt_iff.mp hg
  refine rn_cons (rs_unp (go_is (go_var 1) (show _ = PyData.tuple [.str g.m, eL g.on, eO g.r, .int g.p, .int g.l, .int g.s] from rfl)) (gog_tup rfl (gogs_cons (gog_name 2 sc_is_at_rest.nd) (gogs_cons (gog_name 3 sc_is_at_rest.nd) (gogs_cons (gog_name 4 sc_is_at_rest.nd) (gogs_cons (gog_name 5 sc_is_at_rest.nd) (gogs_cons (gog_name 5 sc_is_at_rest.nd) (gogs_cons (gog_name 5 sc_is_at_rest.nd) gogs_nil))))))) ?_)
  refine rn_to (Γ' := [.pr (gearsP b), .dat (eG g), .dat (.str g.m), .dat (eL g.on), .dat (eO g.r), .dat (.int g.s), .any, .any]) rfl ?_
  cases hr1 : g.r with
  | some r =>
    refine rn_cons (rs_if (k := true) (goT_is (gocT (gc_notN (go_var 4))) rfl) (fun _ => ?_) fun h => nomatch h)
    exact rn_cons (rs_ret (go_is go_bl (show _ = PyData.bool (restB b g) by unfold restB; rw [hr1, decide_eq_false (fun z => nomatch z)]; rfl)))
  | none =>
    refine rn_cons (rs_if (k := false) (goT_is (gocT (gc_notN (go_var 4))) rfl) (fun h => nomatch h) fun _ => rn_nil ?_)
    cases hq : b.quiet with
    | none =>
      refine rn_cons (rs_if (k := true) (goT_is (gocT (gc_isN (go_fld O_Gears (go_var 0) rfl (by decide)))) (by rw [hq]; rfl)) (fun _ => ?_) fun h => nomatch h)
      exact rn_cons (rs_ret (go_is go_bl (show _ = PyData.bool (restB b g) by unfold restB; rw [hr1, hq]; rfl)))
    | some q =>
      refine rn_cons (rs_if (k := false) (goT_is (gocT (gc_isN (go_fld O_Gears (go_var 0) rfl (by decide)))) (by rw [hq]; rfl)) (fun h => nomatch h) fun _ => rn_nil ?_)
      obtain ⟨m, hm, e0, e1, _⟩ := home_T hb
      have hT := home_turn hb
      refine rn_cons (rs_unp (go_dctIx (.of hr) (go_fld O_Gears (go_var 0) rfl (by decide)) (go_fld O_Gears (go_var 0) rfl (by decide)) (e0 ▸ get_trn hb hm)) (gog_tup rfl (gogs_cons (gog_name 6 sc_is_at_rest.nd) (gogs_cons (gog_name 7 sc_is_at_rest.nd) gogs_nil))) ?_)
      refine rn_to (Γ' := [.pr (gearsP b), .dat (eG g), .dat (.str g.m), .dat (eL g.on), .dat .none, .dat (.int g.s), .dat (eL (homeT b).1), .dat (eL (homeT b).2)]) (by rw [e1]; rfl) ?_
      have k1 := hs_len hb (lot_hs h2)
      have k2 := hs_len hb (turn_hs hT)
      have hl2 := turnF_lot hb h2 (t := homeT b) (turn_hs hT)
      refine rn_cons (rs_ret (go_is (go_andV (goc (gx_c (.of hr) (go_var 2) (go_fld O_Gears (go_var 0) rfl (by decide)))) fun hk => go_one (goc (gc_eqD (.of hr) (gx_call (R := datP (eL (turnF g.on (homeT b)))) c_turned hr (by decide) (goA_cons (go_var 3) (goA_cons (go_var 6) (goA_cons (go_var 7) goA_nil))) ⟨g.on, (homeT b).1, (homeT b).2, rfl, rfl, (lot_hs h2).nd, (turn_hs hT).nd, by omega, by omega⟩) (go_var 3) (shp_lot hl2) (shp_lot h2)))) ?_))
      unfold restB
      rw [hr1, hq, eqv_L]
      rfl
theorem ok_rests (df : Dfn K mg "rests" s_rests ["book", "standing"]) (c_Gears___init__ : CalC P w K mg base "Gears" ["self", "book"] 3 S_Gears___init__) (c_is_at_rest : Cal P w K mg base "is_at_rest" ["gears", "standing"] 2 S_is_at_rest)  (x_LETTERS : GlobD K mg "LETTERS" (.str letS)) (T_InvalidBook : Ec0 K mg "InvalidBook") (x_MODE : GlobD K mg "MODE" (.str "mode")) (x_COMMAND : GlobD K mg "COMMAND" (.str "command")) (x_ALARM : GlobD K mg "ALARM" (.str "alarm")) (x_ROW : GlobD K mg "ROW" (.str "row")) (O_Book : ClsOk K "Book" ["_holds", "_barred", "_parts", "_quiet"]) (O_Step : ClsOk K "Step" ["standing", "done", "refused", "moments"]) (O_Gears : ClsOk K "Gears" ["home", "patience", "turns", "effects", "responses", "series"]) (O_Turn : ClsOk K "Turn" ["gears", "mode", "lot", "row", "place", "left", "silence", "done", "refused", "moments"]) (bt : Bt mg) : Cal P w K mg base "rests" ["book", "standing"] 5 S_rests := by
  refine cal_ok df sc_rests ?_ ?_
  · rintro _ _ ⟨b, g, rfl, rfl, _⟩
    rfl
  rintro _ _ ⟨b, g, rfl, rfl, hb, hg⟩ f cdv A outer s H E hr J hJ
  exact rn_cons (rs_ret (gx_call c_is_at_rest hr (by decide) (goA_cons (goP_of_U (goU_make c_Gears___init__ hr (by decide) (goA_cons (go_var 0) goA_nil) ⟨b, rfl, rfl, rfl, rfl, hb⟩) (fz_gears b)) (goA_cons (go_var 1) goA_nil)) ⟨b, g, rfl, rfl, hb, hg⟩))
theorem ok_rest_time (df : Dfn K mg "rest_time" s_rest_time ["book", "standing"]) (c_Gears___init__ : CalC P w K mg base "Gears" ["self", "book"] 3 S_Gears___init__) (c_is_at_rest : Cal P w K mg base "is_at_rest" ["gears", "standing"] 2 S_is_at_rest) (c_tick_by : CalU P w K mg base "tick_by" ["gears", "standing", "alarms", "order"] 6 S_tick_by)  (x_LETTERS : GlobD K mg "LETTERS" (.str letS)) (T_InvalidBook : Ec0 K mg "InvalidBook") (x_MODE : GlobD K mg "MODE" (.str "mode")) (x_COMMAND : GlobD K mg "COMMAND" (.str "command")) (x_ALARM : GlobD K mg "ALARM" (.str "alarm")) (x_ROW : GlobD K mg "ROW" (.str "row")) (O_Book : ClsOk K "Book" ["_holds", "_barred", "_parts", "_quiet"]) (O_Step : ClsOk K "Step" ["standing", "done", "refused", "moments"]) (O_Gears : ClsOk K "Gears" ["home", "patience", "turns", "effects", "responses", "series"]) (O_Turn : ClsOk K "Turn" ["gears", "mode", "lot", "row", "place", "left", "silence", "done", "refused", "moments"]) (bt : Bt mg) : Cal P w K mg base "rest_time" ["book", "standing"] 7 S_rest_time := by
  refine cal_ok df sc_rest_time ?_ ?_
  · rintro _ _ ⟨b, g, n, rfl, rfl, _⟩
    rfl
  rintro _ _ ⟨b, g, n, rfl, rfl, hb, hg, hn1, hn2⟩ f cdv A outer s H E hr J hJ
  refine rn_cons (rs_set 2 (goP_of_U (goU_make c_Gears___init__ hr (by decide) (goA_cons (go_var 0) goA_nil) ⟨b, rfl, rfl, rfl, rfl, hb⟩) (fz_gears b)) ?_ sc_rest_time.nd)
  refine rn_cons (rs_set 3 go_int ?_ sc_rest_time.nd)
  refine rn_to (Γ' := [.pr (bookP b), .dat (eG g), .pr (gearsP b), .dat (.int 0)]) rfl ?_
  refine rn_cons (rs_cut (fun Γ' => Γ' = [.pr (bookP b), .dat (eG (silN b g n)), .pr (gearsP b), .dat (.int (n : Int))]) (rs_while (fun m Γ' => ∃ k : Nat, Γ' = [.pr (bookP b), .dat (eG (silN b g k)), .pr (gearsP b), .dat (.int (k : Int))] ∧ k + m = n) n ⟨0, rfl, by omega⟩ ?_) ?_)
  · rintro m _ ⟨k, rfl, hk⟩
    have hst := silN_st hb hg k
    refine ⟨!restB b (silN b g k), goT_not (gx_t (x := .bool (restB b (silN b g k))) (gx_call c_is_at_rest hr (by decide) (goA_cons (go_var 2) (goA_cons (go_var 1) goA_nil)) ⟨b, _, rfl, rfl, hb, hst⟩) (by exact ⟨fun _ h => (nomatch h), fun _ h => (nomatch h)⟩)), fun h => ?_, fun h => ?_⟩
    · rw [Bool.not_eq_true'] at h
      have hkn : k ≠ n := fun z => by
        rw [z, hn1] at h
        cases h
      refine rn_cons (rs_set 1 (go_is (d' := eG (silT b (silN b g k))) (go_fld O_Step (goP_of_U (gx_callU (R := stepO (tickT b (silN b g k) [] .non)) c_tick_by hr (by decide) (goA_cons (go_var 2) (goA_cons (go_var 1) (goA_cons (go_is (d' := eL []) (go_tup god_nil) rfl) (goA_cons (go_is (d' := eOo .non) go_non rfl) goA_nil)))) ⟨b, silN b g k, [], .non, rfl, rfl, hb, hst, trivial⟩) (fz_step _)) rfl (by decide)) rfl) ?_ sc_rest_time.nd)
      refine rn_cons (gx_aug 3 rfl go_int ?_ sc_rest_time.nd)
      exact rn_nil ⟨m - 1, by omega, k + 1, rfl, by omega⟩
    · rw [Bool.not_eq_false'] at h
      have hkn : k = n := by
        by_cases c : k < n
        · rw [hn2 k c] at h
          cases h
        · omega
      rw [hkn]
  rintro _ rfl
  exact rn_cons (rs_ret (go_var 3))
end
/-! ### the law's own rest -/
abbrev s__law_rests : Stmt := topS 47
theorem sc__law_rests : FnScope ["_law_parts", "_law_standing_here", "_law_now", "_law_turn"] ["_law_parts", "_law_standing_here"] (defScope s__law_rests) := ⟨rfl, rfl, rfl, by decide +kernel, rfl, by decide +kernel, by decide +kernel⟩
abbrev s__law_rest_time : Stmt := topS 48
theorem sc__law_rest_time : FnScope ["_law_parts", "_law_standing_here", "_law_count"] ["_law_parts", "_law_standing_here"] (defScope s__law_rest_time) := ⟨rfl, rfl, rfl, by decide +kernel, rfl, by decide +kernel, by decide +kernel⟩
def S__law_rests : List Mn → Mn → Prop := fun Ps R => ∃ (b : Bk) (g : Sg), Ps = [datP (pD b), datP (eG g)] ∧ R = datP (.bool (restB b g)) ∧ (BkOk b ∧ isSt b g = true)
def S__law_rest_time : List Mn → Mn → Prop := fun Ps R => ∃ (b : Bk) (g : Sg) (n : Nat), Ps = [datP (pD b), datP (eG g)] ∧ R = datP (.int (n : Int)) ∧ (BkOk b ∧ isSt b g = true ∧ RestAt b g n)
abbrev e3 (g : Sg) : D := .tuple [.str g.m, eL g.on, eO g.r]
theorem shp_3 {b : Bk} (hb : BkOk b) {g : Sg} (hg : isSt b g = true) : Shp 2 (e3 g) := by
  obtain ⟨h1, h2, h3, h4, h5⟩ := isSt_iff.mp hg
  exact Shp.tup (ShpA.cons (shp_nm (hb.m.nm _ h1) 1) (ShpA.cons (lotsh h2) (ShpA.cons (shp_O (row_to h3) hb.r.nm) ShpA.nil)))
theorem eqv_O (a c : Option Str) : PyData.eqv (eO a) (eO c) = decide (a = c) := by
  cases a with
  | none => cases c <;> rfl
  | some x => cases c with
    | none => rfl
    | some y =>
      show PyData.eqv (.str x) (.str y) = _
      rw [eqv_str]
      by_cases h : x = y
      · subst h
        simp
      · rw [beq_eq_false_iff_ne.mpr h, decide_eq_false]
        exact fun z => h (Option.some.inj z)
theorem eqv_3 (g g' : Sg) : PyData.eqv (e3 g) (e3 g') = same3 g g' := by
  unfold e3 same3
  rw [eqv_tup, eqvAll_cons, eqvAll_cons, eqvAll_cons, eqvAll_nil, eqv_str, eqv_L, eqv_O, Bool.and_true, Bool.and_assoc]
  congr 1
theorem go_orQ {X : Cx} {Γ : Ga} {a b : Expr} {rest : List Expr} {pos : Pos} {q : Option Int} (ha : Go X Γ a (eQ q)) (h0 : ∀ z, q = some z → z ≠ 0) (h2 : Go X Γ (.BoolOp .Or (b :: rest) pos) (.int 0)) : Go X Γ (.BoolOp .Or (a :: b :: rest) pos) (.int (q.getD 0)) := by
  cases q with
  | none => exact go_orN ha h2
  | some z => exact go_orI ha (h0 z rfl) h2
section
variable {P : Program} {w : World} {K : PySem.W.Frag} {mg : Str → Option Value} {base : Heap}
theorem ok__law_rests (df : Dfn K mg "_law_rests" s__law_rests ["_law_parts", "_law_standing_here"]) (c__law_tick : Cal P w K mg base "_law_tick" ["_law_parts", "_law_standing_here", "_law_alarms", "_law_order"] 4 S__law_tick)  (x_LETTERS : GlobD K mg "LETTERS" (.str letS)) (T_InvalidBook : Ec0 K mg "InvalidBook") (x_MODE : GlobD K mg "MODE" (.str "mode")) (x_COMMAND : GlobD K mg "COMMAND" (.str "command")) (x_ALARM : GlobD K mg "ALARM" (.str "alarm")) (x_ROW : GlobD K mg "ROW" (.str "row")) (O_Book : ClsOk K "Book" ["_holds", "_barred", "_parts", "_quiet"]) (O_Step : ClsOk K "Step" ["standing", "done", "refused", "moments"]) (O_Gears : ClsOk K "Gears" ["home", "patience", "turns", "effects", "responses", "series"]) (O_Turn : ClsOk K "Turn" ["gears", "mode", "lot", "row", "place", "left", "silence", "done", "refused", "moments"]) (bt : Bt mg) : Cal P w K mg base "_law_rests" ["_law_parts", "_law_standing_here"] 5 S__law_rests := by
  refine cal_ok df sc__law_rests ?_ ?_
  · rintro _ _ ⟨b, g, rfl, rfl, _⟩
    rfl
  rintro _ _ ⟨b, g, rfl, rfl, hb, hg⟩ f cdv A outer s H E hr J hJ
  cases hr1 : g.r with
  | some r =>
    refine rn_cons (rs_if (k := true) (goT_is (gocT (gc_notN (gx_ix (d := eO g.r) (go_var 1) go_int (by exact rfl)))) (by rw [hr1]; rfl)) (fun _ => ?_) fun h => nomatch h)
    exact rn_cons (rs_ret (go_is go_bl (show _ = PyData.bool (restB b g) by unfold restB; rw [hr1, decide_eq_false (fun z => nomatch z)]; rfl)))
  | none =>
    refine rn_cons (rs_if (k := false) (goT_is (gocT (gc_notN (gx_ix (d := eO g.r) (go_var 1) go_int (by exact rfl)))) (by rw [hr1]; rfl)) (fun h => nomatch h) fun _ => rn_nil ?_)
    refine rn_cons (rs_set 2 (go_var 1) ?_ sc__law_rests.nd)
    refine rn_to (Γ' := [.dat (pD b), .dat (eG g), .dat (eG g), .any]) rfl ?_
    have hq30 : 0 ≤ quietZ b ∧ quietZ b ≤ 30 := by
      unfold quietZ
      cases hq : b.quiet with
      | none => exact ⟨by decide, by decide⟩
      | some q =>
        have := hb.q q hq
        show 0 ≤ q ∧ q ≤ 30
        omega
    have hm : 2 + 2 * quietZ b = (((2 + 2 * quietZ b).toNat : Nat) : Int) := by omega
    have hm2 : (2 + 2 * quietZ b).toNat ≤ 62 := by omega
    refine rn_cons (rs_for (fun k Γ' => ∃ (u : Sg) (s3 : Sl), Γ' = [.dat (pD b), .dat (eG g), .dat (eG u), s3] ∧ Folw b g k u) (goi_is (gx_rng1 bt.range (go_is (gx_bin go_int (gx_bin go_int (go_orQ (q := b.quiet) (gx_ix (d := eQ b.quiet) (go_var 0) go_int (by exact rfl)) (fun z hz => by have := hb.q z hz; omega) (go_one go_int)))) (congrArg PyData.int hm))) (rngNat (2 + 2 * quietZ b).toNat)) ?_ ?_ ?_ rfl)
    · exact ⟨g, _, rfl, folw0 hg hr1⟩
    · rintro k d _ hd ⟨u, s3, rfl, hf⟩
      obtain ⟨hk, rfl⟩ := rngN_get hd
      have hst := sil_st hb hf.st
      obtain ⟨n1, n2⟩ := folw_next hb hg hr1 hf
      refine ⟨_, _, (gog_name 3 sc__law_rests.nd), ?_⟩
      refine rn_cons (rs_set 2 (gx_ix (d := eG (silT b u)) (gx_call (R := datP (.tuple (eTk (tickT b u [] .non)))) c__law_tick hr (by decide) (goA_cons (go_var 0) (goA_cons (go_var 2) (goA_cons (go_is (d' := eL []) (go_tup god_nil) rfl) (goA_cons (go_is (d' := eOo .non) go_non rfl) goA_nil)))) ⟨b, u, [], .non, rfl, rfl, hb, hf.st, trivial⟩) go_int (by exact rfl)) ?_ sc__law_rests.nd)
      revert hst n1 n2
      generalize silT b u = v
      intro hst n1 n2
      refine rn_to (Γ' := [.dat (pD b), .dat (eG g), .dat (eG v), .dat (.int (k : Int))]) rfl ?_
      refine rn_cons (rs_if (k := !same3 v g) (goT_is (gocT (gc_neD (x := e3 v) (y := e3 g) (.of hr) (go_is (go_slT (ds := [.str v.m, eL v.on, eO v.r, .int v.p, .int v.l, .int v.s]) (go_is (go_var 2) rfl) goO_none (goO_some go_int)) rfl) (go_is (go_slT (ds := [.str g.m, eL g.on, eO g.r, .int g.p, .int g.l, .int g.s]) (go_is (go_var 1) rfl) goO_none (goO_some go_int)) rfl) (shp_3 hb hst).ok (shp_3 hb hg).ok)) (by rw [eqv_3])) (fun h => ?_) fun h => ?_)
      · rw [Bool.not_eq_true'] at h
        exact rn_cons (rs_ret (go_is go_bl (congrArg PyData.bool (n2 h).symm)))
      · rw [Bool.not_eq_false'] at h
        exact rn_nil (rn_nil ⟨v, _, rfl, n1 h⟩)
    · rintro _ ⟨u, s3, rfl, hf⟩
      rw [List.length_map, List.length_range] at hf
      exact rn_cons (rs_ret (go_is go_bl (congrArg PyData.bool (folw_end hg hf hm.symm).symm)))
theorem ok__law_rest_time (df : Dfn K mg "_law_rest_time" s__law_rest_time ["_law_parts", "_law_standing_here"]) (c__law_tick : Cal P w K mg base "_law_tick" ["_law_parts", "_law_standing_here", "_law_alarms", "_law_order"] 4 S__law_tick) (c__law_rests : Cal P w K mg base "_law_rests" ["_law_parts", "_law_standing_here"] 5 S__law_rests)  (x_LETTERS : GlobD K mg "LETTERS" (.str letS)) (T_InvalidBook : Ec0 K mg "InvalidBook") (x_MODE : GlobD K mg "MODE" (.str "mode")) (x_COMMAND : GlobD K mg "COMMAND" (.str "command")) (x_ALARM : GlobD K mg "ALARM" (.str "alarm")) (x_ROW : GlobD K mg "ROW" (.str "row")) (O_Book : ClsOk K "Book" ["_holds", "_barred", "_parts", "_quiet"]) (O_Step : ClsOk K "Step" ["standing", "done", "refused", "moments"]) (O_Gears : ClsOk K "Gears" ["home", "patience", "turns", "effects", "responses", "series"]) (O_Turn : ClsOk K "Turn" ["gears", "mode", "lot", "row", "place", "left", "silence", "done", "refused", "moments"]) (bt : Bt mg) : Cal P w K mg base "_law_rest_time" ["_law_parts", "_law_standing_here"] 6 S__law_rest_time := by
  refine cal_ok df sc__law_rest_time ?_ ?_
  · rintro _ _ ⟨b, g, n, rfl, rfl, _⟩
    rfl
  rintro _ _ ⟨b, g, n, rfl, rfl, hb, hg, hn1, hn2⟩ f cdv A outer s H E hr J hJ
  refine rn_cons (rs_set 2 go_int ?_ sc__law_rest_time.nd)
  refine rn_to (Γ' := [.dat (pD b), .dat (eG g), .dat (.int 0)]) rfl ?_
  refine rn_cons (rs_cut (fun Γ' => Γ' = [.dat (pD b), .dat (eG (silN b g n)), .dat (.int (n : Int))]) (rs_while (fun m Γ' => ∃ k : Nat, Γ' = [.dat (pD b), .dat (eG (silN b g k)), .dat (.int (k : Int))] ∧ k + m = n) n ⟨0, rfl, by omega⟩ ?_) ?_)
  · rintro m _ ⟨k, rfl, hk⟩
    have hst := silN_st hb hg k
    refine ⟨!restB b (silN b g k), goT_not (gx_t (x := .bool (restB b (silN b g k))) (gx_call c__law_rests hr (by decide) (goA_cons (go_var 0) (goA_cons (go_var 1) goA_nil)) ⟨b, _, rfl, rfl, hb, hst⟩) (by exact ⟨fun _ h => (nomatch h), fun _ h => (nomatch h)⟩)), fun h => ?_, fun h => ?_⟩
    · rw [Bool.not_eq_true'] at h
      have hkn : k ≠ n := fun z => by
        rw [z, hn1] at h
        cases h
      refine rn_cons (rs_set 1 (gx_ix (d := eG (silT b (silN b g k))) (gx_call (R := datP (.tuple (eTk (tickT b (silN b g k) [] .non)))) c__law_tick hr (by decide) (goA_cons (go_var 0) (goA_cons (go_var 1) (goA_cons (go_is (d' := eL []) (go_tup god_nil) rfl) (goA_cons (go_is (d' := eOo .non) go_non rfl) goA_nil)))) ⟨b, silN b g k, [], .non, rfl, rfl, hb, hst, trivial⟩) go_int (by exact rfl)) ?_ sc__law_rest_time.nd)
      refine rn_cons (rs_set 2 (go_is (gx_bin (go_var 2) go_int) (show _ = PyData.int ((k + 1 : Nat) : Int) by rw [Int.natCast_add]; rfl)) ?_ sc__law_rest_time.nd)
      exact rn_nil ⟨m - 1, by omega, k + 1, rfl, by omega⟩
    · rw [Bool.not_eq_false'] at h
      have hkn : k = n := by
        by_cases c : k < n
        · rw [hn2 k c] at h
          cases h
        · omega
      rw [hkn]
  rintro _ rfl
  exact rn_cons (rs_ret (go_var 2))
end

abbrev s_law : Stmt := topS 49
theorem sc_law : FnScope ["_law_script", "_law_numbers_here", "_law_parts", "_law_book_here", "_law_k", "_law_standing_here", "_law_count"] ["_law_script"] (defScope s_law) := ⟨rfl, rfl, rfl, by decide +kernel, rfl, by decide +kernel, by decide +kernel⟩
section
variable {P : Program} {w : World} {K : PySem.W.Frag} {mg : Str → Option Value} {base : Heap}
theorem ok_law {f : Addr} {fd : FuncData} (F : Fun K "law" "law" s_law f fd) (c_rests : Cal P w K mg base "rests" ["book", "standing"] 5 S_rests) (c_rest_time : Cal P w K mg base "rest_time" ["book", "standing"] 7 S_rest_time) (c__law_numbers : Cal P w K mg base "_law_numbers" ["_law_script", "_law_many"] 2 S__law_numbers) (c__law_book : Cal P w K mg base "_law_book" ["_law_numbers_here", "_law_at", "_law_sizes"] 4 S__law_book) (c__law_made : Cal P w K mg base "_law_made" ["_law_parts"] 8 S__law_made) (c__law_standing : Cal P w K mg base "_law_standing" ["_law_numbers_here", "_law_at", "_law_parts"] 2 S__law_standing) (c__law_rests : Cal P w K mg base "_law_rests" ["_law_parts", "_law_standing_here"] 5 S__law_rests) (c__law_rest_time : Cal P w K mg base "_law_rest_time" ["_law_parts", "_law_standing_here"] 6 S__law_rest_time)  (x_LETTERS : GlobD K mg "LETTERS" (.str letS)) (T_InvalidBook : Ec0 K mg "InvalidBook") (x_MODE : GlobD K mg "MODE" (.str "mode")) (x_COMMAND : GlobD K mg "COMMAND" (.str "command")) (x_ALARM : GlobD K mg "ALARM" (.str "alarm")) (x_ROW : GlobD K mg "ROW" (.str "row")) (O_Book : ClsOk K "Book" ["_holds", "_barred", "_parts", "_quiet"]) (O_Step : ClsOk K "Step" ["standing", "done", "refused", "moments"]) (O_Gears : ClsOk K "Gears" ["home", "patience", "turns", "effects", "responses", "series"]) (O_Turn : ClsOk K "Turn" ["gears", "mode", "lot", "row", "place", "left", "silence", "done", "refused", "moments"]) (x_repr : mg "repr" = none) (bt : Bt mg) : FnOk P w K mg base CX0 9 f fd ["_law_script"] (spLaw K) := by
  refine def_ok F sc_law (fun _ => rfl) fun ns hns cdv A outer s H E hr J hJ => ?_
  refine rn_cons (rs_set 1 (gx_call c__law_numbers hr (by decide) (goA_cons (go_var 0) (goA_cons go_int goA_nil))) ?_ sc_law.nd)
  refine rn_ex 1 rfl fun zs hz => ?_
  have hz : IntsD Small 110 zs := hz
  refine rn_cons (rs_set 2 (gx_call c__law_book hr (by decide) (goA_cons (go_var 1) (goA_cons go_int (goA_cons (go_is (d' := .tuple [.int 6, .int 5, .int 8, .int 4, .int 3, .int 9, .int 30]) (go_tup (god_cons go_int (god_cons go_int (god_cons go_int (god_cons go_int (god_cons go_int (god_cons go_int (god_cons go_int god_nil)))))))) rfl) goA_nil))) ⟨110, zs, 0, 6, 5, 8, 4, 3, 9, 30, rfl, rfl, hz, by decide, by decide, ⟨by decide, by decide, by decide, by decide, by decide, by decide, by decide⟩⟩) ?_ sc_law.nd)
  refine rn_ex 2 rfl fun b hb => ?_
  refine rn_cons (rs_set 3 (gx_call c__law_made hr (by decide) (goA_cons (go_var 2) goA_nil) ⟨b, rfl, rfl, hb⟩) ?_ sc_law.nd)
  refine rn_to (Γ' := [_, .dat (.list zs), .dat (pD b), .pr (bookP b), .any, .any, .any]) rfl ?_
  obtain ⟨z, gz⟩ : ∃ z, atI zs 105 = some (.int z) := ⟨_, hz.at ⟨by omega, by omega⟩⟩
  obtain ⟨m0, hm0, e0, e1⟩ := home_mem hb
  have at0 : atI (b.modes.map eM) 0 = some (eM m0) := atI_get' (k := 0) (by rw [List.getElem?_map, e1]; rfl) rfl
  refine rn_cons (rs_for (fun k Γ' => ∃ s0 s4 s5 s6 : Sl, Γ' = [s0, .dat (.list zs), .dat (pD b), .pr (bookP b), s4, s5, s6] ∧ True) (gx_rng1 bt.range go_int) ?_ ?_ ?_ rfl)
  · exact ⟨_, _, _, _, rfl, True.intro⟩
  · rintro k d _ hd ⟨s0, s4, s5, s6, rfl, _⟩
    obtain ⟨hk, rfl⟩ := rng_get hd
    have hk6 : k < 8 := by omega
    refine ⟨_, _, (gog_name 4 sc_law.nd), ?_⟩
    refine rn_cons (rs_set 5 (gx_call c__law_standing hr (by decide) (goA_cons (go_var 1) (goA_cons (gx_bin go_int (gx_bin go_int (go_var 4))) (goA_cons (go_var 2) goA_nil))) ⟨110, zs, 65 + 5 * (0 + (k : Int)), b, rfl, rfl, hz, by omega, by omega, hb⟩) ?_ sc_law.nd)
    refine rn_ex 5 rfl fun g0 hg0 => ?_
    refine rn_to (Γ' := [s0, .dat (.list zs), .dat (pD b), .pr (bookP b), .dat (.int (0 + (k : Int))), .dat (eG g0), s6]) rfl ?_
    refine rn_cons (rs_cut (fun Γ' => ∃ g : Sg, Γ' = [s0, .dat (.list zs), .dat (pD b), .pr (bookP b), .dat (.int (0 + (k : Int))), .dat (eG g), s6] ∧ isSt b g = true) (rs_if (k := decide (z % 3 = 0)) (gocT (gx_c (.of hr) (gx_bin (gx_int bt.int (gx_ix (go_var 1) go_int)) go_int) go_int)) (fun _ => ?_) fun _ => rn_nil ⟨g0, rfl, hg0⟩) ?_)
    · refine rn_cons (rs_set 5 (go_is (d' := eG ⟨homeS b, g0.on, none, 0, 0, g0.s⟩) (gx_bin (gx_bin (gx_bin (go_tup (god_cons (go_is (d' := .str (homeS b)) (gx_ix (d := .str m0.n) (gx_ix (d := eM m0) (gx_ix (d := .list (b.modes.map eM)) (go_var 2) go_int (by exact rfl)) go_int (by exact at0)) go_int (by exact rfl)) (congrArg PyData.str e0)) god_nil)) (go_is (d' := .tuple [eL g0.on]) (go_slT (ds := [.str g0.m, eL g0.on, eO g0.r, .int g0.p, .int g0.l, .int g0.s]) (go_is (go_var 5) rfl) (goO_some go_int) (goO_some go_int)) rfl) (by exact ⟨rfl, leZ (Nat.le_of_ble_eq_true rfl)⟩)) (go_tup (god_cons go_non (god_cons go_int (god_cons go_int god_nil)))) (by exact ⟨rfl, leZ (Nat.le_of_ble_eq_true rfl)⟩)) (go_is (d' := .tuple [.int g0.s]) (go_slT (ds := [.str g0.m, eL g0.on, eO g0.r, .int g0.p, .int g0.l, .int g0.s]) (go_is (go_var 5) rfl) (goO_some go_int) goO_none) rfl) (by exact ⟨rfl, leZ (Nat.le_of_ble_eq_true rfl)⟩)) rfl) (rn_nil ⟨⟨homeS b, g0.on, none, 0, 0, g0.s⟩, rfl, ?_⟩) sc_law.nd)
      obtain ⟨h1, h2, h3, h4, h5⟩ := isSt_iff.mp hg0
      exact isSt_iff.mpr ⟨e0 ▸ List.mem_map.mpr ⟨m0, hm0, rfl⟩, h2, rfl, h4, h5⟩
    rintro _ ⟨g, rfl, hg⟩
    have hsh : SeqAt.shaped (.str (if restB b g then "True" else "False")) = true := by cases restB b g <;> decide +kernel
    refine rn_cons (rs_if (k := false) (goT_is (gocT (gc_neD (x := .str (if restB b g then "True" else "False")) (y := .str (if restB b g then "True" else "False")) (.of hr) (go_reprB (k := restB b g) (gx_call c_rests hr (by decide) (goA_cons (go_var 3) (goA_cons (go_var 5) goA_nil)) ⟨b, g, rfl, rfl, hb, hg⟩) x_repr) (go_reprB (k := restB b g) (gx_call c__law_rests hr (by decide) (goA_cons (go_var 2) (goA_cons (go_var 5) goA_nil)) ⟨b, g, rfl, rfl, hb, hg⟩) x_repr) hsh hsh)) (by rw [eqv_str, beq_self_eq_true]; rfl)) (fun h => nomatch h) fun _ => rn_nil ?_)
    obtain ⟨n, hn⟩ := rest_at hb hg
    refine rn_cons (rs_set 6 (gx_call c_rest_time hr (by decide) (goA_cons (go_var 3) (goA_cons (go_var 5) goA_nil)) ⟨b, g, n, rfl, rfl, hb, hg, hn⟩) ?_ sc_law.nd)
    refine rn_cons (rs_if (k := false) (goT_is (goW_T (goW_or (gocT (gx_c (.of hr) (go_var 6) (gx_call (R := datP (.int (n : Int))) c__law_rest_time hr (by decide) (goA_cons (go_var 2) (goA_cons (go_var 5) goA_nil)) ⟨b, g, n, rfl, rfl, hb, hg, hn⟩))) fun _ => goW_or1 (goT_val (gx_isi bt.isinstance bt.bool PyProof.Rows.boot_bool (go_var 6))))) (by simp; rfl)) (fun h => nomatch h) fun _ => rn_nil ?_)
    exact rn_nil ⟨_, _, _, _, rfl, True.intro⟩
  · rintro _ ⟨s0, s4, s5, s6, rfl, _⟩
    exact rn_cons (rs_ret go_bl)
end

/-! ### what the top has written -/
theorem exm_self {K : PySem.W.Frag} {S : Addr} (h1 : PySem.W.subIn K (.ref S) (.type "BaseException") = some true) (h2 : PySem.W.isClsIn K S = true) (h3 : PySem.W.typeIn K (.ref S) = some (.type "type")) (h4 : PySem.W.subIn K (.ref S) (.ref S) = some true) :
    PySem.W.exmOne K (.ref S) (.ref S) = some true := by
  have e1 : (PySem.W.subIn K (.ref S) (.type "BaseException") == some true) = true := by rw [h1] <;> rfl
  have e2 : ((PySem.W.clsIn K S).isSome && PySem.W.typeIn K (.ref S) == some (.type "type")) = true := by
    have h2' : (PySem.W.clsIn K S).isSome = true := h2
    rw [h2', h3] <;> rfl
  show (if (PySem.W.subIn K (.ref S) (.type "BaseException") == some true) = true then (if ((PySem.W.clsIn K S).isSome && PySem.W.typeIn K (.ref S) == some (.type "type")) = true then PySem.W.subIn K (.ref S) (.ref S) else none) else none) = some true
  rw [if_pos e1, if_pos e2]
  exact h4
section
theorem all_mk {l : PySem.W.OpenLaw} {w : World} {K : PySem.W.Frag} {h : Heap} {mg : Str → Option Value} {fa f0 f1 f2 f3 f4 f5 f6 f7 f8 f9 f10 f11 f12 f13 f14 f15 f16 f17 f18 f19 f20 f21 f22 f23 f24 f25 f26 f27 f28 f29 f30 f31 f32 f33 f34 f35 f36 f37 f38 f39 f40 f41 f42 f43 f44 f45 f46 f47 f48 f49 f50 f51 f52 f53 C_Book C_Step C_Gears C_Turn pr13 pr14 pr15 pr16 pr17 pr18 pr19 pr20 C_InvalidBook : Addr} (X : K.In h) (G : h.Ns mainGlobals mg) (hfa : mg "law" = some (.ref fa))
    {od0 an0 : Option Addr} {sl0 : Array (Option Value)} {oc0 kV0 dc0 pm0 cd0 ct0 : Value}
    {od1 an1 : Option Addr} {sl1 : Array (Option Value)} {oc1 kV1 dc1 pm1 cd1 ct1 : Value}
    {od2 an2 : Option Addr} {sl2 : Array (Option Value)} {oc2 kV2 dc2 pm2 cd2 ct2 : Value}
    {od3 an3 : Option Addr} {sl3 : Array (Option Value)} {oc3 kV3 dc3 pm3 cd3 ct3 : Value}
    {od4 an4 : Option Addr} {sl4 : Array (Option Value)} {oc4 kV4 dc4 pm4 cd4 ct4 : Value}
    {od5 an5 : Option Addr} {sl5 : Array (Option Value)} {oc5 kV5 dc5 pm5 cd5 ct5 : Value}
    {od6 an6 : Option Addr} {sl6 : Array (Option Value)} {oc6 kV6 dc6 pm6 cd6 ct6 : Value}
    {od7 an7 : Option Addr} {sl7 : Array (Option Value)} {oc7 kV7 dc7 pm7 cd7 ct7 : Value}
    {od8 an8 : Option Addr} {sl8 : Array (Option Value)} {oc8 kV8 dc8 pm8 cd8 ct8 : Value}
    {od9 an9 : Option Addr} {sl9 : Array (Option Value)} {oc9 kV9 dc9 pm9 cd9 ct9 : Value}
    {od10 an10 : Option Addr} {sl10 : Array (Option Value)} {oc10 kV10 dc10 pm10 cd10 ct10 : Value}
    {od11 an11 : Option Addr} {sl11 : Array (Option Value)} {oc11 kV11 dc11 pm11 cd11 ct11 : Value}
    {od12 an12 : Option Addr} {sl12 : Array (Option Value)} {oc12 kV12 dc12 pm12 cd12 ct12 : Value}
    {od13 an13 : Option Addr} {sl13 : Array (Option Value)} {oc13 kV13 dc13 pm13 cd13 ct13 : Value}
    {rest13 : List Value}
    {od14 an14 : Option Addr} {sl14 : Array (Option Value)} {oc14 kV14 dc14 pm14 cd14 ct14 : Value}
    {rest14 : List Value}
    {od15 an15 : Option Addr} {sl15 : Array (Option Value)} {oc15 kV15 dc15 pm15 cd15 ct15 : Value}
    {rest15 : List Value}
    {od16 an16 : Option Addr} {sl16 : Array (Option Value)} {oc16 kV16 dc16 pm16 cd16 ct16 : Value}
    {rest16 : List Value}
    {od17 an17 : Option Addr} {sl17 : Array (Option Value)} {oc17 kV17 dc17 pm17 cd17 ct17 : Value}
    {rest17 : List Value}
    {od18 an18 : Option Addr} {sl18 : Array (Option Value)} {oc18 kV18 dc18 pm18 cd18 ct18 : Value}
    {rest18 : List Value}
    {od19 an19 : Option Addr} {sl19 : Array (Option Value)} {oc19 kV19 dc19 pm19 cd19 ct19 : Value}
    {rest19 : List Value}
    {od20 an20 : Option Addr} {sl20 : Array (Option Value)} {oc20 kV20 dc20 pm20 cd20 ct20 : Value}
    {rest20 : List Value}
    {od21 an21 : Option Addr} {sl21 : Array (Option Value)} {oc21 kV21 dc21 pm21 cd21 ct21 : Value}
    {od22 an22 : Option Addr} {sl22 : Array (Option Value)} {oc22 kV22 dc22 pm22 cd22 ct22 : Value}
    {od23 an23 : Option Addr} {sl23 : Array (Option Value)} {oc23 kV23 dc23 pm23 cd23 ct23 : Value}
    {od24 an24 : Option Addr} {sl24 : Array (Option Value)} {oc24 kV24 dc24 pm24 cd24 ct24 : Value}
    {od25 an25 : Option Addr} {sl25 : Array (Option Value)} {oc25 kV25 dc25 pm25 cd25 ct25 : Value}
    {od26 an26 : Option Addr} {sl26 : Array (Option Value)} {oc26 kV26 dc26 pm26 cd26 ct26 : Value}
    {od27 an27 : Option Addr} {sl27 : Array (Option Value)} {oc27 kV27 dc27 pm27 cd27 ct27 : Value}
    {od28 an28 : Option Addr} {sl28 : Array (Option Value)} {oc28 kV28 dc28 pm28 cd28 ct28 : Value}
    {od29 an29 : Option Addr} {sl29 : Array (Option Value)} {oc29 kV29 dc29 pm29 cd29 ct29 : Value}
    {od30 an30 : Option Addr} {sl30 : Array (Option Value)} {oc30 kV30 dc30 pm30 cd30 ct30 : Value}
    {od31 an31 : Option Addr} {sl31 : Array (Option Value)} {oc31 kV31 dc31 pm31 cd31 ct31 : Value}
    {od32 an32 : Option Addr} {sl32 : Array (Option Value)} {oc32 kV32 dc32 pm32 cd32 ct32 : Value}
    {od33 an33 : Option Addr} {sl33 : Array (Option Value)} {oc33 kV33 dc33 pm33 cd33 ct33 : Value}
    {od34 an34 : Option Addr} {sl34 : Array (Option Value)} {oc34 kV34 dc34 pm34 cd34 ct34 : Value}
    {od35 an35 : Option Addr} {sl35 : Array (Option Value)} {oc35 kV35 dc35 pm35 cd35 ct35 : Value}
    {od36 an36 : Option Addr} {sl36 : Array (Option Value)} {oc36 kV36 dc36 pm36 cd36 ct36 : Value}
    {od37 an37 : Option Addr} {sl37 : Array (Option Value)} {oc37 kV37 dc37 pm37 cd37 ct37 : Value}
    {od38 an38 : Option Addr} {sl38 : Array (Option Value)} {oc38 kV38 dc38 pm38 cd38 ct38 : Value}
    {od39 an39 : Option Addr} {sl39 : Array (Option Value)} {oc39 kV39 dc39 pm39 cd39 ct39 : Value}
    {od40 an40 : Option Addr} {sl40 : Array (Option Value)} {oc40 kV40 dc40 pm40 cd40 ct40 : Value}
    {od41 an41 : Option Addr} {sl41 : Array (Option Value)} {oc41 kV41 dc41 pm41 cd41 ct41 : Value}
    {od42 an42 : Option Addr} {sl42 : Array (Option Value)} {oc42 kV42 dc42 pm42 cd42 ct42 : Value}
    {od43 an43 : Option Addr} {sl43 : Array (Option Value)} {oc43 kV43 dc43 pm43 cd43 ct43 : Value}
    {od44 an44 : Option Addr} {sl44 : Array (Option Value)} {oc44 kV44 dc44 pm44 cd44 ct44 : Value}
    {od45 an45 : Option Addr} {sl45 : Array (Option Value)} {oc45 kV45 dc45 pm45 cd45 ct45 : Value}
    {od46 an46 : Option Addr} {sl46 : Array (Option Value)} {oc46 kV46 dc46 pm46 cd46 ct46 : Value}
    {od47 an47 : Option Addr} {sl47 : Array (Option Value)} {oc47 kV47 dc47 pm47 cd47 ct47 : Value}
    {od48 an48 : Option Addr} {sl48 : Array (Option Value)} {oc48 kV48 dc48 pm48 cd48 ct48 : Value}
    {od49 an49 : Option Addr} {sl49 : Array (Option Value)} {oc49 kV49 dc49 pm49 cd49 ct49 : Value}
    {od50 an50 : Option Addr} {sl50 : Array (Option Value)} {oc50 kV50 dc50 pm50 cd50 ct50 : Value}
    {od51 an51 : Option Addr} {sl51 : Array (Option Value)} {oc51 kV51 dc51 pm51 cd51 ct51 : Value}
    {od52 an52 : Option Addr} {sl52 : Array (Option Value)} {oc52 kV52 dc52 pm52 cd52 ct52 : Value}
    {od53 an53 : Option Addr} {sl53 : Array (Option Value)} {oc53 kV53 dc53 pm53 cd53 ct53 : Value}
    {tg_LETTERS : Tok}
    {tg_MODE : Tok}
    {tg_COMMAND : Tok}
    {tg_ALARM : Tok}
    {tg_ROW : Tok}
    (aC_Book : PySem.W.nsIn K mainGlobals "Book" = some (some (.ref C_Book)))
    (pg_Book : PySem.W.plainGet K C_Book Str.empty = true)
    (hd_Book : PySem.W.hasDictIn K C_Book = true)
    (po_Book : PySem.W.plainOver K C_Book = true)
    (sa_Book : PySem.W.findIn K (.ref C_Book) "__setattr__" = some (some (.builtin "object.__setattr__")))
    (mk_Book : PySem.W.makesIn K C_Book = true)
    (kp_Book : PySem.W.keepIn K (.ref C_Book) = true)
    (na_Book__holds : PySem.W.findIn K (.ref C_Book) "_holds" = some none)
    (na_Book__barred : PySem.W.findIn K (.ref C_Book) "_barred" = some none)
    (na_Book__parts : PySem.W.findIn K (.ref C_Book) "_parts" = some none)
    (na_Book__quiet : PySem.W.findIn K (.ref C_Book) "_quiet" = some none)
    (aC_Step : PySem.W.nsIn K mainGlobals "Step" = some (some (.ref C_Step)))
    (pg_Step : PySem.W.plainGet K C_Step Str.empty = true)
    (hd_Step : PySem.W.hasDictIn K C_Step = true)
    (po_Step : PySem.W.plainOver K C_Step = true)
    (sa_Step : PySem.W.findIn K (.ref C_Step) "__setattr__" = some (some (.builtin "object.__setattr__")))
    (mk_Step : PySem.W.makesIn K C_Step = true)
    (kp_Step : PySem.W.keepIn K (.ref C_Step) = true)
    (na_Step_standing : PySem.W.findIn K (.ref C_Step) "standing" = some none)
    (na_Step_done : PySem.W.findIn K (.ref C_Step) "done" = some none)
    (na_Step_refused : PySem.W.findIn K (.ref C_Step) "refused" = some none)
    (na_Step_moments : PySem.W.findIn K (.ref C_Step) "moments" = some none)
    (aC_Gears : PySem.W.nsIn K mainGlobals "Gears" = some (some (.ref C_Gears)))
    (pg_Gears : PySem.W.plainGet K C_Gears Str.empty = true)
    (hd_Gears : PySem.W.hasDictIn K C_Gears = true)
    (po_Gears : PySem.W.plainOver K C_Gears = true)
    (sa_Gears : PySem.W.findIn K (.ref C_Gears) "__setattr__" = some (some (.builtin "object.__setattr__")))
    (mk_Gears : PySem.W.makesIn K C_Gears = true)
    (kp_Gears : PySem.W.keepIn K (.ref C_Gears) = true)
    (na_Gears_home : PySem.W.findIn K (.ref C_Gears) "home" = some none)
    (na_Gears_patience : PySem.W.findIn K (.ref C_Gears) "patience" = some none)
    (na_Gears_turns : PySem.W.findIn K (.ref C_Gears) "turns" = some none)
    (na_Gears_effects : PySem.W.findIn K (.ref C_Gears) "effects" = some none)
    (na_Gears_responses : PySem.W.findIn K (.ref C_Gears) "responses" = some none)
    (na_Gears_series : PySem.W.findIn K (.ref C_Gears) "series" = some none)
    (aC_Turn : PySem.W.nsIn K mainGlobals "Turn" = some (some (.ref C_Turn)))
    (pg_Turn : PySem.W.plainGet K C_Turn Str.empty = true)
    (hd_Turn : PySem.W.hasDictIn K C_Turn = true)
    (po_Turn : PySem.W.plainOver K C_Turn = true)
    (sa_Turn : PySem.W.findIn K (.ref C_Turn) "__setattr__" = some (some (.builtin "object.__setattr__")))
    (mk_Turn : PySem.W.makesIn K C_Turn = true)
    (kp_Turn : PySem.W.keepIn K (.ref C_Turn) = true)
    (na_Turn_gears : PySem.W.findIn K (.ref C_Turn) "gears" = some none)
    (na_Turn_mode : PySem.W.findIn K (.ref C_Turn) "mode" = some none)
    (na_Turn_lot : PySem.W.findIn K (.ref C_Turn) "lot" = some none)
    (na_Turn_row : PySem.W.findIn K (.ref C_Turn) "row" = some none)
    (na_Turn_place : PySem.W.findIn K (.ref C_Turn) "place" = some none)
    (na_Turn_left : PySem.W.findIn K (.ref C_Turn) "left" = some none)
    (na_Turn_silence : PySem.W.findIn K (.ref C_Turn) "silence" = some none)
    (na_Turn_done : PySem.W.findIn K (.ref C_Turn) "done" = some none)
    (na_Turn_refused : PySem.W.findIn K (.ref C_Turn) "refused" = some none)
    (na_Turn_moments : PySem.W.findIn K (.ref C_Turn) "moments" = some none)
    (aC_InvalidBook : PySem.W.nsIn K mainGlobals "InvalidBook" = some (some (.ref C_InvalidBook)))
    (kC_InvalidBook : PySem.W.keepIn K (.ref C_InvalidBook) = true)
    (eC_InvalidBook : PySem.W.subIn K (.ref C_InvalidBook) (.type "BaseException") = some true)
    (tC_InvalidBook : PySem.W.typeIn K (.ref C_InvalidBook) = some (.type "type"))
    (xC_InvalidBook : PySem.W.excIn K C_InvalidBook [.type "ValueError", .type "Exception", .type "BaseException", .type "object"] "ValueError.__new__" = true)
    (iC_InvalidBook : PySem.W.isClsIn K C_InvalidBook = true)
    (sC_InvalidBook : PySem.W.subIn K (.ref C_InvalidBook) (.ref C_InvalidBook) = some true)
    (zn_repr : PySem.W.nsIn K mainGlobals "repr" = some none)
    (yg_LETTERS : PySem.W.nsIn K mainGlobals "LETTERS" = some (some (.str (letS) tg_LETTERS)))
    (yg_MODE : PySem.W.nsIn K mainGlobals "MODE" = some (some (.str ("mode") tg_MODE)))
    (yg_COMMAND : PySem.W.nsIn K mainGlobals "COMMAND" = some (some (.str ("command") tg_COMMAND)))
    (yg_ALARM : PySem.W.nsIn K mainGlobals "ALARM" = some (some (.str ("alarm") tg_ALARM)))
    (yg_ROW : PySem.W.nsIn K mainGlobals "ROW" = some (some (.str ("row") tg_ROW)))
    (a0 : PySem.W.nsIn K mainGlobals "law" = some (some (.ref f0)))
    (l0 : K.lookup f0 = some ⟨oc0, od0, .func (PySem.W.fnOf "law" "law" (defArgs s_law) (defBody s_law) (defScope s_law) .none kV0 dc0 pm0 an0 cd0 ct0), sl0⟩)
    (c0 : PySem.W.codeIn K cd0 "law" = true)
    (k0 : PySem.W.keepIn K (.ref f0) = true)
    (a1 : PySem.W.nsIn K mainGlobals "_law_row" = some (some (.ref f1)))
    (l1 : K.lookup f1 = some ⟨oc1, od1, .func (PySem.W.fnOf "_law_row" "_law_row" (defArgs s__law_row) (defBody s__law_row) (defScope s__law_row) .none kV1 dc1 pm1 an1 cd1 ct1), sl1⟩)
    (c1 : PySem.W.codeIn K cd1 "_law_row" = true)
    (k1 : PySem.W.keepIn K (.ref f1) = true)
    (a2 : PySem.W.nsIn K mainGlobals "_law_numbers" = some (some (.ref f2)))
    (l2 : K.lookup f2 = some ⟨oc2, od2, .func (PySem.W.fnOf "_law_numbers" "_law_numbers" (defArgs s__law_numbers) (defBody s__law_numbers) (defScope s__law_numbers) .none kV2 dc2 pm2 an2 cd2 ct2), sl2⟩)
    (c2 : PySem.W.codeIn K cd2 "_law_numbers" = true)
    (k2 : PySem.W.keepIn K (.ref f2) = true)
    (a3 : PySem.W.nsIn K mainGlobals "is_name" = some (some (.ref f3)))
    (l3 : K.lookup f3 = some ⟨oc3, od3, .func (PySem.W.fnOf "is_name" "is_name" (defArgs s_is_name) (defBody s_is_name) (defScope s_is_name) .none kV3 dc3 pm3 an3 cd3 ct3), sl3⟩)
    (c3 : PySem.W.codeIn K cd3 "is_name" = true)
    (k3 : PySem.W.keepIn K (.ref f3) = true)
    (a4 : PySem.W.nsIn K mainGlobals "is_lot" = some (some (.ref f4)))
    (l4 : K.lookup f4 = some ⟨oc4, od4, .func (PySem.W.fnOf "is_lot" "is_lot" (defArgs s_is_lot) (defBody s_is_lot) (defScope s_is_lot) .none kV4 dc4 pm4 an4 cd4 ct4), sl4⟩)
    (c4 : PySem.W.codeIn K cd4 "is_lot" = true)
    (k4 : PySem.W.keepIn K (.ref f4) = true)
    (a5 : PySem.W.nsIn K mainGlobals "is_lot_of" = some (some (.ref f5)))
    (l5 : K.lookup f5 = some ⟨oc5, od5, .func (PySem.W.fnOf "is_lot_of" "is_lot_of" (defArgs s_is_lot_of) (defBody s_is_lot_of) (defScope s_is_lot_of) .none kV5 dc5 pm5 an5 cd5 ct5), sl5⟩)
    (c5 : PySem.W.codeIn K cd5 "is_lot_of" = true)
    (k5 : PySem.W.keepIn K (.ref f5) = true)
    (a6 : PySem.W.nsIn K mainGlobals "are_turned" = some (some (.ref f6)))
    (l6 : K.lookup f6 = some ⟨oc6, od6, .func (PySem.W.fnOf "are_turned" "are_turned" (defArgs s_are_turned) (defBody s_are_turned) (defScope s_are_turned) .none kV6 dc6 pm6 an6 cd6 ct6), sl6⟩)
    (c6 : PySem.W.codeIn K cd6 "are_turned" = true)
    (k6 : PySem.W.keepIn K (.ref f6) = true)
    (a7 : PySem.W.nsIn K mainGlobals "require" = some (some (.ref f7)))
    (l7 : K.lookup f7 = some ⟨oc7, od7, .func (PySem.W.fnOf "require" "require" (defArgs s_require) (defBody s_require) (defScope s_require) .none kV7 dc7 pm7 an7 cd7 ct7), sl7⟩)
    (c7 : PySem.W.codeIn K cd7 "require" = true)
    (k7 : PySem.W.keepIn K (.ref f7) = true)
    (a8 : PySem.W.nsIn K mainGlobals "require_names" = some (some (.ref f8)))
    (l8 : K.lookup f8 = some ⟨oc8, od8, .func (PySem.W.fnOf "require_names" "require_names" (defArgs s_require_names) (defBody s_require_names) (defScope s_require_names) .none kV8 dc8 pm8 an8 cd8 ct8), sl8⟩)
    (c8 : PySem.W.codeIn K cd8 "require_names" = true)
    (k8 : PySem.W.keepIn K (.ref f8) = true)
    (a9 : PySem.W.nsIn K mainGlobals "is_effect" = some (some (.ref f9)))
    (l9 : K.lookup f9 = some ⟨oc9, od9, .func (PySem.W.fnOf "is_effect" "is_effect" (defArgs s_is_effect) (defBody s_is_effect) (defScope s_is_effect) .none kV9 dc9 pm9 an9 cd9 ct9), sl9⟩)
    (c9 : PySem.W.codeIn K cd9 "is_effect" = true)
    (k9 : PySem.W.keepIn K (.ref f9) = true)
    (a10 : PySem.W.nsIn K mainGlobals "is_step" = some (some (.ref f10)))
    (l10 : K.lookup f10 = some ⟨oc10, od10, .func (PySem.W.fnOf "is_step" "is_step" (defArgs s_is_step) (defBody s_is_step) (defScope s_is_step) .none kV10 dc10 pm10 an10 cd10 ct10), sl10⟩)
    (c10 : PySem.W.codeIn K cd10 "is_step" = true)
    (k10 : PySem.W.keepIn K (.ref f10) = true)
    (a11 : PySem.W.nsIn K mainGlobals "names_of" = some (some (.ref f11)))
    (l11 : K.lookup f11 = some ⟨oc11, od11, .func (PySem.W.fnOf "names_of" "names_of" (defArgs s_names_of) (defBody s_names_of) (defScope s_names_of) .none kV11 dc11 pm11 an11 cd11 ct11), sl11⟩)
    (c11 : PySem.W.codeIn K cd11 "names_of" = true)
    (k11 : PySem.W.keepIn K (.ref f11) = true)
    (a12 : PySem.W.findIn K (.ref C_Book) "__init__" = some (some (.ref f12)))
    (l12 : K.lookup f12 = some ⟨oc12, od12, .func (PySem.W.fnOf "__init__" "Book.__init__" (defArgs s_Book___init__) (defBody s_Book___init__) (defScope s_Book___init__) .none kV12 dc12 pm12 an12 cd12 ct12), sl12⟩)
    (c12 : PySem.W.codeIn K cd12 "Book.__init__" = true)
    (k12 : PySem.W.keepIn K (.ref f12) = true)
    (j12 : PySem.W.isFn K (.ref f12) = true)
    (a13 : PySem.W.findIn K (.ref C_Book) "holds" = some (some (.ref pr13)))
    (g13 : PySem.W.specialIn K (.ref pr13) "__get__" = some (some (.builtin "property.__get__")))
    (tk13 : PySem.W.takesIn K (.ref pr13) = some true)
    (r13 : PySem.W.recIn K pr13 "property" = some (.ref f13 :: rest13))
    (l13 : K.lookup f13 = some ⟨oc13, od13, .func (PySem.W.fnOf "holds" "Book.holds" (defArgs s_Book_holds) (defBody s_Book_holds) (defScope s_Book_holds) .none kV13 dc13 pm13 an13 cd13 ct13), sl13⟩)
    (c13 : PySem.W.codeIn K cd13 "Book.holds" = true)
    (k13 : PySem.W.keepIn K (.ref f13) = true)
    (a14 : PySem.W.findIn K (.ref C_Book) "modes" = some (some (.ref pr14)))
    (g14 : PySem.W.specialIn K (.ref pr14) "__get__" = some (some (.builtin "property.__get__")))
    (tk14 : PySem.W.takesIn K (.ref pr14) = some true)
    (r14 : PySem.W.recIn K pr14 "property" = some (.ref f14 :: rest14))
    (l14 : K.lookup f14 = some ⟨oc14, od14, .func (PySem.W.fnOf "modes" "Book.modes" (defArgs s_Book_modes) (defBody s_Book_modes) (defScope s_Book_modes) .none kV14 dc14 pm14 an14 cd14 ct14), sl14⟩)
    (c14 : PySem.W.codeIn K cd14 "Book.modes" = true)
    (k14 : PySem.W.keepIn K (.ref f14) = true)
    (a15 : PySem.W.findIn K (.ref C_Book) "commands" = some (some (.ref pr15)))
    (g15 : PySem.W.specialIn K (.ref pr15) "__get__" = some (some (.builtin "property.__get__")))
    (tk15 : PySem.W.takesIn K (.ref pr15) = some true)
    (r15 : PySem.W.recIn K pr15 "property" = some (.ref f15 :: rest15))
    (l15 : K.lookup f15 = some ⟨oc15, od15, .func (PySem.W.fnOf "commands" "Book.commands" (defArgs s_Book_commands) (defBody s_Book_commands) (defScope s_Book_commands) .none kV15 dc15 pm15 an15 cd15 ct15), sl15⟩)
    (c15 : PySem.W.codeIn K cd15 "Book.commands" = true)
    (k15 : PySem.W.keepIn K (.ref f15) = true)
    (a16 : PySem.W.findIn K (.ref C_Book) "alarms" = some (some (.ref pr16)))
    (g16 : PySem.W.specialIn K (.ref pr16) "__get__" = some (some (.builtin "property.__get__")))
    (tk16 : PySem.W.takesIn K (.ref pr16) = some true)
    (r16 : PySem.W.recIn K pr16 "property" = some (.ref f16 :: rest16))
    (l16 : K.lookup f16 = some ⟨oc16, od16, .func (PySem.W.fnOf "alarms" "Book.alarms" (defArgs s_Book_alarms) (defBody s_Book_alarms) (defScope s_Book_alarms) .none kV16 dc16 pm16 an16 cd16 ct16), sl16⟩)
    (c16 : PySem.W.codeIn K cd16 "Book.alarms" = true)
    (k16 : PySem.W.keepIn K (.ref f16) = true)
    (a17 : PySem.W.findIn K (.ref C_Book) "rows" = some (some (.ref pr17)))
    (g17 : PySem.W.specialIn K (.ref pr17) "__get__" = some (some (.builtin "property.__get__")))
    (tk17 : PySem.W.takesIn K (.ref pr17) = some true)
    (r17 : PySem.W.recIn K pr17 "property" = some (.ref f17 :: rest17))
    (l17 : K.lookup f17 = some ⟨oc17, od17, .func (PySem.W.fnOf "rows" "Book.rows" (defArgs s_Book_rows) (defBody s_Book_rows) (defScope s_Book_rows) .none kV17 dc17 pm17 an17 cd17 ct17), sl17⟩)
    (c17 : PySem.W.codeIn K cd17 "Book.rows" = true)
    (k17 : PySem.W.keepIn K (.ref f17) = true)
    (a18 : PySem.W.findIn K (.ref C_Book) "quiet" = some (some (.ref pr18)))
    (g18 : PySem.W.specialIn K (.ref pr18) "__get__" = some (some (.builtin "property.__get__")))
    (tk18 : PySem.W.takesIn K (.ref pr18) = some true)
    (r18 : PySem.W.recIn K pr18 "property" = some (.ref f18 :: rest18))
    (l18 : K.lookup f18 = some ⟨oc18, od18, .func (PySem.W.fnOf "quiet" "Book.quiet" (defArgs s_Book_quiet) (defBody s_Book_quiet) (defScope s_Book_quiet) .none kV18 dc18 pm18 an18 cd18 ct18), sl18⟩)
    (c18 : PySem.W.codeIn K cd18 "Book.quiet" = true)
    (k18 : PySem.W.keepIn K (.ref f18) = true)
    (a19 : PySem.W.findIn K (.ref C_Book) "barred" = some (some (.ref pr19)))
    (g19 : PySem.W.specialIn K (.ref pr19) "__get__" = some (some (.builtin "property.__get__")))
    (tk19 : PySem.W.takesIn K (.ref pr19) = some true)
    (r19 : PySem.W.recIn K pr19 "property" = some (.ref f19 :: rest19))
    (l19 : K.lookup f19 = some ⟨oc19, od19, .func (PySem.W.fnOf "barred" "Book.barred" (defArgs s_Book_barred) (defBody s_Book_barred) (defScope s_Book_barred) .none kV19 dc19 pm19 an19 cd19 ct19), sl19⟩)
    (c19 : PySem.W.codeIn K cd19 "Book.barred" = true)
    (k19 : PySem.W.keepIn K (.ref f19) = true)
    (a20 : PySem.W.findIn K (.ref C_Book) "safe" = some (some (.ref pr20)))
    (g20 : PySem.W.specialIn K (.ref pr20) "__get__" = some (some (.builtin "property.__get__")))
    (tk20 : PySem.W.takesIn K (.ref pr20) = some true)
    (r20 : PySem.W.recIn K pr20 "property" = some (.ref f20 :: rest20))
    (l20 : K.lookup f20 = some ⟨oc20, od20, .func (PySem.W.fnOf "safe" "Book.safe" (defArgs s_Book_safe) (defBody s_Book_safe) (defScope s_Book_safe) .none kV20 dc20 pm20 an20 cd20 ct20), sl20⟩)
    (c20 : PySem.W.codeIn K cd20 "Book.safe" = true)
    (k20 : PySem.W.keepIn K (.ref f20) = true)
    (a21 : PySem.W.findIn K (.ref C_Step) "__init__" = some (some (.ref f21)))
    (l21 : K.lookup f21 = some ⟨oc21, od21, .func (PySem.W.fnOf "__init__" "Step.__init__" (defArgs s_Step___init__) (defBody s_Step___init__) (defScope s_Step___init__) .none kV21 dc21 pm21 an21 cd21 ct21), sl21⟩)
    (c21 : PySem.W.codeIn K cd21 "Step.__init__" = true)
    (k21 : PySem.W.keepIn K (.ref f21) = true)
    (j21 : PySem.W.isFn K (.ref f21) = true)
    (a22 : PySem.W.findIn K (.ref C_Gears) "__init__" = some (some (.ref f22)))
    (l22 : K.lookup f22 = some ⟨oc22, od22, .func (PySem.W.fnOf "__init__" "Gears.__init__" (defArgs s_Gears___init__) (defBody s_Gears___init__) (defScope s_Gears___init__) .none kV22 dc22 pm22 an22 cd22 ct22), sl22⟩)
    (c22 : PySem.W.codeIn K cd22 "Gears.__init__" = true)
    (k22 : PySem.W.keepIn K (.ref f22) = true)
    (j22 : PySem.W.isFn K (.ref f22) = true)
    (a23 : PySem.W.nsIn K mainGlobals "turned" = some (some (.ref f23)))
    (l23 : K.lookup f23 = some ⟨oc23, od23, .func (PySem.W.fnOf "turned" "turned" (defArgs s_turned) (defBody s_turned) (defScope s_turned) .none kV23 dc23 pm23 an23 cd23 ct23), sl23⟩)
    (c23 : PySem.W.codeIn K cd23 "turned" = true)
    (k23 : PySem.W.keepIn K (.ref f23) = true)
    (a24 : PySem.W.findIn K (.ref C_Turn) "__init__" = some (some (.ref f24)))
    (l24 : K.lookup f24 = some ⟨oc24, od24, .func (PySem.W.fnOf "__init__" "Turn.__init__" (defArgs s_Turn___init__) (defBody s_Turn___init__) (defScope s_Turn___init__) .none kV24 dc24 pm24 an24 cd24 ct24), sl24⟩)
    (c24 : PySem.W.codeIn K cd24 "Turn.__init__" = true)
    (k24 : PySem.W.keepIn K (.ref f24) = true)
    (j24 : PySem.W.isFn K (.ref f24) = true)
    (a25 : PySem.W.findIn K (.ref C_Turn) "effect" = some (some (.ref f25)))
    (l25 : K.lookup f25 = some ⟨oc25, od25, .func (PySem.W.fnOf "effect" "Turn.effect" (defArgs s_Turn_effect) (defBody s_Turn_effect) (defScope s_Turn_effect) .none kV25 dc25 pm25 an25 cd25 ct25), sl25⟩)
    (c25 : PySem.W.codeIn K cd25 "Turn.effect" = true)
    (k25 : PySem.W.keepIn K (.ref f25) = true)
    (j25 : PySem.W.isFn K (.ref f25) = true)
    (a26 : PySem.W.findIn K (.ref C_Turn) "halt" = some (some (.ref f26)))
    (l26 : K.lookup f26 = some ⟨oc26, od26, .func (PySem.W.fnOf "halt" "Turn.halt" (defArgs s_Turn_halt) (defBody s_Turn_halt) (defScope s_Turn_halt) .none kV26 dc26 pm26 an26 cd26 ct26), sl26⟩)
    (c26 : PySem.W.codeIn K cd26 "Turn.halt" = true)
    (k26 : PySem.W.keepIn K (.ref f26) = true)
    (j26 : PySem.W.isFn K (.ref f26) = true)
    (a27 : PySem.W.findIn K (.ref C_Turn) "begin" = some (some (.ref f27)))
    (l27 : K.lookup f27 = some ⟨oc27, od27, .func (PySem.W.fnOf "begin" "Turn.begin" (defArgs s_Turn_begin) (defBody s_Turn_begin) (defScope s_Turn_begin) .none kV27 dc27 pm27 an27 cd27 ct27), sl27⟩)
    (c27 : PySem.W.codeIn K cd27 "Turn.begin" = true)
    (k27 : PySem.W.keepIn K (.ref f27) = true)
    (j27 : PySem.W.isFn K (.ref f27) = true)
    (a28 : PySem.W.findIn K (.ref C_Turn) "command" = some (some (.ref f28)))
    (l28 : K.lookup f28 = some ⟨oc28, od28, .func (PySem.W.fnOf "command" "Turn.command" (defArgs s_Turn_command) (defBody s_Turn_command) (defScope s_Turn_command) .none kV28 dc28 pm28 an28 cd28 ct28), sl28⟩)
    (c28 : PySem.W.codeIn K cd28 "Turn.command" = true)
    (k28 : PySem.W.keepIn K (.ref f28) = true)
    (j28 : PySem.W.isFn K (.ref f28) = true)
    (a29 : PySem.W.findIn K (.ref C_Turn) "answer" = some (some (.ref f29)))
    (l29 : K.lookup f29 = some ⟨oc29, od29, .func (PySem.W.fnOf "answer" "Turn.answer" (defArgs s_Turn_answer) (defBody s_Turn_answer) (defScope s_Turn_answer) .none kV29 dc29 pm29 an29 cd29 ct29), sl29⟩)
    (c29 : PySem.W.codeIn K cd29 "Turn.answer" = true)
    (k29 : PySem.W.keepIn K (.ref f29) = true)
    (j29 : PySem.W.isFn K (.ref f29) = true)
    (a30 : PySem.W.findIn K (.ref C_Turn) "wait" = some (some (.ref f30)))
    (l30 : K.lookup f30 = some ⟨oc30, od30, .func (PySem.W.fnOf "wait" "Turn.wait" (defArgs s_Turn_wait) (defBody s_Turn_wait) (defScope s_Turn_wait) .none kV30 dc30 pm30 an30 cd30 ct30), sl30⟩)
    (c30 : PySem.W.codeIn K cd30 "Turn.wait" = true)
    (k30 : PySem.W.keepIn K (.ref f30) = true)
    (j30 : PySem.W.isFn K (.ref f30) = true)
    (a31 : PySem.W.findIn K (.ref C_Turn) "go_on" = some (some (.ref f31)))
    (l31 : K.lookup f31 = some ⟨oc31, od31, .func (PySem.W.fnOf "go_on" "Turn.go_on" (defArgs s_Turn_go_on) (defBody s_Turn_go_on) (defScope s_Turn_go_on) .none kV31 dc31 pm31 an31 cd31 ct31), sl31⟩)
    (c31 : PySem.W.codeIn K cd31 "Turn.go_on" = true)
    (k31 : PySem.W.keepIn K (.ref f31) = true)
    (j31 : PySem.W.isFn K (.ref f31) = true)
    (a32 : PySem.W.findIn K (.ref C_Turn) "obey" = some (some (.ref f32)))
    (l32 : K.lookup f32 = some ⟨oc32, od32, .func (PySem.W.fnOf "obey" "Turn.obey" (defArgs s_Turn_obey) (defBody s_Turn_obey) (defScope s_Turn_obey) .none kV32 dc32 pm32 an32 cd32 ct32), sl32⟩)
    (c32 : PySem.W.codeIn K cd32 "Turn.obey" = true)
    (k32 : PySem.W.keepIn K (.ref f32) = true)
    (j32 : PySem.W.isFn K (.ref f32) = true)
    (a33 : PySem.W.findIn K (.ref C_Turn) "step" = some (some (.ref f33)))
    (l33 : K.lookup f33 = some ⟨oc33, od33, .func (PySem.W.fnOf "step" "Turn.step" (defArgs s_Turn_step) (defBody s_Turn_step) (defScope s_Turn_step) .none kV33 dc33 pm33 an33 cd33 ct33), sl33⟩)
    (c33 : PySem.W.codeIn K cd33 "Turn.step" = true)
    (k33 : PySem.W.keepIn K (.ref f33) = true)
    (j33 : PySem.W.isFn K (.ref f33) = true)
    (a34 : PySem.W.nsIn K mainGlobals "tick_by" = some (some (.ref f34)))
    (l34 : K.lookup f34 = some ⟨oc34, od34, .func (PySem.W.fnOf "tick_by" "tick_by" (defArgs s_tick_by) (defBody s_tick_by) (defScope s_tick_by) .none kV34 dc34 pm34 an34 cd34 ct34), sl34⟩)
    (c34 : PySem.W.codeIn K cd34 "tick_by" = true)
    (k34 : PySem.W.keepIn K (.ref f34) = true)
    (a35 : PySem.W.nsIn K mainGlobals "_law_names" = some (some (.ref f35)))
    (l35 : K.lookup f35 = some ⟨oc35, od35, .func (PySem.W.fnOf "_law_names" "_law_names" (defArgs s__law_names) (defBody s__law_names) (defScope s__law_names) .none kV35 dc35 pm35 an35 cd35 ct35), sl35⟩)
    (c35 : PySem.W.codeIn K cd35 "_law_names" = true)
    (k35 : PySem.W.keepIn K (.ref f35) = true)
    (a36 : PySem.W.nsIn K mainGlobals "_law_lot" = some (some (.ref f36)))
    (l36 : K.lookup f36 = some ⟨oc36, od36, .func (PySem.W.fnOf "_law_lot" "_law_lot" (defArgs s__law_lot) (defBody s__law_lot) (defScope s__law_lot) .none kV36 dc36 pm36 an36 cd36 ct36), sl36⟩)
    (c36 : PySem.W.codeIn K cd36 "_law_lot" = true)
    (k36 : PySem.W.keepIn K (.ref f36) = true)
    (a37 : PySem.W.nsIn K mainGlobals "_law_turned" = some (some (.ref f37)))
    (l37 : K.lookup f37 = some ⟨oc37, od37, .func (PySem.W.fnOf "_law_turned" "_law_turned" (defArgs s__law_turned) (defBody s__law_turned) (defScope s__law_turned) .none kV37 dc37 pm37 an37 cd37 ct37), sl37⟩)
    (c37 : PySem.W.codeIn K cd37 "_law_turned" = true)
    (k37 : PySem.W.keepIn K (.ref f37) = true)
    (a38 : PySem.W.nsIn K mainGlobals "_law_to" = some (some (.ref f38)))
    (l38 : K.lookup f38 = some ⟨oc38, od38, .func (PySem.W.fnOf "_law_to" "_law_to" (defArgs s__law_to) (defBody s__law_to) (defScope s__law_to) .none kV38 dc38 pm38 an38 cd38 ct38), sl38⟩)
    (c38 : PySem.W.codeIn K cd38 "_law_to" = true)
    (k38 : PySem.W.keepIn K (.ref f38) = true)
    (a39 : PySem.W.nsIn K mainGlobals "_law_effect" = some (some (.ref f39)))
    (l39 : K.lookup f39 = some ⟨oc39, od39, .func (PySem.W.fnOf "_law_effect" "_law_effect" (defArgs s__law_effect) (defBody s__law_effect) (defScope s__law_effect) .none kV39 dc39 pm39 an39 cd39 ct39), sl39⟩)
    (c39 : PySem.W.codeIn K cd39 "_law_effect" = true)
    (k39 : PySem.W.keepIn K (.ref f39) = true)
    (a40 : PySem.W.nsIn K mainGlobals "_law_book" = some (some (.ref f40)))
    (l40 : K.lookup f40 = some ⟨oc40, od40, .func (PySem.W.fnOf "_law_book" "_law_book" (defArgs s__law_book) (defBody s__law_book) (defScope s__law_book) .none kV40 dc40 pm40 an40 cd40 ct40), sl40⟩)
    (c40 : PySem.W.codeIn K cd40 "_law_book" = true)
    (k40 : PySem.W.keepIn K (.ref f40) = true)
    (a41 : PySem.W.nsIn K mainGlobals "_law_made" = some (some (.ref f41)))
    (l41 : K.lookup f41 = some ⟨oc41, od41, .func (PySem.W.fnOf "_law_made" "_law_made" (defArgs s__law_made) (defBody s__law_made) (defScope s__law_made) .none kV41 dc41 pm41 an41 cd41 ct41), sl41⟩)
    (c41 : PySem.W.codeIn K cd41 "_law_made" = true)
    (k41 : PySem.W.keepIn K (.ref f41) = true)
    (a42 : PySem.W.nsIn K mainGlobals "_law_change" = some (some (.ref f42)))
    (l42 : K.lookup f42 = some ⟨oc42, od42, .func (PySem.W.fnOf "_law_change" "_law_change" (defArgs s__law_change) (defBody s__law_change) (defScope s__law_change) .none kV42 dc42 pm42 an42 cd42 ct42), sl42⟩)
    (c42 : PySem.W.codeIn K cd42 "_law_change" = true)
    (k42 : PySem.W.keepIn K (.ref f42) = true)
    (a43 : PySem.W.nsIn K mainGlobals "_law_effected" = some (some (.ref f43)))
    (l43 : K.lookup f43 = some ⟨oc43, od43, .func (PySem.W.fnOf "_law_effected" "_law_effected" (defArgs s__law_effected) (defBody s__law_effected) (defScope s__law_effected) .none kV43 dc43 pm43 an43 cd43 ct43), sl43⟩)
    (c43 : PySem.W.codeIn K cd43 "_law_effected" = true)
    (k43 : PySem.W.keepIn K (.ref f43) = true)
    (a44 : PySem.W.nsIn K mainGlobals "_law_steps_of" = some (some (.ref f44)))
    (l44 : K.lookup f44 = some ⟨oc44, od44, .func (PySem.W.fnOf "_law_steps_of" "_law_steps_of" (defArgs s__law_steps_of) (defBody s__law_steps_of) (defScope s__law_steps_of) .none kV44 dc44 pm44 an44 cd44 ct44), sl44⟩)
    (c44 : PySem.W.codeIn K cd44 "_law_steps_of" = true)
    (k44 : PySem.W.keepIn K (.ref f44) = true)
    (a45 : PySem.W.nsIn K mainGlobals "_law_command" = some (some (.ref f45)))
    (l45 : K.lookup f45 = some ⟨oc45, od45, .func (PySem.W.fnOf "_law_command" "_law_command" (defArgs s__law_command) (defBody s__law_command) (defScope s__law_command) .none kV45 dc45 pm45 an45 cd45 ct45), sl45⟩)
    (c45 : PySem.W.codeIn K cd45 "_law_command" = true)
    (k45 : PySem.W.keepIn K (.ref f45) = true)
    (a46 : PySem.W.nsIn K mainGlobals "_law_running" = some (some (.ref f46)))
    (l46 : K.lookup f46 = some ⟨oc46, od46, .func (PySem.W.fnOf "_law_running" "_law_running" (defArgs s__law_running) (defBody s__law_running) (defScope s__law_running) .none kV46 dc46 pm46 an46 cd46 ct46), sl46⟩)
    (c46 : PySem.W.codeIn K cd46 "_law_running" = true)
    (k46 : PySem.W.keepIn K (.ref f46) = true)
    (a47 : PySem.W.nsIn K mainGlobals "_law_tick" = some (some (.ref f47)))
    (l47 : K.lookup f47 = some ⟨oc47, od47, .func (PySem.W.fnOf "_law_tick" "_law_tick" (defArgs s__law_tick) (defBody s__law_tick) (defScope s__law_tick) .none kV47 dc47 pm47 an47 cd47 ct47), sl47⟩)
    (c47 : PySem.W.codeIn K cd47 "_law_tick" = true)
    (k47 : PySem.W.keepIn K (.ref f47) = true)
    (a48 : PySem.W.nsIn K mainGlobals "_law_standing" = some (some (.ref f48)))
    (l48 : K.lookup f48 = some ⟨oc48, od48, .func (PySem.W.fnOf "_law_standing" "_law_standing" (defArgs s__law_standing) (defBody s__law_standing) (defScope s__law_standing) .none kV48 dc48 pm48 an48 cd48 ct48), sl48⟩)
    (c48 : PySem.W.codeIn K cd48 "_law_standing" = true)
    (k48 : PySem.W.keepIn K (.ref f48) = true)
    (a49 : PySem.W.nsIn K mainGlobals "is_at_rest" = some (some (.ref f49)))
    (l49 : K.lookup f49 = some ⟨oc49, od49, .func (PySem.W.fnOf "is_at_rest" "is_at_rest" (defArgs s_is_at_rest) (defBody s_is_at_rest) (defScope s_is_at_rest) .none kV49 dc49 pm49 an49 cd49 ct49), sl49⟩)
    (c49 : PySem.W.codeIn K cd49 "is_at_rest" = true)
    (k49 : PySem.W.keepIn K (.ref f49) = true)
    (a50 : PySem.W.nsIn K mainGlobals "rests" = some (some (.ref f50)))
    (l50 : K.lookup f50 = some ⟨oc50, od50, .func (PySem.W.fnOf "rests" "rests" (defArgs s_rests) (defBody s_rests) (defScope s_rests) .none kV50 dc50 pm50 an50 cd50 ct50), sl50⟩)
    (c50 : PySem.W.codeIn K cd50 "rests" = true)
    (k50 : PySem.W.keepIn K (.ref f50) = true)
    (a51 : PySem.W.nsIn K mainGlobals "rest_time" = some (some (.ref f51)))
    (l51 : K.lookup f51 = some ⟨oc51, od51, .func (PySem.W.fnOf "rest_time" "rest_time" (defArgs s_rest_time) (defBody s_rest_time) (defScope s_rest_time) .none kV51 dc51 pm51 an51 cd51 ct51), sl51⟩)
    (c51 : PySem.W.codeIn K cd51 "rest_time" = true)
    (k51 : PySem.W.keepIn K (.ref f51) = true)
    (a52 : PySem.W.nsIn K mainGlobals "_law_rests" = some (some (.ref f52)))
    (l52 : K.lookup f52 = some ⟨oc52, od52, .func (PySem.W.fnOf "_law_rests" "_law_rests" (defArgs s__law_rests) (defBody s__law_rests) (defScope s__law_rests) .none kV52 dc52 pm52 an52 cd52 ct52), sl52⟩)
    (c52 : PySem.W.codeIn K cd52 "_law_rests" = true)
    (k52 : PySem.W.keepIn K (.ref f52) = true)
    (a53 : PySem.W.nsIn K mainGlobals "_law_rest_time" = some (some (.ref f53)))
    (l53 : K.lookup f53 = some ⟨oc53, od53, .func (PySem.W.fnOf "_law_rest_time" "_law_rest_time" (defArgs s__law_rest_time) (defBody s__law_rest_time) (defScope s__law_rest_time) .none kV53 dc53 pm53 an53 cd53 ct53), sl53⟩)
    (c53 : PySem.W.codeIn K cd53 "_law_rest_time" = true)
    (k53 : PySem.W.keepIn K (.ref f53) = true)
    (z0 : PySem.W.nsIn K mainGlobals "abs" = some none) (z1 : PySem.W.nsIn K mainGlobals "int" = some none) (z2 : PySem.W.nsIn K mainGlobals "len" = some none) (z3 : PySem.W.nsIn K mainGlobals "max" = some none) (z4 : PySem.W.nsIn K mainGlobals "range" = some none) (z5 : PySem.W.nsIn K mainGlobals "list" = some none) (z6 : PySem.W.nsIn K mainGlobals "all" = some none) (z7 : PySem.W.nsIn K mainGlobals "any" = some none) (z8 : PySem.W.nsIn K mainGlobals "sum" = some none) (z9 : PySem.W.nsIn K mainGlobals "tuple" = some none) (z10 : PySem.W.nsIn K mainGlobals "sorted" = some none) (z11 : PySem.W.nsIn K mainGlobals "set" = some none) (z12 : PySem.W.nsIn K mainGlobals "enumerate" = some none) (z13 : PySem.W.nsIn K mainGlobals "zip" = some none) (z14 : PySem.W.nsIn K mainGlobals "isinstance" = some none) (z15 : PySem.W.nsIn K mainGlobals "str" = some none) (z16 : PySem.W.nsIn K mainGlobals "bool" = some none) (z17 : PySem.W.nsIn K mainGlobals "min" = some none)  :
    ∃ fd : FuncData, (∀ (s : Shared) (v : Value), BindsTo s fd ⟨[v], []⟩ [("_law_script", v)]) ∧ ∀ base : Heap, K.In base → base.Ns mainGlobals mg → FnOk l.prog w K mg base CX0 9 fa fd ["_law_script"] (spLaw K) := by
  have F0 := fun_mk (st := s_law) l0 c0 k0
  have F1 := fun_mk (st := s__law_row) l1 c1 k1
  have F2 := fun_mk (st := s__law_numbers) l2 c2 k2
  have F3 := fun_mk (st := s_is_name) l3 c3 k3
  have F4 := fun_mk (st := s_is_lot) l4 c4 k4
  have F5 := fun_mk (st := s_is_lot_of) l5 c5 k5
  have F6 := fun_mk (st := s_are_turned) l6 c6 k6
  have F7 := fun_mk (st := s_require) l7 c7 k7
  have F8 := fun_mk (st := s_require_names) l8 c8 k8
  have F9 := fun_mk (st := s_is_effect) l9 c9 k9
  have F10 := fun_mk (st := s_is_step) l10 c10 k10
  have F11 := fun_mk (st := s_names_of) l11 c11 k11
  have F12 := fun_mk (st := s_Book___init__) l12 c12 k12
  have F13 := fun_mk (st := s_Book_holds) l13 c13 k13
  have F14 := fun_mk (st := s_Book_modes) l14 c14 k14
  have F15 := fun_mk (st := s_Book_commands) l15 c15 k15
  have F16 := fun_mk (st := s_Book_alarms) l16 c16 k16
  have F17 := fun_mk (st := s_Book_rows) l17 c17 k17
  have F18 := fun_mk (st := s_Book_quiet) l18 c18 k18
  have F19 := fun_mk (st := s_Book_barred) l19 c19 k19
  have F20 := fun_mk (st := s_Book_safe) l20 c20 k20
  have F21 := fun_mk (st := s_Step___init__) l21 c21 k21
  have F22 := fun_mk (st := s_Gears___init__) l22 c22 k22
  have F23 := fun_mk (st := s_turned) l23 c23 k23
  have F24 := fun_mk (st := s_Turn___init__) l24 c24 k24
  have F25 := fun_mk (st := s_Turn_effect) l25 c25 k25
  have F26 := fun_mk (st := s_Turn_halt) l26 c26 k26
  have F27 := fun_mk (st := s_Turn_begin) l27 c27 k27
  have F28 := fun_mk (st := s_Turn_command) l28 c28 k28
  have F29 := fun_mk (st := s_Turn_answer) l29 c29 k29
  have F30 := fun_mk (st := s_Turn_wait) l30 c30 k30
  have F31 := fun_mk (st := s_Turn_go_on) l31 c31 k31
  have F32 := fun_mk (st := s_Turn_obey) l32 c32 k32
  have F33 := fun_mk (st := s_Turn_step) l33 c33 k33
  have F34 := fun_mk (st := s_tick_by) l34 c34 k34
  have F35 := fun_mk (st := s__law_names) l35 c35 k35
  have F36 := fun_mk (st := s__law_lot) l36 c36 k36
  have F37 := fun_mk (st := s__law_turned) l37 c37 k37
  have F38 := fun_mk (st := s__law_to) l38 c38 k38
  have F39 := fun_mk (st := s__law_effect) l39 c39 k39
  have F40 := fun_mk (st := s__law_book) l40 c40 k40
  have F41 := fun_mk (st := s__law_made) l41 c41 k41
  have F42 := fun_mk (st := s__law_change) l42 c42 k42
  have F43 := fun_mk (st := s__law_effected) l43 c43 k43
  have F44 := fun_mk (st := s__law_steps_of) l44 c44 k44
  have F45 := fun_mk (st := s__law_command) l45 c45 k45
  have F46 := fun_mk (st := s__law_running) l46 c46 k46
  have F47 := fun_mk (st := s__law_tick) l47 c47 k47
  have F48 := fun_mk (st := s__law_standing) l48 c48 k48
  have F49 := fun_mk (st := s_is_at_rest) l49 c49 k49
  have F50 := fun_mk (st := s_rests) l50 c50 k50
  have F51 := fun_mk (st := s_rest_time) l51 c51 k51
  have F52 := fun_mk (st := s__law_rests) l52 c52 k52
  have F53 := fun_mk (st := s__law_rest_time) l53 c53 k53
  have e := hfa.symm.trans (PySem.W.mg_of X G a0)
  cases e
  have CL_Book : Cls K C_Book := ⟨pg_Book, hd_Book, po_Book, sa_Book⟩
  have O_Book : ClsOk K "Book" ["_holds", "_barred", "_parts", "_quiet"] := ⟨fun C h => (ClsAt.eq aC_Book h) ▸ CL_Book, fun C f h hf => by
    cases ClsAt.eq aC_Book h
    simp only [List.mem_cons, List.not_mem_nil, or_false] at hf
    rcases hf with rfl | rfl | rfl | rfl
    all_goals assumption⟩
  have CL_Step : Cls K C_Step := ⟨pg_Step, hd_Step, po_Step, sa_Step⟩
  have O_Step : ClsOk K "Step" ["standing", "done", "refused", "moments"] := ⟨fun C h => (ClsAt.eq aC_Step h) ▸ CL_Step, fun C f h hf => by
    cases ClsAt.eq aC_Step h
    simp only [List.mem_cons, List.not_mem_nil, or_false] at hf
    rcases hf with rfl | rfl | rfl | rfl
    all_goals assumption⟩
  have CL_Gears : Cls K C_Gears := ⟨pg_Gears, hd_Gears, po_Gears, sa_Gears⟩
  have O_Gears : ClsOk K "Gears" ["home", "patience", "turns", "effects", "responses", "series"] := ⟨fun C h => (ClsAt.eq aC_Gears h) ▸ CL_Gears, fun C f h hf => by
    cases ClsAt.eq aC_Gears h
    simp only [List.mem_cons, List.not_mem_nil, or_false] at hf
    rcases hf with rfl | rfl | rfl | rfl | rfl | rfl
    all_goals assumption⟩
  have CL_Turn : Cls K C_Turn := ⟨pg_Turn, hd_Turn, po_Turn, sa_Turn⟩
  have O_Turn : ClsOk K "Turn" ["gears", "mode", "lot", "row", "place", "left", "silence", "done", "refused", "moments"] := ⟨fun C h => (ClsAt.eq aC_Turn h) ▸ CL_Turn, fun C f h hf => by
    cases ClsAt.eq aC_Turn h
    simp only [List.mem_cons, List.not_mem_nil, or_false] at hf
    rcases hf with rfl | rfl | rfl | rfl | rfl | rfl | rfl | rfl | rfl | rfl
    all_goals assumption⟩
  have x_repr : mg "repr" = none := PySem.W.mg_none_of X G zn_repr
  have T_InvalidBook : Ec0 K mg "InvalidBook" := ⟨C_InvalidBook, aC_InvalidBook, PySem.W.mg_of X G aC_InvalidBook, kC_InvalidBook, xC_InvalidBook, eC_InvalidBook, tC_InvalidBook, exm_self eC_InvalidBook iC_InvalidBook tC_InvalidBook sC_InvalidBook⟩
  have x_LETTERS : GlobD K mg "LETTERS" (.str letS) := globS (PySem.W.mg_of X G yg_LETTERS)
  have x_MODE : GlobD K mg "MODE" (.str "mode") := globS (PySem.W.mg_of X G yg_MODE)
  have x_COMMAND : GlobD K mg "COMMAND" (.str "command") := globS (PySem.W.mg_of X G yg_COMMAND)
  have x_ALARM : GlobD K mg "ALARM" (.str "alarm") := globS (PySem.W.mg_of X G yg_ALARM)
  have x_ROW : GlobD K mg "ROW" (.str "row") := globS (PySem.W.mg_of X G yg_ROW)
  have D__law_row : Dfn K mg "_law_row" s__law_row ["_law_cell", "_law_many"] := ⟨_, _, F1, PySem.W.mg_of X G a1, F1.binds fun _ _ _ _ _ _ us hl => match us, hl with | [_, _], _ => rfl⟩
  have D__law_numbers : Dfn K mg "_law_numbers" s__law_numbers ["_law_script", "_law_many"] := ⟨_, _, F2, PySem.W.mg_of X G a2, F2.binds fun _ _ _ _ _ _ us hl => match us, hl with | [_, _], _ => rfl⟩
  have D_is_name : Dfn K mg "is_name" s_is_name ["text"] := ⟨_, _, F3, PySem.W.mg_of X G a3, F3.binds fun _ _ _ _ _ _ us hl => match us, hl with | [_], _ => rfl⟩
  have D_is_lot : Dfn K mg "is_lot" s_is_lot ["names"] := ⟨_, _, F4, PySem.W.mg_of X G a4, F4.binds fun _ _ _ _ _ _ us hl => match us, hl with | [_], _ => rfl⟩
  have D_is_lot_of : Dfn K mg "is_lot_of" s_is_lot_of ["names", "known"] := ⟨_, _, F5, PySem.W.mg_of X G a5, F5.binds fun _ _ _ _ _ _ us hl => match us, hl with | [_, _], _ => rfl⟩
  have D_are_turned : Dfn K mg "are_turned" s_are_turned ["on", "off", "holds"] := ⟨_, _, F6, PySem.W.mg_of X G a6, F6.binds fun _ _ _ _ _ _ us hl => match us, hl with | [_, _, _], _ => rfl⟩
  have D_require : Dfn K mg "require" s_require ["holds"] := ⟨_, _, F7, PySem.W.mg_of X G a7, F7.binds fun _ _ _ _ _ _ us hl => match us, hl with | [_], _ => rfl⟩
  have D_require_names : Dfn K mg "require_names" s_require_names ["names", "least", "most"] := ⟨_, _, F8, PySem.W.mg_of X G a8, F8.binds fun _ _ _ _ _ _ us hl => match us, hl with | [_, _, _], _ => rfl⟩
  have D_is_effect : Dfn K mg "is_effect" s_is_effect ["on", "off", "to", "holds", "modes"] := ⟨_, _, F9, PySem.W.mg_of X G a9, F9.binds fun _ _ _ _ _ _ us hl => match us, hl with | [_, _, _, _, _], _ => rfl⟩
  have D_is_step : Dfn K mg "is_step" s_is_step ["step", "commands"] := ⟨_, _, F10, PySem.W.mg_of X G a10, F10.binds fun _ _ _ _ _ _ us hl => match us, hl with | [_, _], _ => rfl⟩
  have D_names_of : Dfn K mg "names_of" s_names_of ["parts"] := ⟨_, _, F11, PySem.W.mg_of X G a11, F11.binds fun _ _ _ _ _ _ us hl => match us, hl with | [_], _ => rfl⟩
  have D_Book___init__ : MtdI K mg "Book" "Book.__init__" s_Book___init__ ["self", "holds", "modes", "barred", "commands", "alarms", "rows", "quiet"] := ⟨_, _, _, aC_Book, PySem.W.mg_of X G aC_Book, ⟨mk_Book, a12, j12, kp_Book⟩, F12, F12.binds fun _ _ _ _ _ _ us hl => match us, hl with | [_, _, _, _, _, _, _, _], _ => rfl⟩
  have D_Book_holds : MtdP K "Book" "holds" "Book.holds" s_Book_holds ["self"] := ⟨C_Book, pr13, f13, _, aC_Book, CL_Book, ⟨a13, g13, tk13, rest13, r13⟩, F13, F13.binds fun _ _ _ _ _ _ us hl => match us, hl with | [_], _ => rfl⟩
  have D_Book_modes : MtdP K "Book" "modes" "Book.modes" s_Book_modes ["self"] := ⟨C_Book, pr14, f14, _, aC_Book, CL_Book, ⟨a14, g14, tk14, rest14, r14⟩, F14, F14.binds fun _ _ _ _ _ _ us hl => match us, hl with | [_], _ => rfl⟩
  have D_Book_commands : MtdP K "Book" "commands" "Book.commands" s_Book_commands ["self"] := ⟨C_Book, pr15, f15, _, aC_Book, CL_Book, ⟨a15, g15, tk15, rest15, r15⟩, F15, F15.binds fun _ _ _ _ _ _ us hl => match us, hl with | [_], _ => rfl⟩
  have D_Book_alarms : MtdP K "Book" "alarms" "Book.alarms" s_Book_alarms ["self"] := ⟨C_Book, pr16, f16, _, aC_Book, CL_Book, ⟨a16, g16, tk16, rest16, r16⟩, F16, F16.binds fun _ _ _ _ _ _ us hl => match us, hl with | [_], _ => rfl⟩
  have D_Book_rows : MtdP K "Book" "rows" "Book.rows" s_Book_rows ["self"] := ⟨C_Book, pr17, f17, _, aC_Book, CL_Book, ⟨a17, g17, tk17, rest17, r17⟩, F17, F17.binds fun _ _ _ _ _ _ us hl => match us, hl with | [_], _ => rfl⟩
  have D_Book_quiet : MtdP K "Book" "quiet" "Book.quiet" s_Book_quiet ["self"] := ⟨C_Book, pr18, f18, _, aC_Book, CL_Book, ⟨a18, g18, tk18, rest18, r18⟩, F18, F18.binds fun _ _ _ _ _ _ us hl => match us, hl with | [_], _ => rfl⟩
  have D_Book_barred : MtdP K "Book" "barred" "Book.barred" s_Book_barred ["self"] := ⟨C_Book, pr19, f19, _, aC_Book, CL_Book, ⟨a19, g19, tk19, rest19, r19⟩, F19, F19.binds fun _ _ _ _ _ _ us hl => match us, hl with | [_], _ => rfl⟩
  have D_Book_safe : MtdP K "Book" "safe" "Book.safe" s_Book_safe ["self"] := ⟨C_Book, pr20, f20, _, aC_Book, CL_Book, ⟨a20, g20, tk20, rest20, r20⟩, F20, F20.binds fun _ _ _ _ _ _ us hl => match us, hl with | [_], _ => rfl⟩
  have D_Step___init__ : MtdI K mg "Step" "Step.__init__" s_Step___init__ ["self", "standing", "done", "refused", "moments"] := ⟨_, _, _, aC_Step, PySem.W.mg_of X G aC_Step, ⟨mk_Step, a21, j21, kp_Step⟩, F21, F21.binds fun _ _ _ _ _ _ us hl => match us, hl with | [_, _, _, _, _], _ => rfl⟩
  have D_Gears___init__ : MtdI K mg "Gears" "Gears.__init__" s_Gears___init__ ["self", "book"] := ⟨_, _, _, aC_Gears, PySem.W.mg_of X G aC_Gears, ⟨mk_Gears, a22, j22, kp_Gears⟩, F22, F22.binds fun _ _ _ _ _ _ us hl => match us, hl with | [_, _], _ => rfl⟩
  have D_turned : Dfn K mg "turned" s_turned ["holds", "on", "off"] := ⟨_, _, F23, PySem.W.mg_of X G a23, F23.binds fun _ _ _ _ _ _ us hl => match us, hl with | [_, _, _], _ => rfl⟩
  have D_Turn___init__ : MtdI K mg "Turn" "Turn.__init__" s_Turn___init__ ["self", "gears", "standing"] := ⟨_, _, _, aC_Turn, PySem.W.mg_of X G aC_Turn, ⟨mk_Turn, a24, j24, kp_Turn⟩, F24, F24.binds fun _ _ _ _ _ _ us hl => match us, hl with | [_, _, _], _ => rfl⟩
  have D_Turn_effect : Mtd K "Turn" "effect" "Turn.effect" s_Turn_effect ["self", "on", "off", "to"] := ⟨_, _, _, aC_Turn, CL_Turn, ⟨a25, j25, k25⟩, F25, F25.binds fun _ _ _ _ _ _ us hl => match us, hl with | [_, _, _, _], _ => rfl⟩
  have D_Turn_halt : Mtd K "Turn" "halt" "Turn.halt" s_Turn_halt ["self"] := ⟨_, _, _, aC_Turn, CL_Turn, ⟨a26, j26, k26⟩, F26, F26.binds fun _ _ _ _ _ _ us hl => match us, hl with | [_], _ => rfl⟩
  have D_Turn_begin : Mtd K "Turn" "begin" "Turn.begin" s_Turn_begin ["self", "row", "place"] := ⟨_, _, _, aC_Turn, CL_Turn, ⟨a27, j27, k27⟩, F27, F27.binds fun _ _ _ _ _ _ us hl => match us, hl with | [_, _, _], _ => rfl⟩
  have D_Turn_command : Mtd K "Turn" "command" "Turn.command" s_Turn_command ["self", "name"] := ⟨_, _, _, aC_Turn, CL_Turn, ⟨a28, j28, k28⟩, F28, F28.binds fun _ _ _ _ _ _ us hl => match us, hl with | [_, _], _ => rfl⟩
  have D_Turn_answer : Mtd K "Turn" "answer" "Turn.answer" s_Turn_answer ["self", "alarms"] := ⟨_, _, _, aC_Turn, CL_Turn, ⟨a29, j29, k29⟩, F29, F29.binds fun _ _ _ _ _ _ us hl => match us, hl with | [_, _], _ => rfl⟩
  have D_Turn_wait : Mtd K "Turn" "wait" "Turn.wait" s_Turn_wait ["self"] := ⟨_, _, _, aC_Turn, CL_Turn, ⟨a30, j30, k30⟩, F30, F30.binds fun _ _ _ _ _ _ us hl => match us, hl with | [_], _ => rfl⟩
  have D_Turn_go_on : Mtd K "Turn" "go_on" "Turn.go_on" s_Turn_go_on ["self"] := ⟨_, _, _, aC_Turn, CL_Turn, ⟨a31, j31, k31⟩, F31, F31.binds fun _ _ _ _ _ _ us hl => match us, hl with | [_], _ => rfl⟩
  have D_Turn_obey : Mtd K "Turn" "obey" "Turn.obey" s_Turn_obey ["self", "order"] := ⟨_, _, _, aC_Turn, CL_Turn, ⟨a32, j32, k32⟩, F32, F32.binds fun _ _ _ _ _ _ us hl => match us, hl with | [_, _], _ => rfl⟩
  have D_Turn_step : Mtd K "Turn" "step" "Turn.step" s_Turn_step ["self"] := ⟨_, _, _, aC_Turn, CL_Turn, ⟨a33, j33, k33⟩, F33, F33.binds fun _ _ _ _ _ _ us hl => match us, hl with | [_], _ => rfl⟩
  have D_tick_by : Dfn K mg "tick_by" s_tick_by ["gears", "standing", "alarms", "order"] := ⟨_, _, F34, PySem.W.mg_of X G a34, F34.binds fun _ _ _ _ _ _ us hl => match us, hl with | [_, _, _, _], _ => rfl⟩
  have D__law_names : Dfn K mg "_law_names" s__law_names ["_law_number", "_law_many"] := ⟨_, _, F35, PySem.W.mg_of X G a35, F35.binds fun _ _ _ _ _ _ us hl => match us, hl with | [_, _], _ => rfl⟩
  have D__law_lot : Dfn K mg "_law_lot" s__law_lot ["_law_names_here", "_law_number"] := ⟨_, _, F36, PySem.W.mg_of X G a36, F36.binds fun _ _ _ _ _ _ us hl => match us, hl with | [_, _], _ => rfl⟩
  have D__law_turned : Dfn K mg "_law_turned" s__law_turned ["_law_holds", "_law_on", "_law_off"] := ⟨_, _, F37, PySem.W.mg_of X G a37, F37.binds fun _ _ _ _ _ _ us hl => match us, hl with | [_, _, _], _ => rfl⟩
  have D__law_to : Dfn K mg "_law_to" s__law_to ["_law_modes", "_law_number"] := ⟨_, _, F38, PySem.W.mg_of X G a38, F38.binds fun _ _ _ _ _ _ us hl => match us, hl with | [_, _], _ => rfl⟩
  have D__law_effect : Dfn K mg "_law_effect" s__law_effect ["_law_holds", "_law_modes", "_law_number", "_law_other"] := ⟨_, _, F39, PySem.W.mg_of X G a39, F39.binds fun _ _ _ _ _ _ us hl => match us, hl with | [_, _, _, _], _ => rfl⟩
  have D__law_book : Dfn K mg "_law_book" s__law_book ["_law_numbers_here", "_law_at", "_law_sizes"] := ⟨_, _, F40, PySem.W.mg_of X G a40, F40.binds fun _ _ _ _ _ _ us hl => match us, hl with | [_, _, _], _ => rfl⟩
  have D__law_made : Dfn K mg "_law_made" s__law_made ["_law_parts"] := ⟨_, _, F41, PySem.W.mg_of X G a41, F41.binds fun _ _ _ _ _ _ us hl => match us, hl with | [_], _ => rfl⟩
  have D__law_change : Dfn K mg "_law_change" s__law_change ["_law_lot_here", "_law_on", "_law_off"] := ⟨_, _, F42, PySem.W.mg_of X G a42, F42.binds fun _ _ _ _ _ _ us hl => match us, hl with | [_, _, _], _ => rfl⟩
  have D__law_effected : Dfn K mg "_law_effected" s__law_effected ["_law_parts", "_law_mode", "_law_lot_here", "_law_on", "_law_off", "_law_to_here"] := ⟨_, _, F43, PySem.W.mg_of X G a43, F43.binds fun _ _ _ _ _ _ us hl => match us, hl with | [_, _, _, _, _, _], _ => rfl⟩
  have D__law_steps_of : Dfn K mg "_law_steps_of" s__law_steps_of ["_law_parts", "_law_row_here"] := ⟨_, _, F44, PySem.W.mg_of X G a44, F44.binds fun _ _ _ _ _ _ us hl => match us, hl with | [_, _], _ => rfl⟩
  have D__law_command : Dfn K mg "_law_command" s__law_command ["_law_parts", "_law_mode", "_law_name"] := ⟨_, _, F45, PySem.W.mg_of X G a45, F45.binds fun _ _ _ _ _ _ us hl => match us, hl with | [_, _, _], _ => rfl⟩
  have D__law_running : Dfn K mg "_law_running" s__law_running ["_law_parts", "_law_mode", "_law_lot_here", "_law_run", "_law_told"] := ⟨_, _, F46, PySem.W.mg_of X G a46, F46.binds fun _ _ _ _ _ _ us hl => match us, hl with | [_, _, _, _, _], _ => rfl⟩
  have D__law_tick : Dfn K mg "_law_tick" s__law_tick ["_law_parts", "_law_standing_here", "_law_alarms", "_law_order"] := ⟨_, _, F47, PySem.W.mg_of X G a47, F47.binds fun _ _ _ _ _ _ us hl => match us, hl with | [_, _, _, _], _ => rfl⟩
  have D__law_standing : Dfn K mg "_law_standing" s__law_standing ["_law_numbers_here", "_law_at", "_law_parts"] := ⟨_, _, F48, PySem.W.mg_of X G a48, F48.binds fun _ _ _ _ _ _ us hl => match us, hl with | [_, _, _], _ => rfl⟩
  have D_is_at_rest : Dfn K mg "is_at_rest" s_is_at_rest ["gears", "standing"] := ⟨_, _, F49, PySem.W.mg_of X G a49, F49.binds fun _ _ _ _ _ _ us hl => match us, hl with | [_, _], _ => rfl⟩
  have D_rests : Dfn K mg "rests" s_rests ["book", "standing"] := ⟨_, _, F50, PySem.W.mg_of X G a50, F50.binds fun _ _ _ _ _ _ us hl => match us, hl with | [_, _], _ => rfl⟩
  have D_rest_time : Dfn K mg "rest_time" s_rest_time ["book", "standing"] := ⟨_, _, F51, PySem.W.mg_of X G a51, F51.binds fun _ _ _ _ _ _ us hl => match us, hl with | [_, _], _ => rfl⟩
  have D__law_rests : Dfn K mg "_law_rests" s__law_rests ["_law_parts", "_law_standing_here"] := ⟨_, _, F52, PySem.W.mg_of X G a52, F52.binds fun _ _ _ _ _ _ us hl => match us, hl with | [_, _], _ => rfl⟩
  have D__law_rest_time : Dfn K mg "_law_rest_time" s__law_rest_time ["_law_parts", "_law_standing_here"] := ⟨_, _, F53, PySem.W.mg_of X G a53, F53.binds fun _ _ _ _ _ _ us hl => match us, hl with | [_, _], _ => rfl⟩
  have bt : Bt mg := ⟨PySem.W.mg_none_of X G z0, PySem.W.mg_none_of X G z1, PySem.W.mg_none_of X G z2, PySem.W.mg_none_of X G z3, PySem.W.mg_none_of X G z4, PySem.W.mg_none_of X G z5, PySem.W.mg_none_of X G z6, PySem.W.mg_none_of X G z7, PySem.W.mg_none_of X G z8, PySem.W.mg_none_of X G z9, PySem.W.mg_none_of X G z10, PySem.W.mg_none_of X G z11, PySem.W.mg_none_of X G z12, PySem.W.mg_none_of X G z13, PySem.W.mg_none_of X G z14, PySem.W.mg_none_of X G z15, PySem.W.mg_none_of X G z16, PySem.W.mg_none_of X G z17⟩
  refine ⟨PySem.W.fnOf "law" "law" (defArgs s_law) (defBody s_law) (defScope s_law) .none kV0 dc0 pm0 an0 cd0 ct0, fun s v => .of_eq rfl, fun base _ _ => ?_⟩
  have c__law_row := ok__law_row (P := l.prog) (w := w) (base := base) D__law_row  bt
  have c__law_numbers := ok__law_numbers (P := l.prog) (w := w) (base := base) D__law_numbers c__law_row bt
  have c_is_name := ok_is_name (P := l.prog) (w := w) (base := base) D_is_name x_LETTERS T_InvalidBook bt
  have c_is_lot := ok_is_lot (P := l.prog) (w := w) (base := base) D_is_lot c_is_name x_LETTERS T_InvalidBook bt
  have c_is_lot_of := ok_is_lot_of (P := l.prog) (w := w) (base := base) D_is_lot_of c_is_lot x_LETTERS T_InvalidBook bt
  have c_are_turned := ok_are_turned (P := l.prog) (w := w) (base := base) D_are_turned c_is_lot_of x_LETTERS T_InvalidBook bt
  have c_require := ok_require (P := l.prog) (w := w) (base := base) D_require x_LETTERS T_InvalidBook bt
  have c_require_names := ok_require_names (P := l.prog) (w := w) (base := base) D_require_names c_is_name c_require x_LETTERS T_InvalidBook bt
  have c_is_effect := ok_is_effect (P := l.prog) (w := w) (base := base) D_is_effect c_are_turned x_LETTERS T_InvalidBook bt
  have c_is_step := ok_is_step (P := l.prog) (w := w) (base := base) D_is_step x_LETTERS T_InvalidBook bt
  have c_names_of := ok_names_of (P := l.prog) (w := w) (base := base) D_names_of x_LETTERS T_InvalidBook bt
  have c_Book___init__ := ok_Book___init__ (P := l.prog) (w := w) (base := base) D_Book___init__ c_require c_require_names c_names_of c_are_turned c_is_lot_of c_is_effect c_is_step x_LETTERS T_InvalidBook x_MODE x_COMMAND x_ALARM x_ROW O_Book bt
  have c_Book_holds := ok_Book_holds (P := l.prog) (w := w) (base := base) D_Book_holds x_LETTERS T_InvalidBook x_MODE x_COMMAND x_ALARM x_ROW O_Book bt
  have c_Book_modes := ok_Book_modes (P := l.prog) (w := w) (base := base) D_Book_modes x_LETTERS T_InvalidBook x_MODE x_COMMAND x_ALARM x_ROW O_Book bt
  have c_Book_commands := ok_Book_commands (P := l.prog) (w := w) (base := base) D_Book_commands x_LETTERS T_InvalidBook x_MODE x_COMMAND x_ALARM x_ROW O_Book bt
  have c_Book_alarms := ok_Book_alarms (P := l.prog) (w := w) (base := base) D_Book_alarms x_LETTERS T_InvalidBook x_MODE x_COMMAND x_ALARM x_ROW O_Book bt
  have c_Book_rows := ok_Book_rows (P := l.prog) (w := w) (base := base) D_Book_rows x_LETTERS T_InvalidBook x_MODE x_COMMAND x_ALARM x_ROW O_Book bt
  have c_Book_quiet := ok_Book_quiet (P := l.prog) (w := w) (base := base) D_Book_quiet x_LETTERS T_InvalidBook x_MODE x_COMMAND x_ALARM x_ROW O_Book bt
  have c_Book_barred := ok_Book_barred (P := l.prog) (w := w) (base := base) D_Book_barred x_LETTERS T_InvalidBook x_MODE x_COMMAND x_ALARM x_ROW O_Book bt
  have c_Book_safe := ok_Book_safe (P := l.prog) (w := w) (base := base) D_Book_safe x_LETTERS T_InvalidBook x_MODE x_COMMAND x_ALARM x_ROW O_Book bt
  have c_Step___init__ := ok_Step___init__ (P := l.prog) (w := w) (base := base) D_Step___init__ x_LETTERS T_InvalidBook x_MODE x_COMMAND x_ALARM x_ROW O_Book O_Step O_Gears O_Turn bt
  have c_Gears___init__ := ok_Gears___init__ (P := l.prog) (w := w) (base := base) D_Gears___init__ c_Book_safe c_Book_quiet c_Book_modes c_Book_commands c_Book_alarms c_Book_rows x_LETTERS T_InvalidBook x_MODE x_COMMAND x_ALARM x_ROW O_Book O_Step O_Gears O_Turn bt
  have c_turned := ok_turned (P := l.prog) (w := w) (base := base) D_turned x_LETTERS T_InvalidBook x_MODE x_COMMAND x_ALARM x_ROW O_Book O_Step O_Gears O_Turn bt
  have c_Turn___init__ := ok_Turn___init__ (P := l.prog) (w := w) (base := base) D_Turn___init__ x_LETTERS T_InvalidBook x_MODE x_COMMAND x_ALARM x_ROW O_Book O_Step O_Gears O_Turn bt
  have c_Turn_effect := ok_Turn_effect (P := l.prog) (w := w) (base := base) D_Turn_effect c_turned x_LETTERS T_InvalidBook x_MODE x_COMMAND x_ALARM x_ROW O_Book O_Step O_Gears O_Turn bt
  have c_Turn_halt := ok_Turn_halt (P := l.prog) (w := w) (base := base) D_Turn_halt x_LETTERS T_InvalidBook x_MODE x_COMMAND x_ALARM x_ROW O_Book O_Step O_Gears O_Turn bt
  have c_Turn_begin := ok_Turn_begin (P := l.prog) (w := w) (base := base) D_Turn_begin c_Turn_halt x_LETTERS T_InvalidBook x_MODE x_COMMAND x_ALARM x_ROW O_Book O_Step O_Gears O_Turn bt
  have c_Turn_command := ok_Turn_command (P := l.prog) (w := w) (base := base) D_Turn_command c_Turn_effect x_LETTERS T_InvalidBook x_MODE x_COMMAND x_ALARM x_ROW O_Book O_Step O_Gears O_Turn bt
  have c_Turn_answer := ok_Turn_answer (P := l.prog) (w := w) (base := base) D_Turn_answer c_Turn_effect c_Turn_halt x_LETTERS T_InvalidBook x_MODE x_COMMAND x_ALARM x_ROW O_Book O_Step O_Gears O_Turn bt
  have c_Turn_wait := ok_Turn_wait (P := l.prog) (w := w) (base := base) D_Turn_wait c_Turn_effect c_Turn_halt x_LETTERS T_InvalidBook x_MODE x_COMMAND x_ALARM x_ROW O_Book O_Step O_Gears O_Turn bt
  have c_Turn_go_on := ok_Turn_go_on (P := l.prog) (w := w) (base := base) D_Turn_go_on c_Turn_command c_Turn_begin x_LETTERS T_InvalidBook x_MODE x_COMMAND x_ALARM x_ROW O_Book O_Step O_Gears O_Turn bt
  have c_Turn_obey := ok_Turn_obey (P := l.prog) (w := w) (base := base) D_Turn_obey c_Turn_command c_Turn_halt c_Turn_begin x_LETTERS T_InvalidBook x_MODE x_COMMAND x_ALARM x_ROW O_Book O_Step O_Gears O_Turn bt
  have c_Turn_step := ok_Turn_step (P := l.prog) (w := w) (base := base) D_Turn_step c_Step___init__ x_LETTERS T_InvalidBook x_MODE x_COMMAND x_ALARM x_ROW O_Book O_Step O_Gears O_Turn bt
  have c_tick_by := ok_tick_by (P := l.prog) (w := w) (base := base) D_tick_by c_Turn___init__ c_Turn_answer c_Turn_wait c_Turn_obey c_Turn_go_on c_Turn_step x_LETTERS T_InvalidBook x_MODE x_COMMAND x_ALARM x_ROW O_Book O_Step O_Gears O_Turn bt
  have c__law_names := ok__law_names (P := l.prog) (w := w) (base := base) D__law_names x_LETTERS T_InvalidBook x_MODE x_COMMAND x_ALARM x_ROW O_Book O_Step O_Gears O_Turn bt
  have c__law_lot := ok__law_lot (P := l.prog) (w := w) (base := base) D__law_lot x_LETTERS T_InvalidBook x_MODE x_COMMAND x_ALARM x_ROW O_Book O_Step O_Gears O_Turn bt
  have c__law_turned := ok__law_turned (P := l.prog) (w := w) (base := base) D__law_turned c__law_lot x_LETTERS T_InvalidBook x_MODE x_COMMAND x_ALARM x_ROW O_Book O_Step O_Gears O_Turn bt
  have c__law_to := ok__law_to (P := l.prog) (w := w) (base := base) D__law_to x_LETTERS T_InvalidBook x_MODE x_COMMAND x_ALARM x_ROW O_Book O_Step O_Gears O_Turn bt
  have c__law_effect := ok__law_effect (P := l.prog) (w := w) (base := base) D__law_effect c__law_turned c__law_to x_LETTERS T_InvalidBook x_MODE x_COMMAND x_ALARM x_ROW O_Book O_Step O_Gears O_Turn bt
  have c__law_book := ok__law_book (P := l.prog) (w := w) (base := base) D__law_book c__law_names c__law_lot c__law_turned c__law_effect x_LETTERS T_InvalidBook x_MODE x_COMMAND x_ALARM x_ROW O_Book O_Step O_Gears O_Turn bt
  have c__law_made := ok__law_made (P := l.prog) (w := w) (base := base) D__law_made c_Book___init__ x_LETTERS T_InvalidBook x_MODE x_COMMAND x_ALARM x_ROW O_Book O_Step O_Gears O_Turn bt
  have c__law_change := ok__law_change (P := l.prog) (w := w) (base := base) D__law_change x_LETTERS T_InvalidBook x_MODE x_COMMAND x_ALARM x_ROW O_Book O_Step O_Gears O_Turn bt
  have c__law_effected := ok__law_effected (P := l.prog) (w := w) (base := base) D__law_effected c__law_change x_LETTERS T_InvalidBook x_MODE x_COMMAND x_ALARM x_ROW O_Book O_Step O_Gears O_Turn bt
  have c__law_steps_of := ok__law_steps_of (P := l.prog) (w := w) (base := base) D__law_steps_of x_LETTERS T_InvalidBook x_MODE x_COMMAND x_ALARM x_ROW O_Book O_Step O_Gears O_Turn bt
  have c__law_command := ok__law_command (P := l.prog) (w := w) (base := base) D__law_command x_LETTERS T_InvalidBook x_MODE x_COMMAND x_ALARM x_ROW O_Book O_Step O_Gears O_Turn bt
  have c__law_running := ok__law_running (P := l.prog) (w := w) (base := base) D__law_running c__law_effected c__law_steps_of c__law_command x_LETTERS T_InvalidBook x_MODE x_COMMAND x_ALARM x_ROW O_Book O_Step O_Gears O_Turn bt
  have c__law_tick := ok__law_tick (P := l.prog) (w := w) (base := base) D__law_tick c__law_effected c__law_command c__law_steps_of c__law_running x_LETTERS T_InvalidBook x_MODE x_COMMAND x_ALARM x_ROW O_Book O_Step O_Gears O_Turn bt
  have c__law_standing := ok__law_standing (P := l.prog) (w := w) (base := base) D__law_standing c__law_lot x_LETTERS T_InvalidBook x_MODE x_COMMAND x_ALARM x_ROW O_Book O_Step O_Gears O_Turn bt
  have c_is_at_rest := ok_is_at_rest (P := l.prog) (w := w) (base := base) D_is_at_rest c_turned x_LETTERS T_InvalidBook x_MODE x_COMMAND x_ALARM x_ROW O_Book O_Step O_Gears O_Turn bt
  have c_rests := ok_rests (P := l.prog) (w := w) (base := base) D_rests c_Gears___init__ c_is_at_rest x_LETTERS T_InvalidBook x_MODE x_COMMAND x_ALARM x_ROW O_Book O_Step O_Gears O_Turn bt
  have c_rest_time := ok_rest_time (P := l.prog) (w := w) (base := base) D_rest_time c_Gears___init__ c_is_at_rest c_tick_by x_LETTERS T_InvalidBook x_MODE x_COMMAND x_ALARM x_ROW O_Book O_Step O_Gears O_Turn bt
  have c__law_rests := ok__law_rests (P := l.prog) (w := w) (base := base) D__law_rests c__law_tick x_LETTERS T_InvalidBook x_MODE x_COMMAND x_ALARM x_ROW O_Book O_Step O_Gears O_Turn bt
  have c__law_rest_time := ok__law_rest_time (P := l.prog) (w := w) (base := base) D__law_rest_time c__law_tick c__law_rests x_LETTERS T_InvalidBook x_MODE x_COMMAND x_ALARM x_ROW O_Book O_Step O_Gears O_Turn bt
  exact ok_law F0 c_rests c_rest_time c__law_numbers c__law_book c__law_made c__law_standing c__law_rests c__law_rest_time x_LETTERS T_InvalidBook x_MODE x_COMMAND x_ALARM x_ROW O_Book O_Step O_Gears O_Turn x_repr bt
end
end K
open PySem PySem.W PyProof.Rows
set_option maxHeartbeats 0 in
theorem PySem.Challenge.cw_farword_k30_rest_holds : PySem.Challenge.rw_farword_k30_rest.Holds := by
  w_on; o_law; k_headL; (case hw => w_witness2)
  k_fill
  refine L2.walk_of (l := PySem.Challenge.rw_farword_k30_rest) (n := 63) (k := 9) (x := "_law_script") (CX := fun _ => L2.CX0) (sp := fun w => PL.spLaw _) rfl (by decide) rfl ⟨rfl, by decide, by decide⟩ (fun w h Y => PySem.W.kIn_of Y) ?F (fun _ H a ns hl _ hS => PL.law_sp hl hS) (fun _ _ _ _ _ h => h)
  case F =>
    intro w mg fa h KX G hmg
    refine' K.all_mk KX G hmg ?aC_Book ?pg_Book ?hd_Book ?po_Book ?sa_Book ?mk_Book ?kp_Book ?na_Book__holds ?na_Book__barred ?na_Book__parts ?na_Book__quiet ?aC_Step ?pg_Step ?hd_Step ?po_Step ?sa_Step ?mk_Step ?kp_Step ?na_Step_standing ?na_Step_done ?na_Step_refused ?na_Step_moments ?aC_Gears ?pg_Gears ?hd_Gears ?po_Gears ?sa_Gears ?mk_Gears ?kp_Gears ?na_Gears_home ?na_Gears_patience ?na_Gears_turns ?na_Gears_effects ?na_Gears_responses ?na_Gears_series ?aC_Turn ?pg_Turn ?hd_Turn ?po_Turn ?sa_Turn ?mk_Turn ?kp_Turn ?na_Turn_gears ?na_Turn_mode ?na_Turn_lot ?na_Turn_row ?na_Turn_place ?na_Turn_left ?na_Turn_silence ?na_Turn_done ?na_Turn_refused ?na_Turn_moments ?aC_InvalidBook ?kC_InvalidBook ?eC_InvalidBook ?tC_InvalidBook ?xC_InvalidBook ?iC_InvalidBook ?sC_InvalidBook ?zn_repr ?yg_LETTERS ?yg_MODE ?yg_COMMAND ?yg_ALARM ?yg_ROW ?a0 ?l0 ?c0 ?k0 ?a1 ?l1 ?c1 ?k1 ?a2 ?l2 ?c2 ?k2 ?a3 ?l3 ?c3 ?k3 ?a4 ?l4 ?c4 ?k4 ?a5 ?l5 ?c5 ?k5 ?a6 ?l6 ?c6 ?k6 ?a7 ?l7 ?c7 ?k7 ?a8 ?l8 ?c8 ?k8 ?a9 ?l9 ?c9 ?k9 ?a10 ?l10 ?c10 ?k10 ?a11 ?l11 ?c11 ?k11 ?a12 ?l12 ?c12 ?k12 ?j12 ?a13 ?g13 ?tk13 ?r13 ?l13 ?c13 ?k13 ?a14 ?g14 ?tk14 ?r14 ?l14 ?c14 ?k14 ?a15 ?g15 ?tk15 ?r15 ?l15 ?c15 ?k15 ?a16 ?g16 ?tk16 ?r16 ?l16 ?c16 ?k16 ?a17 ?g17 ?tk17 ?r17 ?l17 ?c17 ?k17 ?a18 ?g18 ?tk18 ?r18 ?l18 ?c18 ?k18 ?a19 ?g19 ?tk19 ?r19 ?l19 ?c19 ?k19 ?a20 ?g20 ?tk20 ?r20 ?l20 ?c20 ?k20 ?a21 ?l21 ?c21 ?k21 ?j21 ?a22 ?l22 ?c22 ?k22 ?j22 ?a23 ?l23 ?c23 ?k23 ?a24 ?l24 ?c24 ?k24 ?j24 ?a25 ?l25 ?c25 ?k25 ?j25 ?a26 ?l26 ?c26 ?k26 ?j26 ?a27 ?l27 ?c27 ?k27 ?j27 ?a28 ?l28 ?c28 ?k28 ?j28 ?a29 ?l29 ?c29 ?k29 ?j29 ?a30 ?l30 ?c30 ?k30 ?j30 ?a31 ?l31 ?c31 ?k31 ?j31 ?a32 ?l32 ?c32 ?k32 ?j32 ?a33 ?l33 ?c33 ?k33 ?j33 ?a34 ?l34 ?c34 ?k34 ?a35 ?l35 ?c35 ?k35 ?a36 ?l36 ?c36 ?k36 ?a37 ?l37 ?c37 ?k37 ?a38 ?l38 ?c38 ?k38 ?a39 ?l39 ?c39 ?k39 ?a40 ?l40 ?c40 ?k40 ?a41 ?l41 ?c41 ?k41 ?a42 ?l42 ?c42 ?k42 ?a43 ?l43 ?c43 ?k43 ?a44 ?l44 ?c44 ?k44 ?a45 ?l45 ?c45 ?k45 ?a46 ?l46 ?c46 ?k46 ?a47 ?l47 ?c47 ?k47 ?a48 ?l48 ?c48 ?k48 ?a49 ?l49 ?c49 ?k49 ?a50 ?l50 ?c50 ?k50 ?a51 ?l51 ?c51 ?k51 ?a52 ?l52 ?c52 ?k52 ?a53 ?l53 ?c53 ?k53 ?z0 ?z1 ?z2 ?z3 ?z4 ?z5 ?z6 ?z7 ?z8 ?z9 ?z10 ?z11 ?z12 ?z13 ?z14 ?z15 ?z16 ?z17
    (case aC_Book => as_aux_lemma => (k_is))
    (case pg_Book => as_aux_lemma => (k_is))
    (case hd_Book => as_aux_lemma => (k_is))
    (case po_Book => as_aux_lemma => (k_is))
    (case sa_Book => as_aux_lemma => (k_is))
    (case mk_Book => as_aux_lemma => (k_is))
    (case kp_Book => as_aux_lemma => (k_is))
    (case na_Book__holds => as_aux_lemma => (k_is))
    (case na_Book__barred => as_aux_lemma => (k_is))
    (case na_Book__parts => as_aux_lemma => (k_is))
    (case na_Book__quiet => as_aux_lemma => (k_is))
    (case aC_Step => as_aux_lemma => (k_is))
    (case pg_Step => as_aux_lemma => (k_is))
    (case hd_Step => as_aux_lemma => (k_is))
    (case po_Step => as_aux_lemma => (k_is))
    (case sa_Step => as_aux_lemma => (k_is))
    (case mk_Step => as_aux_lemma => (k_is))
    (case kp_Step => as_aux_lemma => (k_is))
    (case na_Step_standing => as_aux_lemma => (k_is))
    (case na_Step_done => as_aux_lemma => (k_is))
    (case na_Step_refused => as_aux_lemma => (k_is))
    (case na_Step_moments => as_aux_lemma => (k_is))
    (case aC_Gears => as_aux_lemma => (k_is))
    (case pg_Gears => as_aux_lemma => (k_is))
    (case hd_Gears => as_aux_lemma => (k_is))
    (case po_Gears => as_aux_lemma => (k_is))
    (case sa_Gears => as_aux_lemma => (k_is))
    (case mk_Gears => as_aux_lemma => (k_is))
    (case kp_Gears => as_aux_lemma => (k_is))
    (case na_Gears_home => as_aux_lemma => (k_is))
    (case na_Gears_patience => as_aux_lemma => (k_is))
    (case na_Gears_turns => as_aux_lemma => (k_is))
    (case na_Gears_effects => as_aux_lemma => (k_is))
    (case na_Gears_responses => as_aux_lemma => (k_is))
    (case na_Gears_series => as_aux_lemma => (k_is))
    (case aC_Turn => as_aux_lemma => (k_is))
    (case pg_Turn => as_aux_lemma => (k_is))
    (case hd_Turn => as_aux_lemma => (k_is))
    (case po_Turn => as_aux_lemma => (k_is))
    (case sa_Turn => as_aux_lemma => (k_is))
    (case mk_Turn => as_aux_lemma => (k_is))
    (case kp_Turn => as_aux_lemma => (k_is))
    (case na_Turn_gears => as_aux_lemma => (k_is))
    (case na_Turn_mode => as_aux_lemma => (k_is))
    (case na_Turn_lot => as_aux_lemma => (k_is))
    (case na_Turn_row => as_aux_lemma => (k_is))
    (case na_Turn_place => as_aux_lemma => (k_is))
    (case na_Turn_left => as_aux_lemma => (k_is))
    (case na_Turn_silence => as_aux_lemma => (k_is))
    (case na_Turn_done => as_aux_lemma => (k_is))
    (case na_Turn_refused => as_aux_lemma => (k_is))
    (case na_Turn_moments => as_aux_lemma => (k_is))
    (case aC_InvalidBook => as_aux_lemma => (k_is))
    (case kC_InvalidBook => as_aux_lemma => (k_is))
    (case eC_InvalidBook => as_aux_lemma => (k_is))
    (case tC_InvalidBook => as_aux_lemma => (k_is))
    (case xC_InvalidBook => as_aux_lemma => (first | k_exc | k_is | rfl))
    (case iC_InvalidBook => as_aux_lemma => (k_is))
    (case sC_InvalidBook => as_aux_lemma => (first | rfl | k_is))
    (case zn_repr => as_aux_lemma => (k_is))
    (case yg_LETTERS => as_aux_lemma => (k_is))
    (case yg_MODE => as_aux_lemma => (k_is))
    (case yg_COMMAND => as_aux_lemma => (k_is))
    (case yg_ALARM => as_aux_lemma => (k_is))
    (case yg_ROW => as_aux_lemma => (k_is))
    (case a0 => as_aux_lemma => (k_is))
    (case l0 => as_aux_lemma => (k_is))
    (case c0 => as_aux_lemma => (k_is))
    (case k0 => as_aux_lemma => (k_is))
    (case a1 => as_aux_lemma => (k_is))
    (case l1 => as_aux_lemma => (k_is))
    (case c1 => as_aux_lemma => (k_is))
    (case k1 => as_aux_lemma => (k_is))
    (case a2 => as_aux_lemma => (k_is))
    (case l2 => as_aux_lemma => (k_is))
    (case c2 => as_aux_lemma => (k_is))
    (case k2 => as_aux_lemma => (k_is))
    (case a3 => as_aux_lemma => (k_is))
    (case l3 => as_aux_lemma => (k_is))
    (case c3 => as_aux_lemma => (k_is))
    (case k3 => as_aux_lemma => (k_is))
    (case a4 => as_aux_lemma => (k_is))
    (case l4 => as_aux_lemma => (k_is))
    (case c4 => as_aux_lemma => (k_is))
    (case k4 => as_aux_lemma => (k_is))
    (case a5 => as_aux_lemma => (k_is))
    (case l5 => as_aux_lemma => (k_is))
    (case c5 => as_aux_lemma => (k_is))
    (case k5 => as_aux_lemma => (k_is))
    (case a6 => as_aux_lemma => (k_is))
    (case l6 => as_aux_lemma => (k_is))
    (case c6 => as_aux_lemma => (k_is))
    (case k6 => as_aux_lemma => (k_is))
    (case a7 => as_aux_lemma => (k_is))
    (case l7 => as_aux_lemma => (k_is))
    (case c7 => as_aux_lemma => (k_is))
    (case k7 => as_aux_lemma => (k_is))
    (case a8 => as_aux_lemma => (k_is))
    (case l8 => as_aux_lemma => (k_is))
    (case c8 => as_aux_lemma => (k_is))
    (case k8 => as_aux_lemma => (k_is))
    (case a9 => as_aux_lemma => (k_is))
    (case l9 => as_aux_lemma => (k_is))
    (case c9 => as_aux_lemma => (k_is))
    (case k9 => as_aux_lemma => (k_is))
    (case a10 => as_aux_lemma => (k_is))
    (case l10 => as_aux_lemma => (k_is))
    (case c10 => as_aux_lemma => (k_is))
    (case k10 => as_aux_lemma => (k_is))
    (case a11 => as_aux_lemma => (k_is))
    (case l11 => as_aux_lemma => (k_is))
    (case c11 => as_aux_lemma => (k_is))
    (case k11 => as_aux_lemma => (k_is))
    (case a12 => as_aux_lemma => (k_is))
    (case l12 => as_aux_lemma => (k_is))
    (case c12 => as_aux_lemma => (k_is))
    (case k12 => as_aux_lemma => (k_is))
    (case j12 => as_aux_lemma => (first | k_is | rfl))
    (case a13 => as_aux_lemma => (k_is))
    (case g13 => as_aux_lemma => (k_is))
    (case tk13 => as_aux_lemma => (k_is))
    (case r13 => as_aux_lemma => (first | k_is | rfl))
    (case l13 => as_aux_lemma => (k_is))
    (case c13 => as_aux_lemma => (k_is))
    (case k13 => as_aux_lemma => (k_is))
    (case a14 => as_aux_lemma => (k_is))
    (case g14 => as_aux_lemma => (k_is))
    (case tk14 => as_aux_lemma => (k_is))
    (case r14 => as_aux_lemma => (first | k_is | rfl))
    (case l14 => as_aux_lemma => (k_is))
    (case c14 => as_aux_lemma => (k_is))
    (case k14 => as_aux_lemma => (k_is))
    (case a15 => as_aux_lemma => (k_is))
    (case g15 => as_aux_lemma => (k_is))
    (case tk15 => as_aux_lemma => (k_is))
    (case r15 => as_aux_lemma => (first | k_is | rfl))
    (case l15 => as_aux_lemma => (k_is))
    (case c15 => as_aux_lemma => (k_is))
    (case k15 => as_aux_lemma => (k_is))
    (case a16 => as_aux_lemma => (k_is))
    (case g16 => as_aux_lemma => (k_is))
    (case tk16 => as_aux_lemma => (k_is))
    (case r16 => as_aux_lemma => (first | k_is | rfl))
    (case l16 => as_aux_lemma => (k_is))
    (case c16 => as_aux_lemma => (k_is))
    (case k16 => as_aux_lemma => (k_is))
    (case a17 => as_aux_lemma => (k_is))
    (case g17 => as_aux_lemma => (k_is))
    (case tk17 => as_aux_lemma => (k_is))
    (case r17 => as_aux_lemma => (first | k_is | rfl))
    (case l17 => as_aux_lemma => (k_is))
    (case c17 => as_aux_lemma => (k_is))
    (case k17 => as_aux_lemma => (k_is))
    (case a18 => as_aux_lemma => (k_is))
    (case g18 => as_aux_lemma => (k_is))
    (case tk18 => as_aux_lemma => (k_is))
    (case r18 => as_aux_lemma => (first | k_is | rfl))
    (case l18 => as_aux_lemma => (k_is))
    (case c18 => as_aux_lemma => (k_is))
    (case k18 => as_aux_lemma => (k_is))
    (case a19 => as_aux_lemma => (k_is))
    (case g19 => as_aux_lemma => (k_is))
    (case tk19 => as_aux_lemma => (k_is))
    (case r19 => as_aux_lemma => (first | k_is | rfl))
    (case l19 => as_aux_lemma => (k_is))
    (case c19 => as_aux_lemma => (k_is))
    (case k19 => as_aux_lemma => (k_is))
    (case a20 => as_aux_lemma => (k_is))
    (case g20 => as_aux_lemma => (k_is))
    (case tk20 => as_aux_lemma => (k_is))
    (case r20 => as_aux_lemma => (first | k_is | rfl))
    (case l20 => as_aux_lemma => (k_is))
    (case c20 => as_aux_lemma => (k_is))
    (case k20 => as_aux_lemma => (k_is))
    (case a21 => as_aux_lemma => (k_is))
    (case l21 => as_aux_lemma => (k_is))
    (case c21 => as_aux_lemma => (k_is))
    (case k21 => as_aux_lemma => (k_is))
    (case j21 => as_aux_lemma => (first | k_is | rfl))
    (case a22 => as_aux_lemma => (k_is))
    (case l22 => as_aux_lemma => (k_is))
    (case c22 => as_aux_lemma => (k_is))
    (case k22 => as_aux_lemma => (k_is))
    (case j22 => as_aux_lemma => (first | k_is | rfl))
    (case a23 => as_aux_lemma => (k_is))
    (case l23 => as_aux_lemma => (k_is))
    (case c23 => as_aux_lemma => (k_is))
    (case k23 => as_aux_lemma => (k_is))
    (case a24 => as_aux_lemma => (k_is))
    (case l24 => as_aux_lemma => (k_is))
    (case c24 => as_aux_lemma => (k_is))
    (case k24 => as_aux_lemma => (k_is))
    (case j24 => as_aux_lemma => (first | k_is | rfl))
    (case a25 => as_aux_lemma => (k_is))
    (case l25 => as_aux_lemma => (k_is))
    (case c25 => as_aux_lemma => (k_is))
    (case k25 => as_aux_lemma => (k_is))
    (case j25 => as_aux_lemma => (first | k_is | rfl))
    (case a26 => as_aux_lemma => (k_is))
    (case l26 => as_aux_lemma => (k_is))
    (case c26 => as_aux_lemma => (k_is))
    (case k26 => as_aux_lemma => (k_is))
    (case j26 => as_aux_lemma => (first | k_is | rfl))
    (case a27 => as_aux_lemma => (k_is))
    (case l27 => as_aux_lemma => (k_is))
    (case c27 => as_aux_lemma => (k_is))
    (case k27 => as_aux_lemma => (k_is))
    (case j27 => as_aux_lemma => (first | k_is | rfl))
    (case a28 => as_aux_lemma => (k_is))
    (case l28 => as_aux_lemma => (k_is))
    (case c28 => as_aux_lemma => (k_is))
    (case k28 => as_aux_lemma => (k_is))
    (case j28 => as_aux_lemma => (first | k_is | rfl))
    (case a29 => as_aux_lemma => (k_is))
    (case l29 => as_aux_lemma => (k_is))
    (case c29 => as_aux_lemma => (k_is))
    (case k29 => as_aux_lemma => (k_is))
    (case j29 => as_aux_lemma => (first | k_is | rfl))
    (case a30 => as_aux_lemma => (k_is))
    (case l30 => as_aux_lemma => (k_is))
    (case c30 => as_aux_lemma => (k_is))
    (case k30 => as_aux_lemma => (k_is))
    (case j30 => as_aux_lemma => (first | k_is | rfl))
    (case a31 => as_aux_lemma => (k_is))
    (case l31 => as_aux_lemma => (k_is))
    (case c31 => as_aux_lemma => (k_is))
    (case k31 => as_aux_lemma => (k_is))
    (case j31 => as_aux_lemma => (first | k_is | rfl))
    (case a32 => as_aux_lemma => (k_is))
    (case l32 => as_aux_lemma => (k_is))
    (case c32 => as_aux_lemma => (k_is))
    (case k32 => as_aux_lemma => (k_is))
    (case j32 => as_aux_lemma => (first | k_is | rfl))
    (case a33 => as_aux_lemma => (k_is))
    (case l33 => as_aux_lemma => (k_is))
    (case c33 => as_aux_lemma => (k_is))
    (case k33 => as_aux_lemma => (k_is))
    (case j33 => as_aux_lemma => (first | k_is | rfl))
    (case a34 => as_aux_lemma => (k_is))
    (case l34 => as_aux_lemma => (k_is))
    (case c34 => as_aux_lemma => (k_is))
    (case k34 => as_aux_lemma => (k_is))
    (case a35 => as_aux_lemma => (k_is))
    (case l35 => as_aux_lemma => (k_is))
    (case c35 => as_aux_lemma => (k_is))
    (case k35 => as_aux_lemma => (k_is))
    (case a36 => as_aux_lemma => (k_is))
    (case l36 => as_aux_lemma => (k_is))
    (case c36 => as_aux_lemma => (k_is))
    (case k36 => as_aux_lemma => (k_is))
    (case a37 => as_aux_lemma => (k_is))
    (case l37 => as_aux_lemma => (k_is))
    (case c37 => as_aux_lemma => (k_is))
    (case k37 => as_aux_lemma => (k_is))
    (case a38 => as_aux_lemma => (k_is))
    (case l38 => as_aux_lemma => (k_is))
    (case c38 => as_aux_lemma => (k_is))
    (case k38 => as_aux_lemma => (k_is))
    (case a39 => as_aux_lemma => (k_is))
    (case l39 => as_aux_lemma => (k_is))
    (case c39 => as_aux_lemma => (k_is))
    (case k39 => as_aux_lemma => (k_is))
    (case a40 => as_aux_lemma => (k_is))
    (case l40 => as_aux_lemma => (k_is))
    (case c40 => as_aux_lemma => (k_is))
    (case k40 => as_aux_lemma => (k_is))
    (case a41 => as_aux_lemma => (k_is))
    (case l41 => as_aux_lemma => (k_is))
    (case c41 => as_aux_lemma => (k_is))
    (case k41 => as_aux_lemma => (k_is))
    (case a42 => as_aux_lemma => (k_is))
    (case l42 => as_aux_lemma => (k_is))
    (case c42 => as_aux_lemma => (k_is))
    (case k42 => as_aux_lemma => (k_is))
    (case a43 => as_aux_lemma => (k_is))
    (case l43 => as_aux_lemma => (k_is))
    (case c43 => as_aux_lemma => (k_is))
    (case k43 => as_aux_lemma => (k_is))
    (case a44 => as_aux_lemma => (k_is))
    (case l44 => as_aux_lemma => (k_is))
    (case c44 => as_aux_lemma => (k_is))
    (case k44 => as_aux_lemma => (k_is))
    (case a45 => as_aux_lemma => (k_is))
    (case l45 => as_aux_lemma => (k_is))
    (case c45 => as_aux_lemma => (k_is))
    (case k45 => as_aux_lemma => (k_is))
    (case a46 => as_aux_lemma => (k_is))
    (case l46 => as_aux_lemma => (k_is))
    (case c46 => as_aux_lemma => (k_is))
    (case k46 => as_aux_lemma => (k_is))
    (case a47 => as_aux_lemma => (k_is))
    (case l47 => as_aux_lemma => (k_is))
    (case c47 => as_aux_lemma => (k_is))
    (case k47 => as_aux_lemma => (k_is))
    (case a48 => as_aux_lemma => (k_is))
    (case l48 => as_aux_lemma => (k_is))
    (case c48 => as_aux_lemma => (k_is))
    (case k48 => as_aux_lemma => (k_is))
    (case a49 => as_aux_lemma => (k_is))
    (case l49 => as_aux_lemma => (k_is))
    (case c49 => as_aux_lemma => (k_is))
    (case k49 => as_aux_lemma => (k_is))
    (case a50 => as_aux_lemma => (k_is))
    (case l50 => as_aux_lemma => (k_is))
    (case c50 => as_aux_lemma => (k_is))
    (case k50 => as_aux_lemma => (k_is))
    (case a51 => as_aux_lemma => (k_is))
    (case l51 => as_aux_lemma => (k_is))
    (case c51 => as_aux_lemma => (k_is))
    (case k51 => as_aux_lemma => (k_is))
    (case a52 => as_aux_lemma => (k_is))
    (case l52 => as_aux_lemma => (k_is))
    (case c52 => as_aux_lemma => (k_is))
    (case k52 => as_aux_lemma => (k_is))
    (case a53 => as_aux_lemma => (k_is))
    (case l53 => as_aux_lemma => (k_is))
    (case c53 => as_aux_lemma => (k_is))
    (case k53 => as_aux_lemma => (k_is))
    (case z0 => as_aux_lemma => (k_is))
    (case z1 => as_aux_lemma => (k_is))
    (case z2 => as_aux_lemma => (k_is))
    (case z3 => as_aux_lemma => (k_is))
    (case z4 => as_aux_lemma => (k_is))
    (case z5 => as_aux_lemma => (k_is))
    (case z6 => as_aux_lemma => (k_is))
    (case z7 => as_aux_lemma => (k_is))
    (case z8 => as_aux_lemma => (k_is))
    (case z9 => as_aux_lemma => (k_is))
    (case z10 => as_aux_lemma => (k_is))
    (case z11 => as_aux_lemma => (k_is))
    (case z12 => as_aux_lemma => (k_is))
    (case z13 => as_aux_lemma => (k_is))
    (case z14 => as_aux_lemma => (k_is))
    (case z15 => as_aux_lemma => (k_is))
    (case z16 => as_aux_lemma => (k_is))
    (case z17 => as_aux_lemma => (k_is))


