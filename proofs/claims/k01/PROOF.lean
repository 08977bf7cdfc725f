import PyProof.Rows.All
import Wide.All
import OpenK.AllK
import Wide.FinOn
import HandS.ForMost
import HandS.Flow
import HandS.Style
import HandS.Wide
import HandS.WideBits
import HandS.Walk
import HandS.EndBits
import HandS.Deep
import HandS.IsInst
import HandS.TupAny
import HandS.Text
import HandS.Conv
import HandS.NoneIn
import HandS.SetFor
import HandS.SortInts
import HandS.ExcValue
import KE.SortData
import PyProof.TupleOfSeq
import HandS.Strs
import HandS.SetKeys
import HandS.ExcOwn
import HandS.WordsExc
import HandS.ExcField
import KE.KExcIs
import HandS.Dict
import HandS.RaiseMore
import HandS.DictComp
import HandS.ListItems
import HandS.ExcIs
import HandS.TryOnly
import HandS.Property
import HandS.Zip
import HandS.TupSets
import HandS.TupLe
import KE.SortKeyHeap
import KE.KSuperObj
import HandS.SortKw
import KE.KTupSum
import KE.DataMinMax
import HandS.SuiteRaise
import KE.KExcSuper
import KE.OsRunLaw
import PySem.Challenge.RW_farword_k01_books_taken
set_option Elab.async false
set_option linter.all false
set_option maxRecDepth 100000
set_option maxHeartbeats 2000000
/-! PL: symbolic running of a def over plain data (PyData), on top of the hand layer. -/
namespace PL
open PySem PySem.Spec PyProof.Rows L2

abbrev D := PyData
/-- what was known stays known -/
def Ex (H H' : Hp) : Prop := ∀ a o, H a = some o → H' a = some o
theorem Ex.refl (H : Hp) : Ex H H := fun _ _ h => h
theorem Ex.trans {H H1 H2 : Hp} (a : Ex H H1) (b : Ex H1 H2) : Ex H H2 := fun x o h => b x o (a x o h)
theorem Ex.new {H : Hp} {p : Addr} {o : HO} (h : H p = none) : Ex H (upd H p o) := fun a u e => by
  rw [upd_ne (ne_of_none e h)]
  exact e
theorem Ex.rd {H H' : Hp} {a : Addr} {u : HO} (e : Ex H H') (h : Rd H a u) : Rd H' a u := by
  rcases h with h | ⟨o, h⟩
  · exact .inl (e a _ h)
  · exact .inr ⟨o, e a _ h⟩
theorem Ex.sl {K : PySem.W.Frag} {H H' : Hp} {a : Addr} {xs : List V} (e : Ex H H') (h : SqL K H a xs) : SqL K H' a xs := by
  rcases h with h | h
  · exact .inl (e.rd h)
  · exact .inr h
theorem Ex.st {K : PySem.W.Frag} {H H' : Hp} {a : Addr} {xs : List V} (e : Ex H H') (h : SqT K H a xs) : SqT K H' a xs := by
  rcases h with h | h
  · exact .inl (e.rd h)
  · exact .inr h
theorem Ex.none {H H' : Hp} (e : Ex H H') {a : Addr} (h : H' a = none) : H a = none := by
  cases q : H a with
  | none => rfl
  | some o =>
    rw [e a o q] at h
    cases h
mutual
theorem dpUp {K : PySem.W.Frag} {H H' : Hp} (e : Ex H H') {v : V} {d : D} : Dp K H v d → Dp K H' v d
  | .non => .non
  | .bl b => .bl b
  | .int i => .int i
  | .str x => .str x
  | .lst s h => .lst (e.sl s) (dpsUp e h)
  | .tup s h => .tup (e.st s) (dpsUp e h)
theorem dpsUp {K : PySem.W.Frag} {H H' : Hp} (e : Ex H H') {vs : List V} {ds : List D} : DpAll K H vs ds → DpAll K H' vs ds
  | .nil => .nil
  | .cons h t => .cons (dpUp e h) (dpsUp e t)
end
theorem dps_len {K : PySem.W.Frag} {H : Hp} : ∀ {vs : List V} {ds : List D}, DpAll K H vs ds → vs.length = ds.length
  | _, _, .nil => rfl
  | _, _, .cons _ t => by
    rw [List.length_cons, List.length_cons, dps_len t]
theorem dps_get {K : PySem.W.Frag} {H : Hp} : ∀ {vs : List V} {ds : List D} {i : Nat} {d : D}, DpAll K H vs ds → ds[i]? = some d → ∃ v, vs[i]? = some v ∧ Dp K H v d
  | _, _, _, _, .nil, e => by simp at e
  | _, _, 0, _, .cons h _, e => by
    simp only [List.getElem?_cons_zero, Option.some.injEq] at e
    subst e
    exact ⟨_, rfl, h⟩
  | _, _, i + 1, d, .cons _ t, e => by
    obtain ⟨v, h1, h2⟩ := dps_get (i := i) (d := d) t (by simpa using e)
    exact ⟨v, by simpa using h1, h2⟩
theorem dps_getv {K : PySem.W.Frag} {H : Hp} : ∀ {vs : List V} {ds : List D} {i : Nat} {v : V}, DpAll K H vs ds → vs[i]? = some v → ∃ d, ds[i]? = some d ∧ Dp K H v d
  | _, _, _, _, .nil, e => by simp at e
  | _, _, 0, _, .cons h _, e => by
    simp only [List.getElem?_cons_zero, Option.some.injEq] at e
    subst e
    exact ⟨_, rfl, h⟩
  | _, _, i + 1, v, .cons _ t, e => by
    obtain ⟨d, h1, h2⟩ := dps_getv (i := i) (v := v) t (by simpa using e)
    exact ⟨d, by simpa using h1, h2⟩
theorem dps_app {K : PySem.W.Frag} {H : Hp} : ∀ {vs us : List V} {ds es : List D}, DpAll K H vs ds → DpAll K H us es → DpAll K H (vs ++ us) (ds ++ es)
  | _, _, _, _, .nil, s => s
  | _, _, _, _, .cons h t, s => .cons h (dps_app t s)
theorem dps_take {K : PySem.W.Frag} {H : Hp} : ∀ {vs : List V} {ds : List D} (n : Nat), DpAll K H vs ds → DpAll K H (vs.take n) (ds.take n)
  | _, _, 0, _ => .nil
  | _, _, _ + 1, .nil => .nil
  | _, _, n + 1, .cons h t => .cons h (dps_take n t)
theorem dps_drop {K : PySem.W.Frag} {H : Hp} : ∀ {vs : List V} {ds : List D} (n : Nat), DpAll K H vs ds → DpAll K H (vs.drop n) (ds.drop n)
  | _, _, 0, r => r
  | _, _, _ + 1, .nil => .nil
  | _, _, n + 1, .cons _ t => dps_drop n t
theorem dps_set {K : PySem.W.Frag} {H : Hp} {v : V} {d : D} (h : Dp K H v d) : ∀ {vs : List V} {ds : List D} (n : Nat), DpAll K H vs ds → DpAll K H (vs.set n v) (ds.set n d)
  | _, _, _, .nil => .nil
  | _, _, 0, .cons _ t => .cons h t
  | _, _, n + 1, .cons q t => .cons q (dps_set h n t)
theorem dps_rev {K : PySem.W.Frag} {H : Hp} : ∀ {vs : List V} {ds : List D}, DpAll K H vs ds → DpAll K H vs.reverse ds.reverse
  | _, _, .nil => .nil
  | _, _, .cons h t => by
    rw [List.reverse_cons, List.reverse_cons]
    exact dps_app (dps_rev t) (.cons h .nil)
theorem dps_ints {K : PySem.W.Frag} {H : Hp} : ∀ ns : List Int, DpAll K H (ns.map V.int) (ns.map PyData.int)
  | [] => .nil
  | n :: r => .cons (.int n) (dps_ints r)
theorem dps_ints_inv {K : PySem.W.Frag} {H : Hp} : ∀ {ns : List Int} {vs : List V}, DpAll K H vs (ns.map PyData.int) → vs = ns.map V.int
  | [], _, .nil => rfl
  | n :: r, _, .cons (.int _) t => by
    rw [dps_ints_inv t, List.map_cons]
theorem dps_strs_inv {K : PySem.W.Frag} {H : Hp} : ∀ {ns : List Str} {vs : List V}, DpAll K H vs (ns.map PyData.str) → vs = ns.map V.str
  | [], _, .nil => rfl
  | n :: r, _, .cons (.str _) t => by
    rw [dps_strs_inv t, List.map_cons]

/-! ### what a slot holds -/
/-- a thing that is not changed any more -/
structure Mn where
  p : PySem.W.Frag → Hp → V → Prop
  up : ∀ {K H H' v}, Ex H H' → p K H v → p K H' v
def datP (d : D) : Mn := ⟨fun K H v => Dp K H v d, fun e h => dpUp e h⟩
/-- a thing of our own, which may be changed: B what is not changed any more, H the heap, F its places -/
structure Ow where
  p : PySem.W.Frag → Hp → Hp → V → List Addr → Prop
  upB : ∀ {K B B' H v F}, Ex B B' → p K B H v F → p K B' H v F
  loc : ∀ {K B H H' v F}, (∀ a ∈ F, H' a = H a) → p K B H v F → p K B H' v F
  dom : ∀ {K B H v F}, p K B H v F → ∀ a ∈ F, H a ≠ none
def lstO (ds : List D) : Ow where
  p := fun K B H v F => ∃ a vs, v = .ref a ∧ F = [a] ∧ H a = some (.lst vs) ∧ DpAll K B vs ds
  upB := fun e ⟨a, vs, h1, h2, h3, h4⟩ => ⟨a, vs, h1, h2, h3, dpsUp e h4⟩
  loc := fun e ⟨a, vs, h1, h2, h3, h4⟩ => ⟨a, vs, h1, h2, (e a (by rw [h2]; exact List.mem_cons_self)).trans h3, h4⟩
  dom := fun ⟨a, vs, h1, h2, h3, h4⟩ b hb => by
    rw [h2] at hb
    rw [List.mem_singleton.mp hb, h3]
    exact fun z => nomatch z
inductive Sl
  | any
  | pr (P : Mn)
  | ob (P : Ow)
abbrev Sl.dat (d : D) : Sl := .pr (datP d)
abbrev Sl.own (ds : List D) : Sl := .ob (lstO ds)
def SlR (K : PySem.W.Frag) (B H : Hp) (o : Option (Option V)) (F : List Addr) : Sl → Prop
  | .any => True
  | .pr P => ∃ v, o = some (some v) ∧ P.p K B v
  | .ob P => ∃ v, o = some (some v) ∧ P.p K B H v F
abbrev Ga := List Sl
structure En (K : PySem.W.Frag) (B H : Hp) (σ : L2.St) (Γ : Ga) (Fs : Nat → List Addr) : Prop where
  bh : Ex B H
  len : σ.length = Γ.length
  at_ : ∀ i s, Γ[i]? = some s → SlR K B H σ[i]? (Fs i) s
  fre : ∀ i a, a ∈ Fs i → B a = none ∧ H a ≠ none
  dis : ∀ i j a, a ∈ Fs i → a ∈ Fs j → i = j
/-- behind an evaluation -/
structure Nw (B H B2 H2 : Hp) : Prop where
  bb : Ex B B2
  bh : Ex B2 H2
  hh : Ex H H2
  nu : ∀ a, B a = none → H a ≠ none → B2 a = none
theorem Nw.same {B H : Hp} (h : Ex B H) : Nw B H B H := ⟨.refl B, h, .refl H, fun _ h _ => h⟩
theorem Nw.trans {B H B1 H1 B2 H2 : Hp} (a : Nw B H B1 H1) (b : Nw B1 H1 B2 H2) : Nw B H B2 H2 where
  bb := a.bb.trans b.bb
  bh := b.bh
  hh := a.hh.trans b.hh
  nu := fun x h1 h2 => b.nu x (a.nu x h1 h2) fun z => h2 (a.hh.none z)
/-- a new object, frozen at once -/
theorem Nw.new {B H : Hp} {p : Addr} {o : HO} (h : Ex B H) (hp : H p = none) : Nw B H (upd B p o) (upd H p o) where
  bb := Ex.new (h.none hp)
  bh := fun a u e => by
    by_cases ha : a = p
    · subst ha
      rw [upd_same] at e ⊢
      exact e
    · rw [upd_ne ha] at e ⊢
      exact h a u e
  hh := Ex.new hp
  nu := fun a h1 h2 => by
    have : a ≠ p := fun z => h2 (by rw [z]; exact hp)
    rw [upd_ne this]
    exact h1
/-- a new object that is not frozen -/
theorem Nw.lay {B H : Hp} {p : Addr} {o : HO} (h : Ex B H) (hp : H p = none) : Nw B H B (upd H p o) where
  bb := .refl B
  bh := h.trans (Ex.new hp)
  hh := Ex.new hp
  nu := fun _ h1 _ => h1
/-- a thing that lies in the heap is frozen -/
theorem Nw.ice {B H : Hp} {p : Addr} {o : HO} (h : Ex B H) (hb : B p = none) (hp : H p = some o) : Ex B (upd B p o) ∧ Ex (upd B p o) H :=
  ⟨Ex.new hb, fun a u e => by
    by_cases ha : a = p
    · subst ha
      rw [upd_same] at e
      rw [hp]
      exact e
    · rw [upd_ne ha] at e
      exact h a u e⟩
section
variable {K : PySem.W.Frag} {B H B2 H2 : Hp} {σ : L2.St} {Γ : Ga} {Fs : Nat → List Addr}
theorem En.nw (E : En K B H σ Γ Fs) (n : Nw B H B2 H2) : En K B2 H2 σ Γ Fs where
  bh := n.bh
  len := E.len
  at_ := fun i s hs => by
    have := E.at_ i s hs
    cases s with
    | any => trivial
    | pr P =>
      obtain ⟨v, h1, h2⟩ := this
      exact ⟨v, h1, P.up n.bb h2⟩
    | ob P =>
      obtain ⟨v, h1, h2⟩ := this
      refine ⟨v, h1, P.loc (fun a ha => ?_) (P.upB n.bb h2)⟩
      cases q : H a with
      | none => exact absurd q (E.fre i a ha).2
      | some o => exact n.hh a o q
  fre := fun i a ha => ⟨n.nu a (E.fre i a ha).1 (E.fre i a ha).2, fun z => (E.fre i a ha).2 (n.hh.none z)⟩
  dis := E.dis
end
/-- the end of an evaluation -/
abbrev EQ (X : Cx) (B H : Hp) (P : Mn) (Q : VK) : Prop := ∀ v B2 H2, Nw B H B2 H2 → P.p X.K B2 v → Q v H2

/-! ### readings by what they are -/
def wpE (X : Cx) (e : Expr) : TE := fun σ H Q => ∀ pins s, Inv X pins σ H s → wpAny (model X.prog X.w) X.A (eval e X.env) (EP X pins σ Q) X.xe s
def wpT (X : Cx) (e : Expr) : TT := fun σ H Q => ∀ pins s, Inv X pins σ H s → wpAny (model X.prog X.w) X.A (isTrue e X.env (eval e X.env)) (TP X pins σ Q) X.xe s
def wpW (X : Cx) (e : Expr) : TT := fun σ H Q => ∀ whole pins s, Inv X pins σ H s → wpAny (model X.prog X.w) X.A (isTrue e X.env whole) (TP X pins σ Q) X.xe s
def wpA (X : Cx) (es : List Expr) : TA := fun σ H Q => ∀ pos pins s, Inv X pins σ H s → wpAny (model X.prog X.w) X.A (spliced (backTo pos (starEach es X.env))) (AP X pins σ Q) X.xe s
def wpS (X : Cx) (st : Stmt) : TS := fun D σ H => ∀ pins s, Inv X pins σ H s → wpAny (model X.prog X.w) X.A (exec st X.env) (SP X pins D) X.xe s
def wpSs (X : Cx) (st : List Stmt) : TS := fun D σ H => ∀ pins s, Inv X pins σ H s → wpAny (model X.prog X.w) X.A (execs st X.env) (SP X pins D) X.xe s
section
variable {X : Cx} {e : Expr} {es : List Expr} {st : Stmt} {sts : List Stmt}
theorem sE : PE X e (wpE X e) := ⟨fun pins s _ _ _ I h => h pins s I⟩
theorem sT : PT X e (wpT X e) := ⟨fun pins s _ _ _ I h => h pins s I⟩
theorem sW : PW X e (wpW X e) := ⟨fun wh pins s _ _ _ I h => h wh pins s I⟩
theorem sA : PA X es (wpA X es) := ⟨fun pos pins s _ _ _ I h => h pos pins s I⟩
theorem sS : PS X st (wpS X st) := ⟨fun pins s _ _ _ I h => h pins s I⟩
theorem sSs : PSs X sts (wpSs X sts) := ⟨fun pins s _ _ _ I h => h pins s I⟩
theorem toE {t : TE} {σ : L2.St} {H : Hp} {Q : VK} (p : PE X e t) (h : t σ H Q) : wpE X e σ H Q := fun pins s I => p.run pins s σ H Q I h
theorem toT {t : TT} {σ : L2.St} {H : Hp} {Q : Bool → Hp → Prop} (p : PT X e t) (h : t σ H Q) : wpT X e σ H Q := fun pins s I => p.run pins s σ H Q I h
theorem toW {t : TT} {σ : L2.St} {H : Hp} {Q : Bool → Hp → Prop} (p : PW X e t) (h : t σ H Q) : wpW X e σ H Q := fun wh pins s I => p.run wh pins s σ H Q I h
theorem toA {t : TA} {σ : L2.St} {H : Hp} {Q : List V → Hp → Prop} (p : PA X es t) (h : t σ H Q) : wpA X es σ H Q := fun pos pins s I => p.run pos pins s σ H Q I h
theorem toS {t : TS} {σ : L2.St} {H : Hp} {D : Ends} (p : PS X st t) (h : t D σ H) : wpS X st D σ H := fun pins s I => p.run pins s σ H D I h
theorem toSs {t : TS} {σ : L2.St} {H : Hp} {D : Ends} (p : PSs X sts t) (h : t D σ H) : wpSs X sts D σ H := fun pins s I => p.run pins s σ H D I h
end

/-! ### an expression over slots -/
structure GoP (X : Cx) (Γ : Ga) (e : Expr) (P : Mn) : Prop where
  run : ∀ σ B H Fs, En X.K B H σ Γ Fs → ∀ Q, EQ X B H P Q → wpE X e σ H Q
instance {X : Cx} {Γ : Ga} {e : Expr} {P : Mn} : CoeFun (GoP X Γ e P) fun _ => ∀ σ B H Fs, En X.K B H σ Γ Fs → ∀ Q, EQ X B H P Q → wpE X e σ H Q := ⟨GoP.run⟩
abbrev Go (X : Cx) (Γ : Ga) (e : Expr) (d : D) : Prop := GoP X Γ e (datP d)
/-- a new list -/
structure GoN (X : Cx) (Γ : Ga) (e : Expr) (ds : List D) : Prop where
  run : ∀ σ B H Fs, En X.K B H σ Γ Fs → ∀ Q : VK,
  (∀ p vs B2 H2, Nw B H B2 H2 → H p = none → B2 p = none → H2 p = some (.lst vs) → DpAll X.K B2 vs ds → Q (.ref p) H2) → wpE X e σ H Q
instance {X : Cx} {Γ : Ga} {e : Expr} {ds : List D} : CoeFun (GoN X Γ e ds) fun _ => ∀ σ B H Fs, En X.K B H σ Γ Fs → ∀ Q : VK,
    (∀ p vs B2 H2, Nw B H B2 H2 → H p = none → B2 p = none → H2 p = some (.lst vs) → DpAll X.K B2 vs ds → Q (.ref p) H2) → wpE X e σ H Q := ⟨GoN.run⟩
structure GoT (X : Cx) (Γ : Ga) (e : Expr) (b : Bool) : Prop where
  run : ∀ σ B H Fs, En X.K B H σ Γ Fs → ∀ Q : Bool → Hp → Prop, (∀ B2 H2, Nw B H B2 H2 → Q b H2) → wpT X e σ H Q
instance {X : Cx} {Γ : Ga} {e : Expr} {b : Bool} : CoeFun (GoT X Γ e b) fun _ => ∀ σ B H Fs, En X.K B H σ Γ Fs → ∀ Q : Bool → Hp → Prop, (∀ B2 H2, Nw B H B2 H2 → Q b H2) → wpT X e σ H Q := ⟨GoT.run⟩
structure GoW (X : Cx) (Γ : Ga) (e : Expr) (b : Bool) : Prop where
  run : ∀ σ B H Fs, En X.K B H σ Γ Fs → ∀ Q : Bool → Hp → Prop, (∀ B2 H2, Nw B H B2 H2 → Q b H2) → wpW X e σ H Q
instance {X : Cx} {Γ : Ga} {e : Expr} {b : Bool} : CoeFun (GoW X Γ e b) fun _ => ∀ σ B H Fs, En X.K B H σ Γ Fs → ∀ Q : Bool → Hp → Prop, (∀ B2 H2, Nw B H B2 H2 → Q b H2) → wpW X e σ H Q := ⟨GoW.run⟩
def wpC (X : Cx) (op : CmpOp) (a b : Expr) : TE := fun σ H Q => ∀ pins s, Inv X pins σ H s → wpAny (model X.prog X.w) X.A (eval a X.env) (fun v s₁ => wpAny (model X.prog X.w) X.A (eval b X.env) (fun u s₂ => wpAny (model X.prog X.w) X.A (compareOp op v u) (EP X pins σ Q) X.xe s₂) X.xe s₁) X.xe s
theorem sC {X : Cx} {op : CmpOp} {a b : Expr} : PC X op a b (wpC X op a b) := ⟨fun pins s _ _ _ I h => h pins s I⟩
theorem toC {X : Cx} {op : CmpOp} {a b : Expr} {t : TE} {σ : L2.St} {H : Hp} {Q : VK} (p : PC X op a b t) (h : t σ H Q) : wpC X op a b σ H Q := fun pins s I => p.run pins s σ H Q I h
theorem pc_op {X : Cx} {op : CmpOp} {a b : Expr} {r : V → V → Hp → VK → Prop} {ta tb : TE} (ho : OpR X (compareOp op) r) (ha : PE X a ta) (hb : PE X b tb) : PC X op a b (tOp r ta tb) :=
  ⟨fun pins s σ H Q I h => bin ha hb I h fun v u s2 x y H2 I2 rx ry q => ho pins s2 σ H2 x y v u Q I2 rx ry q⟩
structure GoC (X : Cx) (Γ : Ga) (op : CmpOp) (a b : Expr) (k : Bool) : Prop where
  run : ∀ σ B H Fs, En X.K B H σ Γ Fs → ∀ Q : VK, (∀ B2 H2, Nw B H B2 H2 → Q (.bl k) H2) → wpC X op a b σ H Q
instance {X : Cx} {Γ : Ga} {op : CmpOp} {a b : Expr} {k : Bool} : CoeFun (GoC X Γ op a b k) fun _ => ∀ σ B H Fs, En X.K B H σ Γ Fs → ∀ Q : VK, (∀ B2 H2, Nw B H B2 H2 → Q (.bl k) H2) → wpC X op a b σ H Q := ⟨GoC.run⟩
inductive MnAll (K : PySem.W.Frag) (B : Hp) : List V → List Mn → Prop
  | nil : MnAll K B [] []
  | cons {v : V} {vs : List V} {P : Mn} {Ps : List Mn} : P.p K B v → MnAll K B vs Ps → MnAll K B (v :: vs) (P :: Ps)
structure GoA (X : Cx) (Γ : Ga) (es : List Expr) (Ps : List Mn) : Prop where
  run : ∀ σ B H Fs, En X.K B H σ Γ Fs → ∀ Q : List V → Hp → Prop, (∀ vs B2 H2, Nw B H B2 H2 → MnAll X.K B2 vs Ps → Q vs H2) → wpA X es σ H Q
instance {X : Cx} {Γ : Ga} {es : List Expr} {Ps : List Mn} : CoeFun (GoA X Γ es Ps) fun _ => ∀ σ B H Fs, En X.K B H σ Γ Fs → ∀ Q : List V → Hp → Prop, (∀ vs B2 H2, Nw B H B2 H2 → MnAll X.K B2 vs Ps → Q vs H2) → wpA X es σ H Q := ⟨GoA.run⟩
theorem MnAll.up {K : PySem.W.Frag} {B B' : Hp} (e : Ex B B') : ∀ {vs : List V} {Ps : List Mn}, MnAll K B vs Ps → MnAll K B' vs Ps
  | _, _, .nil => .nil
  | _, _, .cons (P := P) h t => .cons (P.up e h) (MnAll.up e t)
theorem MnAll.dps {K : PySem.W.Frag} {B : Hp} : ∀ {ds : List D} {vs : List V}, MnAll K B vs (ds.map datP) → DpAll K B vs ds
  | [], _, .nil => .nil
  | _ :: _, _, .cons h t => .cons h (MnAll.dps t)
section
variable {X : Cx} {Γ : Ga} {e a b : Expr} {es : List Expr} {P : Mn} {d : D} {ds : List D} {pos : Pos}
theorem go_of_new (h : GoN X Γ e ds) : Go X Γ e (.list ds) := .mk fun σ B H Fs E Q q => h σ B H Fs E Q fun p vs B2 H2 n hp hb hH hd => by
  obtain ⟨e1, e2⟩ := Nw.ice n.bh hb hH
  refine q _ _ _ ⟨n.bb.trans e1, e2, n.hh, fun a h1 h2 => ?_⟩ (show Dp _ _ _ _ from .lst (.of upd_same) (dpsUp e1 hd))
  have : a ≠ p := fun z => h2 (by rw [z]; exact hp)
  rw [upd_ne this]
  exact n.nu a h1 h2
theorem go_is {d' : D} (h : Go X Γ e d) (he : d = d') : Go X Γ e d' := he ▸ h
theorem goT_is {b b' : Bool} (h : GoT X Γ e b) (he : b = b') : GoT X Γ e b' := he ▸ h
theorem goP_imp {P' : Mn} (h : GoP X Γ e P) (hp : ∀ K B v, P.p K B v → P'.p K B v) : GoP X Γ e P' := .mk fun σ B H Fs E Q q => h σ B H Fs E Q fun v B2 H2 n r => q v B2 H2 n (hp _ _ _ r)
theorem goA_nil : GoA X Γ [] [] := .mk fun σ B H Fs E Q q => toA pa_nil (q [] B H (.same E.bh) .nil)
theorem goA_cons {Ps : List Mn} (he : GoP X Γ e P) (ht : GoA X Γ es Ps) (hs : starEach (e :: es) X.env = (false, eval e X.env) :: starEach es X.env := by rfl) : GoA X Γ (e :: es) (P :: Ps) := .mk fun σ B H Fs E Q q =>
  toA (pa_cons sE sA hs) (he σ B H Fs E _ fun v B1 H1 n1 r1 => ht σ B1 H1 Fs (E.nw n1) _ fun vs B2 H2 n2 r2 => q (v :: vs) B2 H2 (n1.trans n2) (.cons (P.up n2.bb r1) r2))
theorem go_var (i : Nat) {x : Str} (hΓ : Γ[i]? = some (.pr P) := by rfl) (hN : X.N[i]? = some x := by rfl) (hv : Vis X.env.scope x := by first | exact Or.inl rfl | exact Or.inr (Or.inl rfl) | exact Or.inr (Or.inr rfl))
    (hd : (x == ("__debug__" : Str)) = false := by decide) (hcd : (x == ("__classdict__" : Str)) = false := by decide) : GoP X Γ (.Name x pos) P := .mk fun σ B H Fs E Q q => by
  obtain ⟨v, h1, h2⟩ := E.at_ i _ hΓ
  exact toE (pe_var hN hv hd hcd) ⟨v, h1, q v B H (.same E.bh) h2⟩
theorem go_int {i : Int} {j} : Go X Γ (.Constant (.int i) j pos) (.int i) := .mk fun σ B H Fs E Q q => toE pe_int (q _ B H (.same E.bh) (Dp.int i))
theorem go_bl {i : Bool} {j} : Go X Γ (.Constant (.bool i) j pos) (.bool i) := .mk fun σ B H Fs E Q q => toE pe_bl (q _ B H (.same E.bh) (Dp.bl i))
theorem go_non {j} : Go X Γ (.Constant .none j pos) .none := .mk fun σ B H Fs E Q q => toE pe_non (q _ B H (.same E.bh) Dp.non)
theorem go_str {x : Str} {j} : Go X Γ (.Constant (.str x) j pos) (.str x) := .mk fun σ B H Fs E Q q => toE pe_str (q _ B H (.same E.bh) (Dp.str x))
/-- an operator on flat values -/
theorem go_op2 {op : Operator} {r : V → V → Hp → VK → Prop} {x y : D} {P : Mn} (ho : OpR X (binaryOp op) r) (ha : Go X Γ a x) (hb : Go X Γ b y)
    (hr : ∀ v w B H, Ex B H → Dp X.K B v x → Dp X.K B w y → ∀ Q, EQ X B H P Q → r v w H Q) : GoP X Γ (.BinOp a op b pos) P := .mk fun σ B H Fs E Q q =>
  toE (pe_op ho sE sE) (ha σ B H Fs E _ fun v B1 H1 n1 r1 => hb σ B1 H1 Fs (E.nw n1) _ fun w B2 H2 n2 r2 =>
    hr v w B2 H2 n2.bh (dpUp n2.bb r1) r2 Q fun z B3 H3 n3 r3 => q z B3 H3 ((n1.trans n2).trans n3) r3)
theorem go_cmp2 {op : CmpOp} {r : V → V → Hp → VK → Prop} {x y : D} {c : Bool} (ho : OpR X (compareOp op) r) (ha : Go X Γ a x) (hb : Go X Γ b y)
    (hr : ∀ v w B H, Ex B H → Dp X.K B v x → Dp X.K B w y → ∀ Q : VK, Q (.bl c) H → r v w H Q) : GoC X Γ op a b c := .mk fun σ B H Fs E Q q =>
  toC (pc_op ho sE sE) (ha σ B H Fs E _ fun v B1 H1 n1 r1 => hb σ B1 H1 Fs (E.nw n1) _ fun w B2 H2 n2 r2 =>
    hr v w B2 H2 n2.bh (dpUp n2.bb r1) r2 Q (q B2 H2 (n1.trans n2)))
theorem goc {op : CmpOp} {k : Bool} (h : GoC X Γ op a b k) (hm : behindInMarks op b = false := by first | exact nobehind _ (by decide) (by decide) | rfl) : Go X Γ (.Compare a [op] [b] pos) (.bool k) := .mk fun σ B H Fs E Q q =>
  toE (pe_cmp sC hm) (h σ B H Fs E _ fun B2 H2 n => q _ B2 H2 n (Dp.bl k))
theorem gocT {op : CmpOp} {k : Bool} (h : GoC X Γ op a b k) (hm : behindInMarks op b = false := by first | exact nobehind _ (by decide) (by decide) | rfl) : GoT X Γ (.Compare a [op] [b] pos) k := .mk fun σ B H Fs E Q q =>
  toT (pt_cmp sC hm) (h σ B H Fs E _ fun B2 H2 n => ⟨k, rfl, q B2 H2 n⟩)
end

/-! ### arithmetic, comparisons -/
section
variable {X : Cx} {Γ : Ga} {e a b c : Expr} {es : List Expr} {P : Mn} {d : D} {ds : List D} {pos : Pos}
theorem dp_int {K : PySem.W.Frag} {H : Hp} {v : V} {i : Int} (h : Dp K H v (.int i)) : v = .int i := by
  cases h
  rfl
theorem dp_bl {K : PySem.W.Frag} {H : Hp} {v : V} {i : Bool} (h : Dp K H v (.bool i)) : v = .bl i := by
  cases h
  rfl
theorem dp_str {K : PySem.W.Frag} {H : Hp} {v : V} {i : Str} (h : Dp K H v (.str i)) : v = .str i := by
  cases h
  rfl
theorem dp_non {K : PySem.W.Frag} {H : Hp} {v : V} (h : Dp K H v .none) : v = .non := by
  cases h
  rfl
theorem dp_lst {K : PySem.W.Frag} {H : Hp} {v : V} (h : Dp K H v (.list ds)) : ∃ a vs, v = .ref a ∧ SqL K H a vs ∧ DpAll K H vs ds := by
  cases h with
  | lst h1 h2 => exact ⟨_, _, rfl, h1, h2⟩
theorem dp_tup {K : PySem.W.Frag} {H : Hp} {v : V} (h : Dp K H v (.tuple ds)) : ∃ a vs, v = .ref a ∧ SqT K H a vs ∧ DpAll K H vs ds := by
  cases h with
  | tup h1 h2 => exact ⟨_, _, rfl, h1, h2⟩
theorem go_ar {op : Operator} {C : Int → Int → Prop} {g : Int → Int → Int} {i j : Int} (ho : OpR X (binaryOp op) (rI C fun i j => .int (g i j))) (ha : Go X Γ a (.int i)) (hb : Go X Γ b (.int j)) (hc : C i j) :
    Go X Γ (.BinOp a op b pos) (.int (g i j)) := go_op2 ho ha hb fun v w B H hB r1 r2 Q q => by
  have e1 := dp_int r1
  have e2 := dp_int r2
  subst e1 e2
  exact ⟨i, j, rfl, rfl, hc, q _ B H (.same hB) (Dp.int _)⟩
theorem go_ar0 {op : Operator} {g : Int → Int → Int} {i j : Int} (ho : OpR X (binaryOp op) (rI0 fun i j => .int (g i j))) (ha : Go X Γ a (.int i)) (hb : Go X Γ b (.int j)) :
    Go X Γ (.BinOp a op b pos) (.int (g i j)) := go_op2 ho ha hb fun v w B H hB r1 r2 Q q => by
  have e1 := dp_int r1
  have e2 := dp_int r2
  subst e1 e2
  exact ⟨i, j, rfl, rfl, q _ B H (.same hB) (Dp.int _)⟩
theorem go_add {i j : Int} (ha : Go X Γ a (.int i)) (hb : Go X Γ b (.int j)) : Go X Γ (.BinOp a .Add b pos) (.int (i + j)) := go_ar0 op_add ha hb
theorem go_sub {i j : Int} (ha : Go X Γ a (.int i)) (hb : Go X Γ b (.int j)) : Go X Γ (.BinOp a .Sub b pos) (.int (i - j)) := go_ar0 op_sub ha hb
theorem go_mul {i j : Int} (ha : Go X Γ a (.int i)) (hb : Go X Γ b (.int j)) (hc : CMul i j) : Go X Γ (.BinOp a .Mult b pos) (.int (i * j)) := go_ar op_mul ha hb hc
theorem go_mulX {i j : Int} (ha : Go X Γ a (.int i)) (hb : Go X Γ b (.int j)) (hc : CMulX i j) : Go X Γ (.BinOp a .Mult b pos) (.int (i * j)) := go_ar op_mulX ha hb hc
theorem go_fdiv {i j : Int} (ha : Go X Γ a (.int i)) (hb : Go X Γ b (.int j)) (hc : CDiv i j) : Go X Γ (.BinOp a .FloorDiv b pos) (.int (i / j)) := go_ar op_fdiv ha hb hc
theorem go_mod {i j : Int} (ha : Go X Γ a (.int i)) (hb : Go X Γ b (.int j)) (hc : 0 < j) : Go X Γ (.BinOp a .Mod b pos) (.int (i % j)) := go_ar op_mod ha hb hc
theorem go_pow {i j : Int} (ha : Go X Γ a (.int i)) (hb : Go X Γ b (.int j)) (hc : CPow i j) : Go X Γ (.BinOp a .Pow b pos) (.int (i ^ j.toNat)) := go_ar op_pow ha hb hc
theorem go_shl {i j : Int} (ha : Go X Γ a (.int i)) (hb : Go X Γ b (.int j)) (hc : CPow i j) : Go X Γ (.BinOp a .LShift b pos) (.int (i * 2 ^ j.toNat)) := go_ar (g := fun i j => i * 2 ^ j.toNat) op_shl ha hb hc
theorem go_shr {i j : Int} (ha : Go X Γ a (.int i)) (hb : Go X Γ b (.int j)) (hc : 0 ≤ j) : Go X Γ (.BinOp a .RShift b pos) (.int (i / 2 ^ j.toNat)) := go_ar (g := fun i j => i / 2 ^ j.toNat) (C := fun _ j => 0 ≤ j) op_shr ha hb hc
theorem go_and {i j : Int} (ha : Go X Γ a (.int i)) (hb : Go X Γ b (.int j)) : Go X Γ (.BinOp a .BitAnd b pos) (.int (Builtin.bitAnd i j)) := go_ar0 op_and ha hb
theorem go_or {i j : Int} (ha : Go X Γ a (.int i)) (hb : Go X Γ b (.int j)) : Go X Γ (.BinOp a .BitOr b pos) (.int (Builtin.bitOr i j)) := go_ar0 op_or ha hb
theorem go_xor {i j : Int} (ha : Go X Γ a (.int i)) (hb : Go X Γ b (.int j)) : Go X Γ (.BinOp a .BitXor b pos) (.int (Builtin.bitXor i j)) := go_ar0 op_xor ha hb
theorem go_neg {i : Int} (ha : Go X Γ a (.int i)) : Go X Γ (.UnaryOp .USub a pos) (.int (-i)) := .mk fun σ B H Fs E Q q =>
  toE (pe_un un_neg sE) (ha σ B H Fs E _ fun v B1 H1 n1 r1 => ⟨i, dp_int r1, q _ B1 H1 n1 (Dp.int _)⟩)
theorem go_addS {i j : Str} (ha : Go X Γ a (.str i)) (hb : Go X Γ b (.str j)) (hl : i.length + j.length ≤ sizeLine) : Go X Γ (.BinOp a .Add b pos) (.str (i ++ j)) := go_op2 op_add_str ha hb fun v w B H hB r1 r2 Q q => by
  have e1 := dp_str r1
  have e2 := dp_str r2
  subst e1 e2
  exact ⟨i, j, rfl, rfl, hl, q _ B H (.same hB) (Dp.str _)⟩
theorem go_cmpI {op : CmpOp} {g : Int → Int → Bool} {i j : Int} (ho : OpR X (compareOp op) (rI0 fun i j => .bl (g i j))) (ha : Go X Γ a (.int i)) (hb : Go X Γ b (.int j)) :
    GoC X Γ op a b (g i j) := go_cmp2 ho ha hb (fun v w B H hB r1 r2 Q q => ⟨i, j, dp_int r1, dp_int r2, q⟩)
theorem gc_lt {i j : Int} (ha : Go X Γ a (.int i)) (hb : Go X Γ b (.int j)) : GoC X Γ .Lt a b (decide (i < j)) := go_cmpI op_lt ha hb
theorem gc_le {i j : Int} (ha : Go X Γ a (.int i)) (hb : Go X Γ b (.int j)) : GoC X Γ .LtE a b (decide (i ≤ j)) := go_cmpI op_le ha hb
theorem gc_gt {i j : Int} (ha : Go X Γ a (.int i)) (hb : Go X Γ b (.int j)) : GoC X Γ .Gt a b (decide (j < i)) := go_cmpI op_gt ha hb
theorem gc_ge {i j : Int} (ha : Go X Γ a (.int i)) (hb : Go X Γ b (.int j)) : GoC X Γ .GtE a b (decide (j ≤ i)) := go_cmpI op_ge ha hb
theorem gc_eqI {i j : Int} (ha : Go X Γ a (.int i)) (hb : Go X Γ b (.int j)) : GoC X Γ .Eq a b (decide (i = j)) := go_cmp2 op_eq ha hb (fun v w B H hB r1 r2 Q q => by
  rw [dp_int r1, dp_int r2]
  refine ⟨rfl, ?_⟩
  rw [show decide (V.int i = V.int j) = decide (i = j) from decide_eq_decide.mpr ⟨V.int.inj, congrArg _⟩]
  exact q)
theorem gc_neI {i j : Int} (ha : Go X Γ a (.int i)) (hb : Go X Γ b (.int j)) : GoC X Γ .NotEq a b (!decide (i = j)) := go_cmp2 op_ne ha hb (fun v w B H hB r1 r2 Q q => by
  rw [dp_int r1, dp_int r2]
  refine ⟨rfl, ?_⟩
  rw [show decide (V.int i = V.int j) = decide (i = j) from decide_eq_decide.mpr ⟨V.int.inj, congrArg _⟩]
  exact q)
theorem gc_eqS {i j : Str} (ha : Go X Γ a (.str i)) (hb : Go X Γ b (.str j)) : GoC X Γ .Eq a b (decide (i = j)) := go_cmp2 op_eq ha hb (fun v w B H hB r1 r2 Q q => by
  rw [dp_str r1, dp_str r2]
  refine ⟨rfl, ?_⟩
  rw [show decide (V.str i = V.str j) = decide (i = j) from decide_eq_decide.mpr ⟨V.str.inj, congrArg _⟩]
  exact q)
theorem gc_neS {i j : Str} (ha : Go X Γ a (.str i)) (hb : Go X Γ b (.str j)) : GoC X Γ .NotEq a b (!decide (i = j)) := go_cmp2 op_ne ha hb (fun v w B H hB r1 r2 Q q => by
  rw [dp_str r1, dp_str r2]
  refine ⟨rfl, ?_⟩
  rw [show decide (V.str i = V.str j) = decide (i = j) from decide_eq_decide.mpr ⟨V.str.inj, congrArg _⟩]
  exact q)
theorem gc_eqB {i j : Bool} (ha : Go X Γ a (.bool i)) (hb : Go X Γ b (.bool j)) : GoC X Γ .Eq a b (i == j) := go_cmp2 op_eq ha hb (fun v w B H hB r1 r2 Q q => by
  rw [dp_bl r1, dp_bl r2]
  refine ⟨rfl, ?_⟩
  rw [show decide (V.bl i = V.bl j) = (i == j) by cases i <;> cases j <;> rfl]
  exact q)
theorem gc_neB {i j : Bool} (ha : Go X Γ a (.bool i)) (hb : Go X Γ b (.bool j)) : GoC X Γ .NotEq a b (i != j) := go_cmp2 op_ne ha hb (fun v w B H hB r1 r2 Q q => by
  rw [dp_bl r1, dp_bl r2]
  refine ⟨rfl, ?_⟩
  rw [show (!decide (V.bl i = V.bl j)) = (i != j) by cases i <;> cases j <;> rfl]
  exact q)
/-- room for what runs below -/
def UOk (X : Cx) : Prop := X.A.units + 200 < cLine
theorem UOk.of {X : Cx} {k : Nat} (r : Room k X.A) : UOk X := by
  have := r.un
  show X.A.units + 200 < cLine
  omega
theorem UOk.u65 {X : Cx} (h : UOk X) : X.A.units + 65 < cLine := by
  have h' : X.A.units + 200 < cLine := h
  omega
theorem UOk.u64 {X : Cx} (h : UOk X) : X.A.units + 64 < cLine := by
  have h' : X.A.units + 200 < cLine := h
  omega
theorem UOk.u1 {X : Cx} (h : UOk X) : X.A.units + 1 < cLine := by
  have h' : X.A.units + 200 < cLine := h
  omega
theorem UOk.u0 {X : Cx} (h : UOk X) : X.A.units < cLine := by
  have h' : X.A.units + 200 < cLine := h
  omega
theorem gc_eqD {x y : D} (hu : UOk X) (ha : Go X Γ a x) (hb : Go X Γ b y) (h1 : SeqAt.shaped x = true) (h2 : SeqAt.shaped y = true) : GoC X Γ .Eq a b (PyData.eqv x y) :=
  go_cmp2 (op_eqD hu.u64) ha hb (fun v w B H hB r1 r2 Q q => ⟨x, y, dpUp hB r1, dpUp hB r2, h1, h2, q⟩)
theorem gc_neD {x y : D} (hu : UOk X) (ha : Go X Γ a x) (hb : Go X Γ b y) (h1 : SeqAt.shaped x = true) (h2 : SeqAt.shaped y = true) : GoC X Γ .NotEq a b (!PyData.eqv x y) :=
  go_cmp2 (op_neD hu.u64) ha hb (fun v w B H hB r1 r2 Q q => ⟨x, y, dpUp hB r1, dpUp hB r2, h1, h2, q⟩)
/-- x in xs, by == of data of any depth -/
def hasD (ds : List D) (d : D) : Bool := ds.any fun z => PyData.eqv z d
end

/-! ### tests, truth, in -/
section
variable {X : Cx} {Γ : Ga} {e a b c : Expr} {es rest : List Expr} {P : Mn} {d : D} {ds : List D} {pos : Pos} {k l : Bool}
theorem goW_T (h : GoW X Γ e k) : GoT X Γ e k := .mk fun σ B H Fs E Q q pins s I => h σ B H Fs E Q q (eval e X.env) pins s I
/-- a test that is a value of its own -/
theorem goT_val (h : Go X Γ e (.bool k)) (he : ∀ whole, isTrue e X.env whole = (do let v ← whole; standAt e.pos; holding [v] (truthy v)) := by intro _; rfl) : GoT X Γ e k := .mk fun σ B H Fs E Q q =>
  toT (pt_val sE he) (h σ B H Fs E _ fun v B1 H1 n1 r1 => ⟨k, dp_bl r1, q B1 H1 n1⟩)
theorem goT_not (h : GoT X Γ a k) : GoT X Γ (.UnaryOp .Not a pos) (!k) := .mk fun σ B H Fs E Q q => toT (pt_not sT) (h σ B H Fs E _ fun B1 H1 n1 => q B1 H1 n1)
theorem goW_and1 (h : GoT X Γ a k) : GoW X Γ (.BoolOp .And [a] pos) k := .mk fun σ B H Fs E Q q => toW (pw_and1 sT) (h σ B H Fs E _ q)
theorem goW_or1 (h : GoT X Γ a k) : GoW X Γ (.BoolOp .Or [a] pos) k := .mk fun σ B H Fs E Q q => toW (pw_or1 sT) (h σ B H Fs E _ q)
theorem goW_and (h : GoT X Γ a k) (h2 : k = true → GoW X Γ (.BoolOp .And (b :: rest) pos) l) : GoW X Γ (.BoolOp .And (a :: b :: rest) pos) (k && l) := .mk fun σ B H Fs E Q q =>
  toW (pw_and sT sW) (h σ B H Fs E _ fun B1 H1 n1 => by
    cases k with
    | false => exact iteF (q B1 H1 n1)
    | true => exact iteT (h2 rfl σ B1 H1 Fs (E.nw n1) _ fun B2 H2 n2 => q B2 H2 (n1.trans n2)))
theorem goW_or (h : GoT X Γ a k) (h2 : k = false → GoW X Γ (.BoolOp .Or (b :: rest) pos) l) : GoW X Γ (.BoolOp .Or (a :: b :: rest) pos) (k || l) := .mk fun σ B H Fs E Q q =>
  toW (pw_or sT sW) (h σ B H Fs E _ fun B1 H1 n1 => by
    cases k with
    | true => exact iteT (q B1 H1 n1)
    | false => exact iteF (h2 rfl σ B1 H1 Fs (E.nw n1) _ fun B2 H2 n2 => q B2 H2 (n1.trans n2)))
/-! the same as values -/
theorem go_one {op} (h : GoP X Γ a P) : GoP X Γ (.BoolOp op [a] pos) P := .mk fun σ B H Fs E Q q => toE (pe_one sE) (h σ B H Fs E Q q)
theorem go_andV (h : Go X Γ a (.bool k)) (h2 : k = true → Go X Γ (.BoolOp .And (b :: rest) pos) (.bool l)) : Go X Γ (.BoolOp .And (a :: b :: rest) pos) (.bool (k && l)) := .mk fun σ B H Fs E Q q =>
  toE (pe_and sE sE) (h σ B H Fs E _ fun v B1 H1 n1 r1 => ⟨k, dp_bl r1, by
    cases k with
    | false => exact iteF (q _ B1 H1 n1 (Dp.bl _))
    | true => exact iteT (h2 rfl σ B1 H1 Fs (E.nw n1) _ fun v B2 H2 n2 r2 => q v B2 H2 (n1.trans n2) r2)⟩)
theorem go_orV (h : Go X Γ a (.bool k)) (h2 : k = false → Go X Γ (.BoolOp .Or (b :: rest) pos) (.bool l)) : Go X Γ (.BoolOp .Or (a :: b :: rest) pos) (.bool (k || l)) := .mk fun σ B H Fs E Q q =>
  toE (pe_or sE sE) (h σ B H Fs E _ fun v B1 H1 n1 r1 => ⟨k, dp_bl r1, by
    cases k with
    | true => exact iteT (q _ B1 H1 n1 (Dp.bl _))
    | false => exact iteF (h2 rfl σ B1 H1 Fs (E.nw n1) _ fun v B2 H2 n2 r2 => q v B2 H2 (n1.trans n2) r2)⟩)
theorem go_notV (h : Go X Γ a (.bool k)) : Go X Γ (.UnaryOp .Not a pos) (.bool (!k)) := .mk fun σ B H Fs E Q q =>
  toE (pe_not sE) (h σ B H Fs E _ fun v B1 H1 n1 r1 => ⟨k, dp_bl r1, q _ B1 H1 n1 (Dp.bl _)⟩)
theorem go_ifE (h : GoT X Γ c k) (h1 : k = true → GoP X Γ a P) (h2 : k = false → GoP X Γ b P) : GoP X Γ (.IfExp c a b pos) P := .mk fun σ B H Fs E Q q =>
  toE (pe_ifExp sT sE sE) (h σ B H Fs E _ fun B1 H1 n1 => by
    cases k with
    | true => exact iteT (h1 rfl σ B1 H1 Fs (E.nw n1) _ fun v B2 H2 n2 r2 => q v B2 H2 (n1.trans n2) r2)
    | false => exact iteF (h2 rfl σ B1 H1 Fs (E.nw n1) _ fun v B2 H2 n2 r2 => q v B2 H2 (n1.trans n2) r2))
def isNonD : D → Bool
  | .none => true
  | _ => false
theorem gc_isN {j pos'} (h : Go X Γ a d) : GoC X Γ .Is a (.Constant .none j pos') (isNonD d) := .mk fun σ B H Fs E Q q =>
  toC (pc_isN sE) (h σ B H Fs E _ fun v B1 H1 n1 r1 => by
    have : decide (v = V.non) = isNonD d := by
      cases r1 <;> rfl
    show Q (.bl (decide (v = V.non))) H1
    rw [this]
    exact q B1 H1 n1)
theorem gc_notN {j pos'} (h : Go X Γ a d) : GoC X Γ .IsNot a (.Constant .none j pos') (!isNonD d) := .mk fun σ B H Fs E Q q =>
  toC (pc_notN sE) (h σ B H Fs E _ fun v B1 H1 n1 r1 => by
    have : decide (v = V.non) = isNonD d := by
      cases r1 <;> rfl
    show Q (.bl (!decide (v = V.non))) H1
    rw [this]
    exact q B1 H1 n1)
/-- the truth of a value -/
def truD : D → Bool
  | .none => false
  | .bool b => b
  | .int i => i != 0
  | .str y => (y.length : Int) != 0
  | .list xs => (xs.length : Int) != 0
  | .tuple xs => (xs.length : Int) != 0
  | .dict _ => false
theorem goT_tru (h : Go X Γ a d) (hd : ∀ y, d = .str y → y.length ≤ sizeLine) (hn : ∀ z, d ≠ .dict z) (he : ∀ whole, isTrue a X.env whole = (do let v ← whole; standAt a.pos; holding [v] (truthy v)) := by intro _; rfl) : GoT X Γ a (truD d) := .mk fun σ B H Fs E Q q =>
  toT (pt_truth sE he) (h σ B H Fs E _ fun v B1 H1 n1 r1 => by
    have e1 := n1.bh
    cases r1 with
    | non => exact ⟨_, rfl, q B1 H1 n1⟩
    | bl b => exact ⟨_, rfl, q B1 H1 n1⟩
    | int b => exact ⟨_, rfl, q B1 H1 n1⟩
    | str y => exact ⟨_, ⟨hd y rfl, rfl⟩, q B1 H1 n1⟩
    | lst h1 h2 =>
      refine ⟨_, .inl ⟨_, e1.sl h1, rfl⟩, ?_⟩
      cases h2 <;> exact q B1 H1 n1
    | tup h1 h2 =>
      refine ⟨_, .inr (.inl ⟨_, e1.st h1, rfl⟩), ?_⟩
      cases h2 <;> exact q B1 H1 n1)
theorem gc_in {x : D} (hu : UOk X) (ha : Go X Γ a x) (hb : Go X Γ b (.list ds)) (h1 : SeqAt.shaped x = true) (h2 : SeqAt.shaped (.list ds) = true) : GoC X Γ .In a b (hasD ds x) :=
  go_cmp2 (op_inD hu.u65) ha hb (fun v w B H hB r1 r2 Q q => ⟨x, ds, dpUp hB r1, dpUp hB r2, h1, h2, q⟩)
theorem gc_notIn {x : D} (hu : UOk X) (ha : Go X Γ a x) (hb : Go X Γ b (.list ds)) (h1 : SeqAt.shaped x = true) (h2 : SeqAt.shaped (.list ds) = true) : GoC X Γ .NotIn a b (!hasD ds x) :=
  go_cmp2 (op_notInD hu.u65) ha hb (fun v w B H hB r1 r2 Q q => ⟨x, ds, dpUp hB r1, dpUp hB r2, h1, h2, q⟩)
end

/-! ### displays, subscripts, slices -/
abbrev GoDs (X : Cx) (Γ : Ga) (es : List Expr) (ds : List D) : Prop := GoA X Γ es (ds.map datP)
def slD (ds : List D) (lo hi : Option Int) : List D := (ds.drop (HT.sIx ds.length 0 lo)).take (HT.sIx ds.length ds.length hi - HT.sIx ds.length 0 lo)
theorem dps_cut {K : PySem.W.Frag} {H : Hp} {vs : List V} {ds : List D} (h : DpAll K H vs ds) (lo hi : Option Int) : DpAll K H (cutV vs lo hi) (slD ds lo hi) := by
  unfold cutV slD
  rw [dps_len h]
  exact dps_take _ (dps_drop _ h)
theorem dps_atI {K : PySem.W.Frag} {H : Hp} {vs : List V} {ds : List D} {i : Int} {d : D} (h : DpAll K H vs ds) (e : atI ds i = some d) : ∃ v, atI vs i = some v ∧ Dp K H v d := by
  unfold atI at e ⊢
  rw [dps_len h]
  cases q : ixN ds.length i with
  | none =>
    rw [q] at e
    cases e
  | some j =>
    rw [q] at e
    exact dps_get h e
def GoO (X : Cx) (Γ : Ga) : Option Expr → Option Int → Prop
  | none, o => o = none
  | some e, o => ∃ i, o = some i ∧ Go X Γ e (.int i)
section
variable {X : Cx} {Γ : Ga} {e a b c : Expr} {es rest : List Expr} {P : Mn} {d : D} {ds : List D} {pos : Pos} {k l : Bool}
theorem god_nil : GoDs X Γ [] [] := goA_nil
theorem god_cons (he : Go X Γ e d) (ht : GoDs X Γ es ds) (hs : starEach (e :: es) X.env = (false, eval e X.env) :: starEach es X.env := by rfl) : GoDs X Γ (e :: es) (d :: ds) := goA_cons he ht hs
theorem goN_lst (h : GoDs X Γ es ds) (hl : ds.length ≤ sizeLine := by show _ ≤ _; simp only [List.length]; decide) : GoN X Γ (.List es pos) ds := .mk fun σ B H Fs E Q q =>
  toE (pe_lst sA) (h σ B H Fs E _ fun vs B1 H1 n1 r1 => by
    have r2 := r1.dps
    refine ⟨by rw [dps_len r2]; exact hl, fun p hp => ?_⟩
    exact q p vs B1 _ (n1.trans (.lay n1.bh hp)) (n1.hh.none hp) (n1.bh.none hp) upd_same r2)
theorem go_lst (h : GoDs X Γ es ds) (hl : ds.length ≤ sizeLine := by show _ ≤ _; simp only [List.length]; decide) : Go X Γ (.List es pos) (.list ds) := go_of_new (goN_lst h hl)
theorem go_tup {j} (h : GoDs X Γ es ds) (hl : ds.length ≤ sizeLine := by show _ ≤ _; simp only [List.length]; decide) : Go X Γ (.Tuple es j pos) (.tuple ds) := .mk fun σ B H Fs E Q q =>
  toE (pe_tup sA) (h σ B H Fs E _ fun vs B1 H1 n1 r1 => by
    have r2 := r1.dps
    refine ⟨by rw [dps_len r2]; exact hl, fun p hp => ?_⟩
    have n2 := Nw.new (o := .tup vs) n1.bh hp
    exact q _ _ _ (n1.trans n2) (Dp.tup (.of upd_same) (dpsUp n2.bb r2)))
theorem go_ixL {i : Int} (ha : Go X Γ a (.list ds)) (hb : Go X Γ b (.int i)) (hi : atI ds i = some d) (hs : PlainIx b := by exact fun _ _ => rfl) : Go X Γ (.Subscript a b pos) d := .mk fun σ B H Fs E Q q =>
  toE (pe_ix ix_list sE sE hs) (ha σ B H Fs E _ fun v B1 H1 n1 r1 => hb σ B1 H1 Fs (E.nw n1) _ fun w B2 H2 n2 r2 => by
    obtain ⟨p, vs, e1, e2, e3⟩ := dp_lst (dpUp n2.bb r1)
    obtain ⟨u, e4, e5⟩ := dps_atI e3 hi
    exact ⟨p, vs, i, u, e1, dp_int r2, n2.bh.sl e2, e4, q u B2 H2 (n1.trans n2) e5⟩)
theorem go_ixT {i : Int} (ha : Go X Γ a (.tuple ds)) (hb : Go X Γ b (.int i)) (hi : atI ds i = some d) (hs : PlainIx b := by exact fun _ _ => rfl) : Go X Γ (.Subscript a b pos) d := .mk fun σ B H Fs E Q q =>
  toE (pe_ix ix_tup sE sE hs) (ha σ B H Fs E _ fun v B1 H1 n1 r1 => hb σ B1 H1 Fs (E.nw n1) _ fun w B2 H2 n2 r2 => by
    obtain ⟨p, vs, e1, e2, e3⟩ := dp_tup (dpUp n2.bb r1)
    obtain ⟨u, e4, e5⟩ := dps_atI e3 hi
    exact ⟨p, vs, i, u, e1, dp_int r2, n2.bh.st e2, e4, q u B2 H2 (n1.trans n2) e5⟩)
theorem go_ixS {i : Int} {z : Str} {m : Nat} (ha : Go X Γ a (.str z)) (hb : Go X Γ b (.int i)) (hl : z.length ≤ sizeLine) (hi : atI z.cps.toList i = some m) (hs : PlainIx b := by exact fun _ _ => rfl) : Go X Γ (.Subscript a b pos) (.str ⟨#[m]⟩) := .mk fun σ B H Fs E Q q =>
  toE (pe_ix ix_str sE sE hs) (ha σ B H Fs E _ fun v B1 H1 n1 r1 => hb σ B1 H1 Fs (E.nw n1) _ fun w B2 H2 n2 r2 =>
    ⟨z, i, m, dp_str r1, dp_int r2, hl, hi, q _ B2 H2 (n1.trans n2) (Dp.str _)⟩)
def wpO (X : Cx) : Option Expr → TO
  | none => tNoPart
  | some e => tPart (wpE X e)
theorem sO : ∀ {o : Option Expr}, PO X o (wpO X o)
  | none => po_none
  | some _ => po_some sE
theorem goO_run {oe : Option Expr} {o : Option Int} (h : GoO X Γ oe o) {σ B H Fs} (E : En X.K B H σ Γ Fs) {Q : Option Int → Hp → Prop} (q : ∀ B2 H2, Nw B H B2 H2 → Q o H2) : wpO X oe σ H Q := by
  cases oe with
  | none =>
    have e : o = none := h
    subst e
    exact q B H (.same E.bh)
  | some e =>
    obtain ⟨i, rfl, h⟩ := h
    exact h σ B H Fs E _ fun v B1 H1 n1 r1 => ⟨i, dp_int r1, q B1 H1 n1⟩
theorem goO_none : GoO X Γ none none := rfl
theorem goO_some {i : Int} (h : Go X Γ e (.int i)) : GoO X Γ (some e) (some i) := ⟨i, rfl, h⟩
theorem goN_sl {lo hi : Option Expr} {x y : Option Int} {p2 : Pos} (ha : Go X Γ a (.list ds)) (hl : GoO X Γ lo x) (hh : GoO X Γ hi y) : GoN X Γ (.Subscript a (.Slice lo hi none p2) pos) (slD ds x y) := .mk fun σ B H Fs E Q q =>
  toE (pe_slice sl_list sE sO sO) (ha σ B H Fs E _ fun v B1 H1 n1 r1 => goO_run hl (E.nw n1) fun B2 H2 n2 => goO_run hh ((E.nw n1).nw n2) fun B3 H3 n3 => by
    obtain ⟨p, vs, e1, e2, e3⟩ := dp_lst (dpUp (n2.bb.trans n3.bb) r1)
    refine ⟨p, vs, e1, n3.bh.sl e2, fun l hl => ?_⟩
    have n := (n1.trans n2).trans n3
    exact q l _ B3 _ (n.trans (.lay n.bh hl)) (n.hh.none hl) (n.bh.none hl) upd_same (dps_cut e3 x y))
/-! ### calls of built-in functions -/
theorem go_callB {x : Str} {id : String} {r : List V → Hp → VK → Prop} {Ps : List Mn} {p : Pos} (hc : CallR X (.builtin id) r) (hg : Gl X x) (hm : X.mg x = none) (hv : bootBuiltins x = some (.builtin id)) (ha : GoA X Γ (e :: es) Ps)
    (hr : ∀ vs B H, Ex B H → MnAll X.K B vs Ps → ∀ Q, EQ X B H P Q → r vs H Q) (hn : x ≠ "__name__" := by decide) (hdb : (x == ("__debug__" : Str)) = false := by decide)
    (he : starEach (e :: es) X.env = (false, eval e X.env) :: starEach es X.env := by rfl) (hpl : (backTo pos (starEach es X.env)).any (·.1) = false := by rfl) : GoP X Γ (.Call (.Name x p) (e :: es) [] pos) P := .mk fun σ B H Fs E Q q =>
  toE (pe_callB hc hg hm hv sA hn hdb he hpl) (ha σ B H Fs E _ fun vs B1 H1 n1 r1 => hr vs B1 H1 n1.bh r1 Q fun v B2 H2 n2 r2 => q v B2 H2 (n1.trans n2) r2)
theorem go_callTy {x : Str} {id : String} {r : List V → Hp → VK → Prop} {Ps : List Mn} {p : Pos} (hc : CallR X (.type id) r) (hg : Gl X x) (hm : X.mg x = none) (hv : bootBuiltins x = some (.type id)) (ha : GoA X Γ (e :: es) Ps)
    (hr : ∀ vs B H, Ex B H → MnAll X.K B vs Ps → ∀ Q, EQ X B H P Q → r vs H Q) (hn : x ≠ "__name__" := by decide) (hdb : (x == ("__debug__" : Str)) = false := by decide)
    (he : starEach (e :: es) X.env = (false, eval e X.env) :: starEach es X.env := by rfl) (hpl : (backTo pos (starEach es X.env)).any (·.1) = false := by rfl) : GoP X Γ (.Call (.Name x p) (e :: es) [] pos) P := .mk fun σ B H Fs E Q q =>
  toE (pe_callTy hc hg hm hv sA hn hdb he hpl) (ha σ B H Fs E _ fun vs B1 H1 n1 r1 => hr vs B1 H1 n1.bh r1 Q fun v B2 H2 n2 r2 => q v B2 H2 (n1.trans n2) r2)
/-- a new list by a built-in function -/
theorem goN_callTy {x : Str} {id : String} {r : List V → Hp → VK → Prop} {Ps : List Mn} {p : Pos} (hc : CallR X (.type id) r) (hg : Gl X x) (hm : X.mg x = none) (hv : bootBuiltins x = some (.type id)) (ha : GoA X Γ (e :: es) Ps)
    (hr : ∀ vs B H, Ex B H → MnAll X.K B vs Ps → ∀ Q : VK, (∀ p us, H p = none → DpAll X.K B us ds → Q (.ref p) (upd H p (.lst us))) → r vs H Q) (hn : x ≠ "__name__" := by decide) (hdb : (x == ("__debug__" : Str)) = false := by decide)
    (he : starEach (e :: es) X.env = (false, eval e X.env) :: starEach es X.env := by rfl) (hpl : (backTo pos (starEach es X.env)).any (·.1) = false := by rfl) : GoN X Γ (.Call (.Name x p) (e :: es) [] pos) ds := .mk fun σ B H Fs E Q q =>
  toE (pe_callTy hc hg hm hv sA hn hdb he hpl) (ha σ B H Fs E _ fun vs B1 H1 n1 r1 => hr vs B1 H1 n1.bh r1 Q fun p us hp hd =>
    q p us B1 _ (n1.trans (.lay n1.bh hp)) (n1.hh.none hp) (n1.bh.none hp) upd_same hd)
theorem goN_callB {x : Str} {id : String} {r : List V → Hp → VK → Prop} {Ps : List Mn} {p : Pos} (hc : CallR X (.builtin id) r) (hg : Gl X x) (hm : X.mg x = none) (hv : bootBuiltins x = some (.builtin id)) (ha : GoA X Γ (e :: es) Ps)
    (hr : ∀ vs B H, Ex B H → MnAll X.K B vs Ps → ∀ Q : VK, (∀ p us, H p = none → DpAll X.K B us ds → Q (.ref p) (upd H p (.lst us))) → r vs H Q) (hn : x ≠ "__name__" := by decide) (hdb : (x == ("__debug__" : Str)) = false := by decide)
    (he : starEach (e :: es) X.env = (false, eval e X.env) :: starEach es X.env := by rfl) (hpl : (backTo pos (starEach es X.env)).any (·.1) = false := by rfl) : GoN X Γ (.Call (.Name x p) (e :: es) [] pos) ds := .mk fun σ B H Fs E Q q =>
  toE (pe_callB hc hg hm hv sA hn hdb he hpl) (ha σ B H Fs E _ fun vs B1 H1 n1 r1 => hr vs B1 H1 n1.bh r1 Q fun p us hp hd =>
    q p us B1 _ (n1.trans (.lay n1.bh hp)) (n1.hh.none hp) (n1.bh.none hp) upd_same hd)
theorem mn1 {K : PySem.W.Frag} {B : Hp} {vs : List V} {P : Mn} (h : MnAll K B vs [P]) : ∃ v, vs = [v] ∧ P.p K B v := by
  cases h with
  | cons h t =>
    cases t
    exact ⟨_, rfl, h⟩
theorem mn2 {K : PySem.W.Frag} {B : Hp} {vs : List V} {P P' : Mn} (h : MnAll K B vs [P, P']) : ∃ v w, vs = [v, w] ∧ P.p K B v ∧ P'.p K B w := by
  cases h with
  | cons h t =>
    obtain ⟨w, rfl, h2⟩ := mn1 t
    exact ⟨_, w, rfl, h, h2⟩
theorem mn3 {K : PySem.W.Frag} {B : Hp} {vs : List V} {P P' P'' : Mn} (h : MnAll K B vs [P, P', P'']) : ∃ v w u, vs = [v, w, u] ∧ P.p K B v ∧ P'.p K B w ∧ P''.p K B u := by
  cases h with
  | cons h t =>
    obtain ⟨w, u, rfl, h2, h3⟩ := mn2 t
    exact ⟨_, w, u, rfl, h, h2, h3⟩
variable {p : Pos}
theorem go_len (ha : Go X Γ e (.list ds)) (hm : X.mg "len" = none) (hg : Gl X "len" := by rfl) (he : starEach [e] X.env = (false, eval e X.env) :: starEach [] X.env := by rfl) : Go X Γ (.Call (.Name "len" p) [e] [] pos) (.int ds.length) :=
  go_callB call_len_seq hg hm PySem.boot_len (goA_cons ha goA_nil he) (fun vs B H hB r Q q => by
    obtain ⟨v, rfl, h⟩ := mn1 r
    obtain ⟨p, us, rfl, h2, h3⟩ := dp_lst h
    refine ⟨p, us, rfl, .inl (hB.sl h2), ?_⟩
    rw [dps_len h3]
    exact q _ B H (.same hB) (Dp.int _)) (by decide) (by decide) he rfl
theorem go_lenT (ha : Go X Γ e (.tuple ds)) (hm : X.mg "len" = none) (hg : Gl X "len" := by rfl) (he : starEach [e] X.env = (false, eval e X.env) :: starEach [] X.env := by rfl) : Go X Γ (.Call (.Name "len" p) [e] [] pos) (.int ds.length) :=
  go_callB call_len_seq hg hm PySem.boot_len (goA_cons ha goA_nil he) (fun vs B H hB r Q q => by
    obtain ⟨v, rfl, h⟩ := mn1 r
    obtain ⟨p, us, rfl, h2, h3⟩ := dp_tup h
    refine ⟨p, us, rfl, .inr (hB.st h2), ?_⟩
    rw [dps_len h3]
    exact q _ B H (.same hB) (Dp.int _)) (by decide) (by decide) he rfl
theorem go_lenS {z : Str} (ha : Go X Γ e (.str z)) (hl : z.length ≤ sizeLine) (hm : X.mg "len" = none) (hg : Gl X "len" := by rfl) (he : starEach [e] X.env = (false, eval e X.env) :: starEach [] X.env := by rfl) : Go X Γ (.Call (.Name "len" p) [e] [] pos) (.int z.length) :=
  go_callB call_len_str hg hm PySem.boot_len (goA_cons ha goA_nil he) (fun vs B H hB r Q q => by
    obtain ⟨v, rfl, h⟩ := mn1 r
    have e1 := dp_str h
    subst e1
    exact ⟨z, rfl, hl, q _ B H (.same hB) (Dp.int _)⟩) (by decide) (by decide) he rfl
theorem boot_abs : bootBuiltins "abs" = some (.builtin "abs") := by decide +kernel
theorem go_abs {i : Int} (ha : Go X Γ e (.int i)) (hm : X.mg "abs" = none) (hg : Gl X "abs" := by rfl) (he : starEach [e] X.env = (false, eval e X.env) :: starEach [] X.env := by rfl) : Go X Γ (.Call (.Name "abs" p) [e] [] pos) (.int (if i < 0 then -i else i)) :=
  go_callB call_abs hg hm boot_abs (goA_cons ha goA_nil he) (fun vs B H hB r Q q => by
    obtain ⟨v, rfl, h⟩ := mn1 r
    have e1 := dp_int h
    subst e1
    exact ⟨i, rfl, q _ B H (.same hB) (Dp.int _)⟩) (by decide) (by decide) he rfl
theorem go_intI {i : Int} (ha : Go X Γ e (.int i)) (hm : X.mg "int" = none) (hg : Gl X "int" := by rfl) (he : starEach [e] X.env = (false, eval e X.env) :: starEach [] X.env := by rfl) : Go X Γ (.Call (.Name "int" p) [e] [] pos) (.int i) :=
  go_callTy call_int1 hg hm PyProof.Rows.boot_int (goA_cons ha goA_nil he) (fun vs B H hB r Q q => by
    obtain ⟨v, rfl, h⟩ := mn1 r
    have e1 := dp_int h
    subst e1
    exact .inl ⟨i, rfl, q _ B H (.same hB) (Dp.int _)⟩) (by decide) (by decide) he rfl
theorem go_intB (ha : Go X Γ e (.bool k)) (hm : X.mg "int" = none) (hg : Gl X "int" := by rfl) (he : starEach [e] X.env = (false, eval e X.env) :: starEach [] X.env := by rfl) : Go X Γ (.Call (.Name "int" p) [e] [] pos) (.int (if k then 1 else 0)) :=
  go_callTy call_int1 hg hm PyProof.Rows.boot_int (goA_cons ha goA_nil he) (fun vs B H hB r Q q => by
    obtain ⟨v, rfl, h⟩ := mn1 r
    have e1 := dp_bl h
    subst e1
    exact .inr ⟨k, rfl, q _ B H (.same hB) (Dp.int _)⟩) (by decide) (by decide) he rfl
theorem go_max2 {i j : Int} (hc : X.calm = true) (ha : Go X Γ a (.int i)) (hb : Go X Γ b (.int j)) (hm : X.mg "max" = none) (hg : Gl X "max" := by rfl) (he : starEach [a, b] X.env = (false, eval a X.env) :: starEach [b] X.env := by rfl) (he2 : starEach [b] X.env = (false, eval b X.env) :: starEach [] X.env := by rfl) :
    Go X Γ (.Call (.Name "max" p) [a, b] [] pos) (.int (if j > i then j else i)) :=
  go_callB (call_max2 hc) hg hm PyProof.Rows.boot_max (goA_cons ha (goA_cons hb goA_nil he2) he) (fun vs B H hB r Q q => by
    obtain ⟨v, w, rfl, h, h2⟩ := mn2 r
    have e1 := dp_int h
    have e2 := dp_int h2
    subst e1 e2
    exact ⟨i, j, rfl, q _ B H (.same hB) (Dp.int _)⟩) (by decide) (by decide) he (by rw [he2]; rfl)
theorem go_sum {ns : List Int} (hc : X.calm = true) (ha : Go X Γ e (.list (ns.map .int))) (hm : X.mg "sum" = none) (hg : Gl X "sum" := by rfl) (he : starEach [e] X.env = (false, eval e X.env) :: starEach [] X.env := by rfl) : Go X Γ (.Call (.Name "sum" p) [e] [] pos) (.int ns.sum) :=
  go_callB (cr_sum hc) hg hm PyProof.Rows.boot_sum (goA_cons ha goA_nil he) (fun vs B H hB r Q q => by
    obtain ⟨v, rfl, h⟩ := mn1 r
    obtain ⟨p, us, rfl, h2, h3⟩ := dp_lst h
    rw [dps_ints_inv h3] at h2
    exact ⟨p, ns, rfl, hB.sl h2, q _ B H (.same hB) (Dp.int _)⟩) (by decide) (by decide) he rfl
theorem dps_bools_inv {K : PySem.W.Frag} {H : Hp} : ∀ {ns : List Bool} {vs : List V}, DpAll K H vs (ns.map PyData.bool) → vs = ns.map V.bl
  | [], _, .nil => rfl
  | n :: r, _, .cons (.bl _) t => by
    rw [dps_bools_inv t, List.map_cons]
theorem boot_all : bootBuiltins "all" = some (.builtin "all") := by decide +kernel
theorem boot_any : bootBuiltins "any" = some (.builtin "any") := by decide +kernel
theorem go_all {ns : List Bool} (hc : X.calm = true) (ha : Go X Γ e (.list (ns.map .bool))) (hm : X.mg "all" = none) (hg : Gl X "all" := by rfl) (he : starEach [e] X.env = (false, eval e X.env) :: starEach [] X.env := by rfl) : Go X Γ (.Call (.Name "all" p) [e] [] pos) (.bool (ns.all id)) :=
  go_callB (cr_all hc) hg hm boot_all (goA_cons ha goA_nil he) (fun vs B H hB r Q q => by
    obtain ⟨v, rfl, h⟩ := mn1 r
    obtain ⟨p, us, rfl, h2, h3⟩ := dp_lst h
    rw [dps_bools_inv h3] at h2
    exact ⟨p, ns, rfl, hB.sl h2, q _ B H (.same hB) (Dp.bl _)⟩) (by decide) (by decide) he rfl
theorem go_any {ns : List Bool} (hc : X.calm = true) (ha : Go X Γ e (.list (ns.map .bool))) (hm : X.mg "any" = none) (hg : Gl X "any" := by rfl) (he : starEach [e] X.env = (false, eval e X.env) :: starEach [] X.env := by rfl) : Go X Γ (.Call (.Name "any" p) [e] [] pos) (.bool (ns.any id)) :=
  go_callB (cr_any hc) hg hm boot_any (goA_cons ha goA_nil he) (fun vs B H hB r Q q => by
    obtain ⟨v, rfl, h⟩ := mn1 r
    obtain ⟨p, us, rfl, h2, h3⟩ := dp_lst h
    rw [dps_bools_inv h3] at h2
    exact ⟨p, ns, rfl, hB.sl h2, q _ B H (.same hB) (Dp.bl _)⟩) (by decide) (by decide) he rfl
theorem goN_list (ha : Go X Γ e (.list ds)) (hm : X.mg "list" = none) (hg : Gl X "list" := by rfl) (he : starEach [e] X.env = (false, eval e X.env) :: starEach [] X.env := by rfl) : GoN X Γ (.Call (.Name "list" p) [e] [] pos) ds :=
  goN_callTy call_list_of hg hm PyProof.Rows.boot_list (goA_cons ha goA_nil he) (fun vs B H hB r Q q => by
    obtain ⟨v, rfl, h⟩ := mn1 r
    obtain ⟨p, us, rfl, h2, h3⟩ := dp_lst h
    exact ⟨p, us, rfl, .inl (hB.sl h2), fun l hl => q l us hl h3⟩) (by decide) (by decide) he rfl
theorem goN_listT (ha : Go X Γ e (.tuple ds)) (hm : X.mg "list" = none) (hg : Gl X "list" := by rfl) (he : starEach [e] X.env = (false, eval e X.env) :: starEach [] X.env := by rfl) : GoN X Γ (.Call (.Name "list" p) [e] [] pos) ds :=
  goN_callTy call_list_of hg hm PyProof.Rows.boot_list (goA_cons ha goA_nil he) (fun vs B H hB r Q q => by
    obtain ⟨v, rfl, h⟩ := mn1 r
    obtain ⟨p, us, rfl, h2, h3⟩ := dp_tup h
    exact ⟨p, us, rfl, .inr (hB.st h2), fun l hl => q l us hl h3⟩) (by decide) (by decide) he rfl
theorem go_tupleL (ha : Go X Γ e (.list ds)) (hm : X.mg "tuple" = none) (hg : Gl X "tuple" := by rfl) (he : starEach [e] X.env = (false, eval e X.env) :: starEach [] X.env := by rfl) : Go X Γ (.Call (.Name "tuple" p) [e] [] pos) (.tuple ds) :=
  go_callTy call_tuple_of hg hm PyProof.Rows.boot_tuple (goA_cons ha goA_nil he) (fun vs B H hB r Q q => by
    obtain ⟨v, rfl, h⟩ := mn1 r
    obtain ⟨p, us, rfl, h2, h3⟩ := dp_lst h
    refine ⟨p, us, rfl, .inl ⟨hB.sl h2, fun l hl => ?_⟩⟩
    have n := Nw.new (o := .tup us) hB hl
    exact q _ _ _ n (Dp.tup (.of upd_same) (dpsUp n.bb h3))) (by decide) (by decide) he rfl
end
end PL

set_option maxHeartbeats 2000000
namespace PL
open PySem PySem.Spec PyProof.Rows L2

/-! ### slots changed -/
section
variable {K : PySem.W.Frag} {B H B2 H2 : Hp} {σ : L2.St} {Γ : Ga} {Fs : Nat → List Addr}
/-- the places of the slot i are let go -/
def off (Fs : Nat → List Addr) (i : Nat) (F : List Addr) : Nat → List Addr := fun j => if j = i then F else Fs j
theorem off_same {i : Nat} {F : List Addr} : off Fs i F i = F := if_pos rfl
theorem off_ne {i j : Nat} {F : List Addr} (h : j ≠ i) : off Fs i F j = Fs j := if_neg h
theorem off_sub {i j : Nat} {a : Addr} (h : a ∈ off Fs i [] j) : a ∈ Fs j := by
  by_cases e : j = i
  · subst e
    rw [off_same] at h
    cases h
  · rw [off_ne e] at h
    exact h
theorem En.setP {P : Mn} {v : V} (E : En K B H σ Γ Fs) (i : Nat) (h : P.p K B v) : En K B H (σ.set i (some v)) (Γ.set i (.pr P)) (off Fs i []) where
  bh := E.bh
  len := by rw [List.length_set, List.length_set, E.len]
  at_ := fun j s hs => by
    by_cases e : j = i
    · subst e
      have hl : j < Γ.length := by
        by_cases hl : j < Γ.length
        · exact hl
        · rw [List.getElem?_eq_none (by rw [List.length_set]; omega)] at hs
          cases hs
      rw [List.getElem?_set_self hl] at hs
      cases hs
      exact ⟨v, List.getElem?_set_self (by rw [E.len]; exact hl), h⟩
    · rw [List.getElem?_set_ne (Ne.symm e)] at hs
      rw [List.getElem?_set_ne (Ne.symm e), off_ne e]
      exact E.at_ j s hs
  fre := fun j a ha => E.fre j a (off_sub ha)
  dis := fun j k a h1 h2 => E.dis j k a (off_sub h1) (off_sub h2)
theorem En.setO {P : Ow} {v : V} {F : List Addr} (E : En K B H σ Γ Fs) (i : Nat) (h : P.p K B H v F) (hb : ∀ a ∈ F, B a = none) (hd : ∀ j a, a ∈ Fs j → a ∉ F) : En K B H (σ.set i (some v)) (Γ.set i (.ob P)) (off Fs i F) where
  bh := E.bh
  len := by rw [List.length_set, List.length_set, E.len]
  at_ := fun j s hs => by
    by_cases e : j = i
    · subst e
      have hl : j < Γ.length := by
        by_cases hl : j < Γ.length
        · exact hl
        · rw [List.getElem?_eq_none (by rw [List.length_set]; omega)] at hs
          cases hs
      rw [List.getElem?_set_self hl] at hs
      cases hs
      rw [off_same]
      exact ⟨v, List.getElem?_set_self (by rw [E.len]; exact hl), h⟩
    · rw [List.getElem?_set_ne (Ne.symm e)] at hs
      rw [List.getElem?_set_ne (Ne.symm e), off_ne e]
      exact E.at_ j s hs
  fre := fun j a ha => by
    by_cases e : j = i
    · subst e
      rw [off_same] at ha
      exact ⟨hb a ha, P.dom h a ha⟩
    · rw [off_ne e] at ha
      exact E.fre j a ha
  dis := fun j k a h1 h2 => by
    by_cases e : j = i
    · by_cases e2 : k = i
      · rw [e, e2]
      · rw [e, off_same] at h1
        rw [off_ne e2] at h2
        exact absurd h1 (hd k a h2)
    · rw [off_ne e] at h1
      by_cases e2 : k = i
      · rw [e2, off_same] at h2
        exact absurd h2 (hd j a h1)
      · rw [off_ne e2] at h2
        exact E.dis j k a h1 h2
/-- an object that no slot has is laid or changed -/
theorem En.upd {p : Addr} {o : HO} (E : En K B H σ Γ Fs) (hb : B p = none) (hf : ∀ j, p ∉ Fs j) : En K B (upd H p o) σ Γ Fs where
  bh := fun a u e => by
    rw [upd_ne (ne_of_none e hb)]
    exact E.bh a u e
  len := E.len
  at_ := fun j s hs => by
    have := E.at_ j s hs
    cases s with
    | any => trivial
    | pr P => exact this
    | ob P =>
      obtain ⟨v, h1, h2⟩ := this
      exact ⟨v, h1, P.loc (fun a ha => upd_ne fun z => hf j (z ▸ ha)) h2⟩
  fre := fun j a ha => ⟨(E.fre j a ha).1, fun z => by
    have ne : a ≠ p := fun z => hf j (z ▸ ha)
    rw [upd_ne ne] at z
    exact (E.fre j a ha).2 z⟩
  dis := E.dis
/-- the list in the slot i is changed -/
theorem En.mutL {i : Nat} {a : Addr} {vs us : List V} {ds es : List D} (E : En K B H σ Γ Fs) (hΓ : Γ[i]? = some (.own ds)) (hσ : σ[i]? = some (some (.ref a))) (hH : H a = some (.lst vs)) (hF : Fs i = [a]) (hd : DpAll K B us es) :
    En K B (L2.upd H a (.lst us)) σ (Γ.set i (.own es)) Fs := by
  have hb : B a = none := (E.fre i a (by rw [hF]; exact List.mem_cons_self)).1
  have nf : ∀ j, j ≠ i → a ∉ Fs j := fun j hj ha => hj (E.dis j i a ha (by rw [hF]; exact List.mem_cons_self))
  refine ⟨fun b u e => ?_, ?_, fun j s hs => ?_, fun j b hb' => ⟨(E.fre j b hb').1, fun z => ?_⟩, E.dis⟩
  · rw [upd_ne (ne_of_none e hb)]
    exact E.bh b u e
  · rw [List.length_set, E.len]
  · by_cases e : j = i
    · subst e
      have hl : j < Γ.length := by
        by_cases hl : j < Γ.length
        · exact hl
        · rw [List.getElem?_eq_none (by omega)] at hΓ
          cases hΓ
      rw [List.getElem?_set_self hl] at hs
      cases hs
      exact ⟨.ref a, hσ, a, us, rfl, hF, upd_same, hd⟩
    · rw [List.getElem?_set_ne (Ne.symm e)] at hs
      have := E.at_ j s hs
      cases s with
      | any => trivial
      | pr P => exact this
      | ob P =>
        obtain ⟨v, h1, h2⟩ := this
        exact ⟨v, h1, P.loc (fun b hb' => upd_ne fun z => nf j e (z ▸ hb')) h2⟩
  · by_cases e : b = a
    · rw [e, upd_same] at z
      cases z
    · rw [upd_ne e] at z
      exact (E.fre j b hb').2 z
/-- .. is frozen -/
theorem En.ice {i : Nat} {a : Addr} {vs : List V} {ds : List D} (E : En K B H σ Γ Fs) (hΓ : Γ[i]? = some (.own ds)) (hσ : σ[i]? = some (some (.ref a))) (hH : H a = some (.lst vs)) (hF : Fs i = [a]) (hd : DpAll K B vs ds) :
    En K (L2.upd B a (.lst vs)) H σ (Γ.set i (.dat (.list ds))) (off Fs i []) ∧ Ex B (L2.upd B a (.lst vs)) := by
  have hb : B a = none := (E.fre i a (by rw [hF]; exact List.mem_cons_self)).1
  obtain ⟨e1, e2⟩ := Nw.ice E.bh hb hH
  have nf : ∀ j, j ≠ i → a ∉ Fs j := fun j hj ha => hj (E.dis j i a ha (by rw [hF]; exact List.mem_cons_self))
  refine ⟨⟨e2, by rw [List.length_set, E.len], fun j s hs => ?_, fun j b hb' => ?_, fun j k b h1 h2 => E.dis j k b (off_sub h1) (off_sub h2)⟩, e1⟩
  · by_cases e : j = i
    · subst e
      have hl : j < Γ.length := by
        by_cases hl : j < Γ.length
        · exact hl
        · rw [List.getElem?_eq_none (by omega)] at hΓ
          cases hΓ
      rw [List.getElem?_set_self hl] at hs
      cases hs
      exact ⟨.ref a, hσ, show Dp _ _ _ _ from .lst (.of upd_same) (dpsUp e1 hd)⟩
    · rw [List.getElem?_set_ne (Ne.symm e)] at hs
      rw [off_ne e]
      have := E.at_ j s hs
      cases s with
      | any => trivial
      | pr P =>
        obtain ⟨v, h1, h2⟩ := this
        exact ⟨v, h1, P.up e1 h2⟩
      | ob P =>
        obtain ⟨v, h1, h2⟩ := this
        exact ⟨v, h1, P.upB e1 h2⟩
  · have hj : j ≠ i := fun e => by
      rw [e, off_same] at hb'
      cases hb'
    rw [off_ne hj] at hb'
    refine ⟨?_, (E.fre j b hb').2⟩
    have ne : b ≠ a := fun z => nf j hj (z ▸ hb')
    rw [upd_ne ne]
    exact (E.fre j b hb').1
theorem En.own {i : Nat} {ds : List D} (E : En K B H σ Γ Fs) (hΓ : Γ[i]? = some (.own ds)) : ∃ a vs, σ[i]? = some (some (.ref a)) ∧ H a = some (.lst vs) ∧ Fs i = [a] ∧ DpAll K B vs ds ∧ B a = none := by
  obtain ⟨v, h1, a, vs, rfl, h3, h4, h5⟩ := E.at_ i _ hΓ
  exact ⟨a, vs, h1, h4, h3, h5, (E.fre i a (by rw [h3]; exact List.mem_cons_self)).1⟩
def wipeG (Γ : Ga) : List Nat → Ga
  | [] => Γ
  | v :: vs => (wipeG Γ vs).set v .any
theorem En.setN (E : En K B H σ Γ Fs) (i : Nat) (o : Option V) : En K B H (σ.set i o) (Γ.set i .any) Fs where
  bh := E.bh
  len := by rw [List.length_set, List.length_set, E.len]
  at_ := fun j s hs => by
    by_cases e : j = i
    · subst e
      by_cases hl : j < Γ.length
      · rw [List.getElem?_set_self hl] at hs
        cases hs
        trivial
      · rw [List.getElem?_eq_none (by rw [List.length_set]; omega)] at hs
        cases hs
    · rw [List.getElem?_set_ne (Ne.symm e)] at hs
      rw [List.getElem?_set_ne (Ne.symm e)]
      exact E.at_ j s hs
  fre := E.fre
  dis := E.dis
theorem En.wipe (E : En K B H σ Γ Fs) : ∀ vs : List Nat, En K B H (wipe σ vs) (wipeG Γ vs) Fs
  | [] => E
  | v :: vs => (En.wipe E vs).setN v none
/-- less is known -/
inductive Wk : Ga → Ga → Prop
  | nil : Wk [] []
  | same {s : Sl} {a b : Ga} : Wk a b → Wk (s :: a) (s :: b)
  | any {s : Sl} {a b : Ga} : Wk a b → Wk (s :: a) (.any :: b)
theorem Wk.refl : ∀ a : Ga, Wk a a
  | [] => .nil
  | _ :: r => .same (Wk.refl r)
theorem Wk.len : ∀ {a b : Ga}, Wk a b → a.length = b.length
  | _, _, .nil => rfl
  | _, _, .same h => by rw [List.length_cons, List.length_cons, h.len]
  | _, _, .any h => by rw [List.length_cons, List.length_cons, h.len]
theorem Wk.get : ∀ {a b : Ga} {i : Nat} {s : Sl}, Wk a b → b[i]? = some s → s = .any ∨ a[i]? = some s
  | _, _, _, _, .nil, h => by simp at h
  | _, _, 0, _, .same _, h => .inr (by simpa using h)
  | _, _, 0, _, .any _, h => by
    simp only [List.getElem?_cons_zero, Option.some.injEq] at h
    exact .inl h.symm
  | _, _, i + 1, s, .same t, h => by
    have := Wk.get (i := i) (s := s) t (by simpa using h)
    simpa using this
  | _, _, i + 1, s, .any t, h => by
    have := Wk.get (i := i) (s := s) t (by simpa using h)
    simpa using this
theorem En.wk {Γ' : Ga} (E : En K B H σ Γ Fs) (w : Wk Γ Γ') : En K B H σ Γ' Fs where
  bh := E.bh
  len := by rw [E.len, w.len]
  at_ := fun j s hs => by
    rcases w.get hs with e | e
    · subst e
      trivial
    · exact E.at_ j s e
  fre := E.fre
  dis := E.dis
end

/-! ### the def's own story: what stood at its entry -/
structure Jd where
  H : Hp
  M : List Addr
  S : List Nat
structure Jn (J : Jd) (B0 B H : Hp) (Fs : Nat → List Addr) : Prop where
  b0 : Ex B0 B
  nb : ∀ a, B a ≠ none → B0 a = none → J.H a = none
  h0 : ∀ a o, J.H a = some o → a ∉ J.M → H a = some o
  h1 : ∀ a, J.H a ≠ none → H a ≠ none
  fm : ∀ i a, a ∈ Fs i → J.H a = none ∨ (a ∈ J.M ∧ i ∈ J.S)
section
variable {J : Jd} {B0 B H B2 H2 : Hp} {Fs Fs2 : Nat → List Addr}
theorem Jn.nw (j : Jn J B0 B H Fs) (n : Nw B H B2 H2) : Jn J B0 B2 H2 Fs where
  b0 := j.b0.trans n.bb
  nb := fun a h1 h2 => by
    cases q : B a with
    | some o => exact j.nb a (by rw [q]; exact fun z => nomatch z) h2
    | none =>
      cases r : J.H a with
      | none => rfl
      | some o => exact absurd (n.nu a q (j.h1 a (by rw [r]; exact fun z => nomatch z))) h1
  h0 := fun a o h1 h2 => n.hh a o (j.h0 a o h1 h2)
  h1 := fun a h => fun z => j.h1 a h (n.hh.none z)
  fm := j.fm
theorem Jn.trans {B' H' : Hp} {Fs' : Nat → List Addr} (j : Jn J B0 B H Fs) (j2 : Jn J B B' H' Fs') : Jn J B0 B' H' Fs' := ⟨j.b0.trans j2.b0, fun a h1 h2 => by
  cases q : B a with
  | none => exact j2.nb a h1 q
  | some o => exact j.nb a (by rw [q]; exact fun z => nomatch z) h2, j2.h0, j2.h1, j2.fm⟩
theorem Jn.fresh (j : Jn J B0 B H Fs) : Jn J B B H Fs := ⟨.refl _, fun a h1 h2 => absurd h2 h1, j.h0, j.h1, j.fm⟩
theorem Jn.sub (j : Jn J B0 B H Fs) (h : ∀ i a, a ∈ Fs2 i → a ∈ Fs i) : Jn J B0 B H Fs2 := ⟨j.b0, j.nb, j.h0, j.h1, fun i a ha => j.fm i a (h i a ha)⟩
/-- a new place -/
theorem Jn.lay {i : Nat} {F : List Addr} (j : Jn J B0 B H Fs) (h : ∀ a ∈ F, J.H a = none) : Jn J B0 B H (off Fs i F) := ⟨j.b0, j.nb, j.h0, j.h1, fun k a ha => by
  by_cases e : k = i
  · subst e
    rw [off_same] at ha
    exact .inl (h a ha)
  · rw [off_ne e] at ha
    exact j.fm k a ha⟩
theorem Jn.upd {p : Addr} {o : HO} (j : Jn J B0 B H Fs) (h : J.H p = none ∨ p ∈ J.M) : Jn J B0 B (L2.upd H p o) Fs := ⟨j.b0, j.nb, fun a u h1 h2 => by
  have : a ≠ p := fun z => by
    rcases h with h | h
    · rw [z, h] at h1
      cases h1
    · exact h2 (z ▸ h)
  rw [upd_ne this]
  exact j.h0 a u h1 h2, fun a h1 z => by
  by_cases e : a = p
  · rw [e, upd_same] at z
    cases z
  · rw [upd_ne e] at z
    exact j.h1 a h1 z, j.fm⟩
theorem Jn.ice {i : Nat} {a : Addr} {o : HO} (j : Jn J B0 B H Fs) (hb : B a = none) (h : J.H a = none) : Jn J B0 (L2.upd B a o) H Fs where
  b0 := j.b0.trans (Ex.new hb)
  nb := fun b h1 h2 => by
    by_cases q : b = a
    · rw [q]
      exact h
    · rw [upd_ne q] at h1
      exact j.nb b h1 h2
  h0 := j.h0
  h1 := j.h1
  fm := j.fm
end
/-- what a block is to reach -/
structure Nd where
  nx : Ga → Prop
  rt : Mn
  bk : Ga → Prop := fun _ => False
  ct : Ga → Prop := fun _ => False
  rG : Ga → Prop := fun _ => True
  rn : Option Ow := none
/-- what is handed back: a thing that is not changed any more, or a new one of the caller's own -/
def Rt (K : PySem.W.Frag) (J : Jd) (B H : Hp) (v : V) (P : Mn) (Fs : Nat → List Addr) : Option Ow → Prop
  | none => P.p K B v
  | some W => ∃ F, W.p K B H v F ∧ (∀ a ∈ F, J.H a = none ∧ B a = none) ∧ ∀ i ∈ J.S, ∀ a ∈ F, a ∉ Fs i
def At (X : Cx) (J : Jd) (B0 : Hp) (N : Ga → Prop) : L2.St → Hp → Prop := fun σ' H' => ∃ B' Γ' Fs', En X.K B' H' σ' Γ' Fs' ∧ Jn J B0 B' H' Fs' ∧ N Γ'
def Nd.ends (X : Cx) (J : Jd) (B0 : Hp) (N : Nd) : Ends where
  nx := At X J B0 N.nx
  bk := At X J B0 N.bk
  ct := At X J B0 N.ct
  rt := fun v H' => ∃ σ' B' Γ' Fs', En X.K B' H' σ' Γ' Fs' ∧ Jn J B0 B' H' Fs' ∧ N.rG Γ' ∧ Rt X.K J B' H' v N.rt Fs' N.rn
/-- a block (a statement) runs from the slots Γ to what is wanted -/
structure Rn (X : Cx) (J : Jd) (N : Nd) (Γ : Ga) (sts : List Stmt) : Prop where
  run : ∀ B0 σ B H Fs, En X.K B H σ Γ Fs → Jn J B0 B H Fs → wpSs X sts (N.ends X J B0) σ H
instance {X : Cx} {J : Jd} {N : Nd} {Γ : Ga} {sts : List Stmt} : CoeFun (Rn X J N Γ sts) fun _ => ∀ B0 σ B H Fs, En X.K B H σ Γ Fs → Jn J B0 B H Fs → wpSs X sts (N.ends X J B0) σ H := ⟨Rn.run⟩
structure RnS (X : Cx) (J : Jd) (N : Nd) (Γ : Ga) (st : Stmt) : Prop where
  run : ∀ B0 σ B H Fs, En X.K B H σ Γ Fs → Jn J B0 B H Fs → wpS X st (N.ends X J B0) σ H
instance {X : Cx} {J : Jd} {N : Nd} {Γ : Ga} {st : Stmt} : CoeFun (RnS X J N Γ st) fun _ => ∀ B0 σ B H Fs, En X.K B H σ Γ Fs → Jn J B0 B H Fs → wpS X st (N.ends X J B0) σ H := ⟨RnS.run⟩
abbrev Nd.thn (N : Nd) (X : Cx) (J : Jd) (rest : List Stmt) : Nd := { N with nx := fun Γ' => Rn X J N Γ' rest }
section
variable {X : Cx} {J : Jd} {N : Nd} {Γ : Ga} {e a b c : Expr} {st : Stmt} {sts rest body : List Stmt} {P : Mn} {d : D} {ds : List D} {pos : Pos} {k : Bool}
theorem wpS_mono {D1 D2 : Ends} {σ : L2.St} {H : Hp} (h : wpS X st D1 σ H) (h1 : ∀ σ H, D1.nx σ H → D2.nx σ H) (h2 : ∀ v H, D1.rt v H → D2.rt v H) (h3 : ∀ σ H, D1.bk σ H → D2.bk σ H) (h4 : ∀ σ H, D1.ct σ H → D2.ct σ H) : wpS X st D2 σ H := fun pins s I =>
  thn (h pins s I) fun f s1 q => by
    cases f with
    | next =>
      obtain ⟨σ', H', I', q⟩ := q
      exact ⟨σ', H', I', h1 _ _ q⟩
    | ret v =>
      obtain ⟨v, σ', H', I', r, q⟩ := q
      exact ⟨v, σ', H', I', r, h2 _ _ q⟩
    | brk =>
      obtain ⟨σ', H', I', q⟩ := q
      exact ⟨σ', H', I', h3 _ _ q⟩
    | cont =>
      obtain ⟨σ', H', I', q⟩ := q
      exact ⟨σ', H', I', h4 _ _ q⟩
theorem wpSs_mono {D1 D2 : Ends} {σ : L2.St} {H : Hp} (h : wpSs X sts D1 σ H) (h1 : ∀ σ H, D1.nx σ H → D2.nx σ H) (h2 : ∀ v H, D1.rt v H → D2.rt v H) (h3 : ∀ σ H, D1.bk σ H → D2.bk σ H) (h4 : ∀ σ H, D1.ct σ H → D2.ct σ H) : wpSs X sts D2 σ H := fun pins s I =>
  thn (h pins s I) fun f s1 q => by
    cases f with
    | next =>
      obtain ⟨σ', H', I', q⟩ := q
      exact ⟨σ', H', I', h1 _ _ q⟩
    | ret v =>
      obtain ⟨v, σ', H', I', r, q⟩ := q
      exact ⟨v, σ', H', I', r, h2 _ _ q⟩
    | brk =>
      obtain ⟨σ', H', I', q⟩ := q
      exact ⟨σ', H', I', h3 _ _ q⟩
    | cont =>
      obtain ⟨σ', H', I', q⟩ := q
      exact ⟨σ', H', I', h4 _ _ q⟩
theorem rn_cons (h : RnS X J (N.thn X J rest) Γ st) : Rn X J N Γ (st :: rest) := .mk fun B0 σ B H Fs E j =>
  toSs (pss_cons sS sSs) (wpS_mono (h B0 σ B H Fs E j) (fun σ' H' ⟨B', Γ', Fs', e1, e2, e3⟩ => e3 B0 σ' B' H' Fs' e1 e2) (fun _ _ z => z) (fun _ _ z => z) fun _ _ z => z)
theorem rn_nil (h : N.nx Γ) : Rn X J N Γ [] := .mk fun B0 σ B H Fs E j => toSs pss_nil ⟨B, Γ, Fs, E, j, h⟩
theorem rn_nilw {Γ' : Ga} (w : Wk Γ Γ') (h : N.nx Γ') : Rn X J N Γ [] := .mk fun B0 σ B H Fs E j => toSs pss_nil ⟨B, Γ', Fs, E.wk w, j, h⟩
theorem rn_wk {Γ' : Ga} (w : Wk Γ Γ') (h : Rn X J N Γ' sts) : Rn X J N Γ sts := .mk fun B0 σ B H Fs E j => h B0 σ B H Fs (E.wk w) j
theorem rs_wk {Γ' : Ga} (w : Wk Γ Γ') (h : RnS X J N Γ' st) : RnS X J N Γ st := .mk fun B0 σ B H Fs E j => h B0 σ B H Fs (E.wk w) j
/-- an own list is not changed any more -/
theorem rn_ice (i : Nat) (hΓ : Γ[i]? = some (.own ds)) (hi : i ∉ J.S) (h : Rn X J N (Γ.set i (.dat (.list ds))) sts) : Rn X J N Γ sts := .mk fun B0 σ B H Fs E j => by
  obtain ⟨a, vs, h1, h2, h3, h4, h5⟩ := E.own hΓ
  obtain ⟨E2, _⟩ := E.ice hΓ h1 h2 h3 h4
  have ja : J.H a = none := by
    rcases j.fm i a (by rw [h3]; exact List.mem_cons_self) with z | z
    · exact z
    · exact absurd z.2 hi
  exact h B0 σ _ H _ E2 ((j.ice (i := i) h5 ja).sub fun _ _ z => off_sub z)
theorem rs_pass : N.nx Γ → RnS X J N Γ (.Pass pos) := fun h => .mk fun B0 σ B H Fs E j => toS ps_pass ⟨B, Γ, Fs, E, j, h⟩
theorem rs_break : N.bk Γ → RnS X J N Γ (.Break pos) := fun h => .mk fun B0 σ B H Fs E j => toS ps_break ⟨B, Γ, Fs, E, j, h⟩
theorem rs_breakw {Γ' : Ga} (w : Wk Γ Γ') : N.bk Γ' → RnS X J N Γ (.Break pos) := fun h => .mk fun B0 σ B H Fs E j => toS ps_break ⟨B, Γ', Fs, E.wk w, j, h⟩
theorem rs_contw {Γ' : Ga} (w : Wk Γ Γ') : N.ct Γ' → RnS X J N Γ (.Continue pos) := fun h => .mk fun B0 σ B H Fs E j => toS ps_continue ⟨B, Γ', Fs, E.wk w, j, h⟩
theorem rs_doc {x : Str} {j pos'} : N.nx Γ → RnS X J N Γ (.Expr (.Constant (.str x) j pos) pos') := fun h => .mk fun B0 σ B H Fs E j => toS ps_doc ⟨B, Γ, Fs, E, j, h⟩
theorem rs_ret (h : GoP X Γ e N.rt) (hG : N.rG Γ := by exact trivial) (hn : N.rn = none := by rfl) : RnS X J N Γ (.Return (some e) pos) := .mk fun B0 σ B H Fs E j =>
  toS (ps_ret sE) (h σ B H Fs E _ fun v B2 H2 n r => ⟨σ, B2, Γ, Fs, E.nw n, j.nw n, hG, by rw [hn]; exact r⟩)
theorem rs_retN (h : ∀ K B, N.rt.p K B .non) (hG : N.rG Γ := by exact trivial) (hn : N.rn = none := by rfl) : RnS X J N Γ (.Return none pos) := .mk fun B0 σ B H Fs E j =>
  toS ps_retN ⟨σ, B, Γ, Fs, E, j, hG, by rw [hn]; exact h _ _⟩
theorem rs_set (i : Nat) {x : Str} {p' : Pos} (he : GoP X Γ e P) (h : N.nx (Γ.set i (.pr P))) (hN : X.N.Nodup) (hi : X.N[i]? = some x := by rfl) (hx : Loc X.env.scope x := by first | exact .inl rfl | exact .inr rfl)
    (hs : swapsWith e (some (.Name x p')) pos.line X.env = pure false := by rfl) (hf : X.fn x = true ∨ X.env.scope.names.lookup x = some .local := by first | exact .inl rfl | exact .inr rfl) : RnS X J N Γ (.Assign [.Name x p'] e pos) := .mk fun B0 σ B H Fs E j =>
  toS (ps_set hN hi hx sE hs hf) (he σ B H Fs E _ fun v B2 H2 n r => ⟨B2, _, _, (E.nw n).setP i r, (j.nw n).sub fun _ _ z => off_sub z, h⟩)
/-- a new list of our own -/
theorem rs_own (i : Nat) {x : Str} {p' : Pos} (he : GoN X Γ e ds) (h : N.nx (Γ.set i (.own ds))) (hN : X.N.Nodup) (hi : X.N[i]? = some x := by rfl) (hx : Loc X.env.scope x := by first | exact .inl rfl | exact .inr rfl)
    (hs : swapsWith e (some (.Name x p')) pos.line X.env = pure false := by rfl) (hf : X.fn x = true ∨ X.env.scope.names.lookup x = some .local := by first | exact .inl rfl | exact .inr rfl) : RnS X J N Γ (.Assign [.Name x p'] e pos) := .mk fun B0 σ B H Fs E j =>
  toS (ps_set hN hi hx sE hs hf) (he σ B H Fs E _ fun p vs B2 H2 n hp hb hH hd => ⟨B2, _, _, (E.nw n).setO (P := lstO ds) (F := [p]) i ⟨p, vs, rfl, rfl, hH, hd⟩ (fun a ha => by rw [List.mem_singleton.mp ha]; exact hb)
    (fun k a ha hm => (E.fre k a ha).2 (by rw [List.mem_singleton.mp hm]; exact hp)), (j.nw n).lay fun a ha => by
      rw [List.mem_singleton.mp ha]
      cases q : J.H p with
      | none => rfl
      | some o => exact absurd hp (j.h1 p (by rw [q]; exact fun z => nomatch z)), h⟩)
theorem rs_expr (he : GoP X Γ e P) (h : N.nx Γ) (hs : swapsWith e none pos.line X.env = pure false := by rfl) : RnS X J N Γ (.Expr e pos) := .mk fun B0 σ B H Fs E j =>
  toS (ps_expr sE hs) (he σ B H Fs E _ fun v B2 H2 n r => ⟨B2, Γ, Fs, E.nw n, j.nw n, h⟩)
theorem rs_if {th el : List Stmt} (hc : GoT X Γ c k) (h1 : k = true → Rn X J N Γ th) (h2 : k = false → Rn X J N Γ el) : RnS X J N Γ (.If c th el pos) := .mk fun B0 σ B H Fs E j =>
  toS (ps_if sT sSs sSs) (hc σ B H Fs E _ fun B2 H2 n => by
    cases k with
    | true => exact iteT (h1 rfl B0 σ B2 H2 Fs (E.nw n) (j.nw n))
    | false => exact iteF (h2 rfl B0 σ B2 H2 Fs (E.nw n) (j.nw n)))
/-- x += e, by an operator on ints -/
theorem rs_aug (i : Nat) {x : Str} {p' : Pos} {op : Operator} {ti : TIp} {d d' d2 : D} (hΓ : Γ[i]? = some (.dat d)) (he : Go X Γ e d') (ho : PIp X op ti)
    (hr : ∀ v w B H, Ex B H → Dp X.K B v d → Dp X.K B w d' → ∀ Q, EQ X B H (datP d2) Q → ti v w H Q) (h : N.nx (Γ.set i (.dat d2))) (hN : X.N.Nodup) (hi : X.N[i]? = some x := by rfl) (hx : Loc X.env.scope x := by first | exact .inl rfl | exact .inr rfl)
    (hf : X.fn x = true ∨ X.env.scope.names.lookup x = some .local := by first | exact .inl rfl | exact .inr rfl) : RnS X J N Γ (.AugAssign (.Name x p') op e pos) := .mk fun B0 σ B H Fs E j => by
  obtain ⟨v, h1, h2⟩ := E.at_ i _ hΓ
  refine toS (ps_aug hN hi hx sE ho hf) ⟨v, h1, he σ B H Fs E _ fun w B2 H2 n r => hr v w B2 H2 n.bh (dpUp n.bb h2) r _ fun z B3 H3 n3 r3 => ?_⟩
  have n' := n.trans n3
  exact ⟨B3, _, _, (E.nw n').setP i r3, (j.nw n').sub fun _ _ z => off_sub z, h⟩
/-- x.append(e) -/
theorem rs_app (i : Nat) {x : Str} {p' ap cp : Pos} (hΓ : Γ[i]? = some (.own ds)) (he : Go X Γ e d) (hl : ds.length < sizeLine) (h : N.nx (Γ.set i (.own (ds ++ [d])))) (hN : X.N[i]? = some x := by rfl) (hv : Vis X.env.scope x := by first | exact Or.inl rfl | exact Or.inr (Or.inl rfl) | exact Or.inr (Or.inr rfl))
    (hd : (x == ("__debug__" : Str)) = false := by decide) (hcd : (x == ("__classdict__" : Str)) = false := by decide)
    (hbase : attributeBase (.Name x p') "append" X.env (eval (.Name x p') X.env) = eval (.Name x p') X.env := by rfl)
    (hfew : ((backTo cp (starEach [e] X.env)).all (fun x => !x.1) && (backToKw cp (keywordEach [] X.env)).all (fun x => x.1.isSome)
      && decide ([e].length + ([] : List Keyword).length + (if ([] : List Keyword).isEmpty then 0 else 1) < 30)) = true := by rfl)
    (hline : (ap.endLine == cp.line) = true := by rfl) (hs : starEach [e] X.env = (false, eval e X.env) :: starEach [] X.env := by rfl) (hplain : (backTo cp (starEach [] X.env)).any (·.1) = false := by rfl)
    (hsw : swapsWith (.Call (.Attribute (.Name x p') "append" ap) [e] [] cp) none pos.line X.env = pure false := by rfl) : RnS X J N Γ (.Expr (.Call (.Attribute (.Name x p') "append" ap) [e] [] cp) pos) := .mk fun B0 σ B H Fs E j => by
  obtain ⟨a, vs, h1, h2, h3, h4, h5⟩ := E.own hΓ
  refine toS (ps_expr (pe_bm PySem.F.plainAttrs_list PySem.F.slot_list_append PySem.F.type_list_append mt_append (pe_var hN hv hd hcd) (pa_cons sE pa_nil hs) hbase hfew hline hs hplain) hsw) ⟨.ref a, h1, .inl ⟨rfl, vs, .of h2⟩, he σ B H Fs E _ fun v B2 H2 n r => ?_⟩
  have E2 := E.nw n
  have e2 : H2 a = some (.lst vs) := n.hh a _ h2
  refine ⟨a, vs, v, rfl, rfl, e2, by rw [dps_len h4]; exact hl, B2, _, _, E2.mutL hΓ h1 e2 h3 (dps_app (dpsUp n.bb h4) (.cons r .nil)), (j.nw n).upd ?_, h⟩
  rcases j.fm i a (by rw [h3]; exact List.mem_cons_self) with z | z
  · exact .inl z
  · exact .inr z.1
end
end PL

set_option maxHeartbeats 2000000
namespace PL
open PySem PySem.Spec PyProof.Rows L2

/-! ### targets -/
def wpG (X : Cx) (tg : Expr) : TG := fun v σ H Q => ∀ pins s u, Inv X pins σ H s → RelV v u → wpAny (model X.prog X.w) X.A (assign tg X.env u) (fun _ s' => ∃ σ' H', Inv X pins σ' H' s' ∧ Q σ' H') X.xe s
def wpGs (X : Cx) (ts : List Expr) : TGs := fun vs σ H Q => ∀ pins s us, Inv X pins σ H s → Vals vs us → wpAny (model X.prog X.w) X.A (assignInOrder ((assignEach ts X.env).map (·.2)) us) (fun _ s' => ∃ σ' H', Inv X pins σ' H' s' ∧ Q σ' H') X.xe s
/-- the target tg takes d: the slots are then Γ'; ts are its places -/
structure GoG (X : Cx) (Γ : Ga) (tg : Expr) (d : D) (Γ' : Ga) (ts : List Nat) : Prop where
  run : ∀ σ B H Fs v, En X.K B H σ Γ Fs → Dp X.K B v d → ∀ Q : L2.St → Hp → Prop,
  (∀ σ' Fs', En X.K B H σ' Γ' Fs' → (∀ i a, a ∈ Fs' i → a ∈ Fs i) → (∀ vs, (∀ t ∈ ts, t ∈ vs) → wipe σ' vs = wipe σ vs) → Q σ' H) → wpG X tg v σ H Q
instance {X : Cx} {Γ : Ga} {tg : Expr} {d : D} {Γ' : Ga} {ts : List Nat} : CoeFun (GoG X Γ tg d Γ' ts) fun _ => ∀ σ B H Fs v, En X.K B H σ Γ Fs → Dp X.K B v d → ∀ Q : L2.St → Hp → Prop,
    (∀ σ' Fs', En X.K B H σ' Γ' Fs' → (∀ i a, a ∈ Fs' i → a ∈ Fs i) → (∀ vs, (∀ t ∈ ts, t ∈ vs) → wipe σ' vs = wipe σ vs) → Q σ' H) → wpG X tg v σ H Q := ⟨GoG.run⟩
structure GoGs (X : Cx) (Γ : Ga) (tg : List Expr) (ds : List D) (Γ' : Ga) (ts : List Nat) : Prop where
  run : ∀ σ B H Fs vs, En X.K B H σ Γ Fs → DpAll X.K B vs ds → ∀ Q : L2.St → Hp → Prop,
  (∀ σ' Fs', En X.K B H σ' Γ' Fs' → (∀ i a, a ∈ Fs' i → a ∈ Fs i) → (∀ vs, (∀ t ∈ ts, t ∈ vs) → wipe σ' vs = wipe σ vs) → Q σ' H) → wpGs X tg vs σ H Q
instance {X : Cx} {Γ : Ga} {tg : List Expr} {ds : List D} {Γ' : Ga} {ts : List Nat} : CoeFun (GoGs X Γ tg ds Γ' ts) fun _ => ∀ σ B H Fs vs, En X.K B H σ Γ Fs → DpAll X.K B vs ds → ∀ Q : L2.St → Hp → Prop,
    (∀ σ' Fs', En X.K B H σ' Γ' Fs' → (∀ i a, a ∈ Fs' i → a ∈ Fs i) → (∀ vs, (∀ t ∈ ts, t ∈ vs) → wipe σ' vs = wipe σ vs) → Q σ' H) → wpGs X tg vs σ H Q := ⟨GoGs.run⟩
theorem wipe_set {σ : L2.St} {i : Nat} {o : Option V} : ∀ {vs : List Nat}, i ∈ vs → wipe (σ.set i o) vs = wipe σ vs
  | v :: vs, h => by
    have com : ∀ (vs : List Nat), (wipe (σ.set i o) vs).set i none = (wipe σ vs).set i none := fun vs => by
      induction vs with
      | nil => exact List.set_set o
      | cons w ws ih =>
        show ((wipe (σ.set i o) ws).set w none).set i none = ((wipe σ ws).set w none).set i none
        by_cases e : w = i
        · rw [e, List.set_set, List.set_set]
          exact ih
        · rw [List.set_comm _ _ e, ih, List.set_comm _ _ (Ne.symm e)]
    show (wipe (σ.set i o) vs).set v none = (wipe σ vs).set v none
    rcases List.mem_cons.mp h with e | e
    · rw [← e]
      exact com vs
    · rw [wipe_set e]
section
variable {X : Cx} {J : Jd} {N : Nd} {Γ Γ1 Γ2 : Ga} {e a b c tg iter : Expr} {es : List Expr} {st : Stmt} {sts rest body : List Stmt} {P : Mn} {d : D} {ds : List D} {pos : Pos} {k : Bool} {ts us : List Nat}
theorem sG : PG X tg (wpG X tg) := ⟨fun pins s _ _ _ u _ I r h => h pins s u I r⟩
theorem sGs : PGs X es (wpGs X es) := ⟨fun pins s _ _ _ u _ I r h => h pins s u I r⟩
theorem toG {t : TG} {v : V} {σ : L2.St} {H : Hp} {Q : L2.St → Hp → Prop} (p : PG X tg t) (h : t v σ H Q) : wpG X tg v σ H Q := fun pins s u I r => p.run pins s σ H v u Q I r h
theorem toGs {t : TGs} {v : List V} {σ : L2.St} {H : Hp} {Q : L2.St → Hp → Prop} (p : PGs X es t) (h : t v σ H Q) : wpGs X es v σ H Q := fun pins s u I r => p.run pins s σ H v u Q I r h
theorem gog_name (i : Nat) {x : Str} (hN : X.N.Nodup) (hi : X.N[i]? = some x := by rfl) (hx : Loc X.env.scope x := by first | exact .inl rfl | exact .inr rfl) (hf : X.fn x = true ∨ X.env.scope.names.lookup x = some .local := by first | exact .inl rfl | exact .inr rfl) :
    GoG X Γ (.Name x pos) d (Γ.set i (.dat d)) [i] := .mk fun σ B H Fs v E r Q q =>
  toG (pg_name hN hi hx hf) (q _ _ (E.setP (P := datP d) i r) (fun _ _ z => off_sub z) fun vs hv => wipe_set (hv i List.mem_cons_self))
theorem gogs_nil : GoGs X Γ [] [] Γ [] := .mk fun σ B H Fs vs E r Q q => by
  cases r
  exact toGs pgs_nil ⟨rfl, q σ Fs E (fun _ _ z => z) fun _ _ => rfl⟩
theorem gogs_cons (h1 : GoG X Γ e d Γ1 ts) (h2 : GoGs X Γ1 es ds Γ2 us) (hs : (assignEach (e :: es) X.env).map (·.2) = assign e X.env :: (assignEach es X.env).map (·.2) := by rfl) : GoGs X Γ (e :: es) (d :: ds) Γ2 (ts ++ us) := .mk fun σ B H Fs vs E r Q q => by
  cases r with
  | cons r rr =>
    refine toGs (pgs_cons sG sGs hs) ⟨_, _, rfl, h1 σ B H Fs _ E r _ fun σ1 F1 E1 s1 w1 => h2 σ1 B H F1 _ E1 rr _ fun σ2 F2 E2 s2 w2 => q σ2 F2 E2 (fun i a z => s1 i a (s2 i a z)) fun vs hv => ?_⟩
    rw [w2 vs fun t ht => hv t (List.mem_append_right _ ht), w1 vs fun t ht => hv t (List.mem_append_left _ ht)]
theorem gog_tup {j : Nat} {n : Nat} (hc : X.calm = true) (h : GoGs X Γ es ds Γ2 ts) (hl : ds.length = n := by rfl) (hn : (assignEach es X.env).length = n := by rfl) (hst : (assignEach es X.env).findIdx? (·.1) = none := by rfl) : GoG X Γ (.Tuple es j pos) (.tuple ds) Γ2 ts := .mk fun σ B H Fs v E r Q q => by
  obtain ⟨a, vs, rfl, h2, h3⟩ := dp_tup r
  exact toG (pg_tup hc sGs hn hst) ⟨a, vs, rfl, E.bh.st h2, by rw [dps_len h3]; exact hl, h σ B H Fs vs E h3 Q q⟩
/-- a, b = e -/
theorem rs_unp (he : Go X Γ e d) (hg : GoG X Γ tg d Γ2 ts) (h : N.nx Γ2) (hs : swapsWithSole [tg] e pos.line X.env = pure false := by rfl) (hw : swappedStores [tg] e X.env = pure none := by rfl)
    (h1 : (assignEach [tg] X.env).map (·.2) = [assign tg X.env] := by rfl) : RnS X J N Γ (.Assign [tg] e pos) := .mk fun B0 σ B H Fs E j =>
  toS (ps_asg sE sG hs hw h1) (he σ B H Fs E _ fun v B2 H2 n r => hg σ B2 H2 Fs v (E.nw n) r _ fun σ' Fs' E' sb _ => ⟨B2, Γ2, Fs', E', (j.nw n).sub sb, h⟩)

/-! ### what is walked -/
structure IsIt (K : PySem.W.Frag) (I : It) (B : Hp) (ds : List D) : Prop where
  go : ∀ i H, i < ds.length → Ex B H → I.go i H
  stop : ∀ H, Ex B H → I.stop ds.length H
  yld : ∀ i H x H' Bc d, ds[i]? = some d → Ex B Bc → Ex Bc H → I.yld i H x H' → ∃ B', Nw Bc H B' H' ∧ Dp K B' x d
def wpI (X : Cx) (tg iter : Expr) : TI := fun σ H R => ∀ pins s, Inv X pins σ H s → wpAny (model X.prog X.w) X.A (eval iter X.env) (fun v s1 => wpAny (model X.prog X.w) X.A (pyIter v) (PIE X pins σ tg R) X.xe s1) X.xe s
theorem sI : PI X tg iter (wpI X tg iter) := ⟨fun pins s _ _ _ I h => h pins s I⟩
theorem toI {t : TI} {σ : L2.St} {H : Hp} {R : It → Hp → Prop} (p : PI X tg iter t) (h : t σ H R) : wpI X tg iter σ H R := fun pins s I => p.run pins s σ H R I h
structure GoI (X : Cx) (Γ : Ga) (tg iter : Expr) (ds : List D) : Prop where
  run : ∀ σ B H Fs, En X.K B H σ Γ Fs → ∀ R : It → Hp → Prop, (∀ I B2 H2, Nw B H B2 H2 → IsIt X.K I B2 ds → R I H2) → wpI X tg iter σ H R
instance {X : Cx} {Γ : Ga} {tg iter : Expr} {ds : List D} : CoeFun (GoI X Γ tg iter ds) fun _ => ∀ σ B H Fs, En X.K B H σ Γ Fs → ∀ R : It → Hp → Prop, (∀ I B2 H2, Nw B H B2 H2 → IsIt X.K I B2 ds → R I H2) → wpI X tg iter σ H R := ⟨GoI.run⟩
theorem goi_list (h : Go X Γ iter (.list ds)) : GoI X Γ tg iter ds := .mk fun σ B H Fs E R q =>
  toI (pi_list sE) (h σ B H Fs E _ fun v B2 H2 n r => by
    obtain ⟨a, vs, rfl, h2, h3⟩ := dp_lst r
    refine ⟨a, rfl, ⟨vs, n.bh.sl h2⟩, q _ B2 H2 n ⟨fun i H' hi hB => ?_, fun H' hB => ⟨vs, hB.sl h2, by rw [dps_len h3]; exact Nat.le_refl _⟩, fun i H' x H2 Bc d hd hB hC y => ?_⟩⟩
    · obtain ⟨u, e1, _⟩ := dps_get h3 (List.getElem?_eq_getElem hi)
      exact ⟨vs, u, hB.sl h2, e1⟩
    · obtain ⟨e1, y⟩ := y
      subst e1
      obtain ⟨d', e3, e4⟩ := dps_getv h3 (y vs ((hB.trans hC).sl h2))
      rw [hd] at e3
      cases e3
      exact ⟨Bc, .same hC, dpUp hB e4⟩)
theorem goi_tup (h : Go X Γ iter (.tuple ds)) : GoI X Γ tg iter ds := .mk fun σ B H Fs E R q =>
  toI (pi_tup sE) (h σ B H Fs E _ fun v B2 H2 n r => by
    obtain ⟨a, vs, rfl, h2, h3⟩ := dp_tup r
    refine ⟨a, rfl, ⟨vs, n.bh.st h2⟩, q _ B2 H2 n ⟨fun i H' hi hB => ?_, fun H' hB => ⟨vs, hB.st h2, by rw [dps_len h3]; exact Nat.le_refl _⟩, fun i H' x H2 Bc d hd hB hC y => ?_⟩⟩
    · obtain ⟨u, e1, _⟩ := dps_get h3 (List.getElem?_eq_getElem hi)
      exact ⟨vs, u, hB.st h2, e1⟩
    · obtain ⟨e1, y⟩ := y
      subst e1
      obtain ⟨d', e3, e4⟩ := dps_getv h3 (y vs ((hB.trans hC).st h2))
      rw [hd] at e3
      cases e3
      exact ⟨Bc, .same hC, dpUp hB e4⟩)
/-- lo, lo + 1, .. -/
def rngI (lo hi : Int) : List Int := (List.range (hi - lo).toNat).map fun i => lo + (i : Nat)
theorem isIt_rng {K : PySem.W.Frag} {B : Hp} {lo : Int} {n : Nat} : IsIt K (Itr lo n) B (((List.range n).map fun i => lo + (i : Nat)).map PyData.int) := by
  have hl : (((List.range n).map fun i => lo + (i : Nat)).map PyData.int).length = n := by
    rw [List.length_map, List.length_map, List.length_range]
  refine ⟨fun i H hi _ => ?_, fun H _ => ?_, fun i H x H' Bc d hd _ hC y => ?_⟩
  · rw [hl] at hi
    exact hi
  · show n ≤ _
    rw [hl]
    exact Nat.le_refl _
  · obtain ⟨e1, e2⟩ := y
    subst e1 e2
    refine ⟨Bc, .same hC, ?_⟩
    have hi : i < n := by
      by_cases hi : i < n
      · exact hi
      · rw [List.getElem?_eq_none (by omega)] at hd
        cases hd
    simp only [List.map_map, List.getElem?_map, List.getElem?_range hi, Option.map_some, Option.some.injEq, Function.comp] at hd
    subst hd
    exact Dp.int _
theorem goi_rng1 {j : Int} {p : Pos} (ha : Go X Γ a (.int j)) (h1 : -(2 ^ 62) ≤ j) (h2 : j < 2 ^ 62) (hm : X.mg "range" = none) (hg : Gl X "range" := by rfl) (hs : starEach [a] X.env = [(false, eval a X.env)] := by rfl) :
    GoI X Γ tg (.Call (.Name "range" p) [a] [] pos) ((rngI 0 j).map PyData.int) := .mk fun σ B H Fs E R q =>
  toI (pi_range1 hg hm (pa_cons sE pa_nil hs) hs) (ha σ B H Fs E _ fun v B2 H2 n r => ⟨j, by rw [dp_int r], h1, h2, q _ B2 H2 n (by
    unfold rngI
    rw [show j - 0 = j by omega]
    exact isIt_rng)⟩)
theorem goi_rng2 {i j : Int} {p : Pos} (ha : Go X Γ a (.int i)) (hb : Go X Γ b (.int j)) (h1 : -(2 ^ 62) ≤ i) (h2 : i < 2 ^ 62) (h3 : -(2 ^ 62) ≤ j) (h4 : j < 2 ^ 62) (hm : X.mg "range" = none) (hg : Gl X "range" := by rfl)
    (hs : starEach [a, b] X.env = [(false, eval a X.env), (false, eval b X.env)] := by rfl) (hs2 : starEach [b] X.env = [(false, eval b X.env)] := by rfl) :
    GoI X Γ tg (.Call (.Name "range" p) [a, b] [] pos) ((rngI i j).map PyData.int) := .mk fun σ B H Fs E R q =>
  toI (pi_range2 hg hm (pa_cons sE (pa_cons sE pa_nil hs2) (by rw [hs2]; exact hs)) hs hs2) (ha σ B H Fs E _ fun v B1 H1 n1 r1 => hb σ B1 H1 Fs (E.nw n1) _ fun w B2 H2 n2 r2 => ⟨i, j, by rw [dp_int r1, dp_int r2], ⟨h1, h2, h3, h4⟩, q _ B2 H2 (n1.trans n2) isIt_rng⟩)
/-- the pairs of enumerate -/
def enumD (ds : List D) : List D := ds.zipIdx.map fun p => .tuple [.int (p.2 : Nat), p.1]
theorem goi_enum {elts : List Expr} {kk : Nat} {tpos p : Pos} (ha : Go X Γ a (.list ds)) (hm : X.mg "enumerate" = none) (hg : Gl X "enumerate" := by rfl) (hs : starEach [a] X.env = [(false, eval a X.env)] := by rfl) :
    GoI X Γ (.Tuple elts kk tpos) (.Call (.Name "enumerate" p) [a] [] pos) (enumD ds) := .mk fun σ B H Fs E R q =>
  toI (pi_enum hg hm (pa_cons sE pa_nil hs) hs) (ha σ B H Fs E _ fun v B2 H2 n r => by
    obtain ⟨l, vs, rfl, h2, h3⟩ := dp_lst r
    have hl : (enumD ds).length = ds.length := by
      unfold enumD
      rw [List.length_map, List.length_zipIdx]
    refine ⟨l, vs, rfl, n.bh.sl h2, q _ B2 H2 n ⟨fun i H' hi hB => ?_, fun H' hB => ⟨vs, hB.sl h2, by rw [dps_len h3, hl]; exact Nat.le_refl _⟩, fun i H' x H2 Bc d hd hB hC y => ?_⟩⟩
    · rw [hl] at hi
      obtain ⟨u, e1, _⟩ := dps_get h3 (List.getElem?_eq_getElem hi)
      exact ⟨vs, u, hB.sl h2, e1⟩
    · obtain ⟨T, u, e1, e2, e3, e4⟩ := y
      subst e1 e3
      obtain ⟨d', e5, e6⟩ := dps_getv h3 (e4 vs ((hB.trans hC).sl h2))
      have hd2 : d = .tuple [.int (i : Nat), d'] := by
        unfold enumD at hd
        rw [List.getElem?_map, List.getElem?_zipIdx, e5] at hd
        simpa using hd.symm
      subst hd2
      have nn := Nw.new (o := .tup [.int (i : Nat), u]) hC e2
      exact ⟨_, nn, .tup (.of upd_same) (.cons (.int _) (.cons (dpUp (hB.trans nn.bb) e6) .nil))⟩)
/-- the pairs of zip -/
def zipD (ds es : List D) : List D := (ds.zip es).map fun p => .tuple [p.1, p.2]
theorem goi_zip {elts : List Expr} {kk : Nat} {tpos p : Pos} {es : List D} (ha : Go X Γ a (.list ds)) (hb : Go X Γ b (.list es)) (hm : X.mg "zip" = none) (hg : Gl X "zip" := by rfl) (hs : starEach [a, b] X.env = (false, eval a X.env) :: starEach [b] X.env := by rfl) (hs2 : starEach [b] X.env = (false, eval b X.env) :: starEach [] X.env := by rfl) :
    GoI X Γ (.Tuple elts kk tpos) (.Call (.Name "zip" p) [a, b] [] pos) (zipD ds es) := .mk fun σ B H Fs E R q =>
  toI (pi_zip hg hm (pa_cons sE (pa_cons sE pa_nil hs2) hs) hs (by rw [hs2]; rfl)) (ha σ B H Fs E _ fun v B1 H1 n1 r1 => hb σ B1 H1 Fs (E.nw n1) _ fun w B2 H2 n2 r2 => by
    obtain ⟨l, vs, rfl, h2, h3⟩ := dp_lst (dpUp n2.bb r1)
    obtain ⟨m, ws, rfl, h4, h5⟩ := dp_lst r2
    have n := n1.trans n2
    have hl : (zipD ds es).length = min ds.length es.length := by
      unfold zipD
      rw [List.length_map, List.length_zip]
    refine ⟨l, m, vs, ws, rfl, n.bh.sl h2, n.bh.sl h4, q _ B2 H2 n ⟨fun i H' hi hB => ?_, fun H' hB => ⟨vs, ws, hB.sl h2, hB.sl h4, by rw [dps_len h3, dps_len h5, hl]; omega⟩, fun i H' x H2 Bc d hd hB hC y => ?_⟩⟩
    · rw [hl] at hi
      obtain ⟨u, e1, _⟩ := dps_get h3 (List.getElem?_eq_getElem (show i < ds.length by omega))
      obtain ⟨u2, e2, _⟩ := dps_get h5 (List.getElem?_eq_getElem (show i < es.length by omega))
      exact ⟨vs, ws, u, u2, hB.sl h2, hB.sl h4, e1, e2⟩
    · obtain ⟨T, u, u2, e1, e2, e3, e4, e5⟩ := y
      subst e1 e3
      obtain ⟨d1, f1, g1⟩ := dps_getv h3 (e4 vs ((hB.trans hC).sl h2))
      obtain ⟨d2, f2, g2⟩ := dps_getv h5 (e5 ws ((hB.trans hC).sl h4))
      have hd2 : d = .tuple [d1, d2] := by
        unfold zipD at hd
        have hz : (ds.zip es)[i]? = some (d1, d2) := by
          rw [List.getElem?_zip_eq_some]
          exact ⟨f1, f2⟩
        rw [List.getElem?_map, hz] at hd
        simpa using hd.symm
      subst hd2
      have nn := Nw.new (o := .tup [u, u2]) hC e2
      exact ⟨_, nn, .tup (.of upd_same) (.cons (dpUp (hB.trans nn.bb) g1) (.cons (dpUp (hB.trans nn.bb) g2) .nil))⟩)
def signsD (z : Str) : List D := z.cps.toList.map fun c => .str ⟨#[c]⟩
theorem goi_str {z : Str} (h : Go X Γ iter (.str z)) : GoI X Γ tg iter (signsD z) := .mk fun σ B H Fs E R q =>
  toI (pi_str sE) (h σ B H Fs E _ fun v B2 H2 n r => by
    have hl : (signsD z).length = z.cps.size := by
      unfold signsD
      rw [List.length_map, Array.length_toList]
    refine ⟨z, dp_str r, q _ B2 H2 n ⟨fun i H' hi hB => by rw [hl] at hi; exact hi, fun H' hB => by rw [hl]; exact Nat.le_refl _, fun i H' x H2 Bc d hd hB hC y => ?_⟩⟩
    obtain ⟨e1, c, e2, e3⟩ := y
    subst e1 e3
    have hd2 : d = .str ⟨#[c]⟩ := by
      unfold signsD at hd
      rw [List.getElem?_map, Array.getElem?_toList, e2] at hd
      simpa using hd.symm
    subst hd2
    exact ⟨Bc, .same hC, .str _⟩)

/-! ### loops -/
structure GoIx (X : Cx) (Γ : Ga) (tg iter : Expr) (p : List D → Prop) : Prop where
  run : ∀ σ B H Fs, En X.K B H σ Γ Fs → ∀ R : It → Hp → Prop, (∀ I B2 H2 ds, p ds → Nw B H B2 H2 → IsIt X.K I B2 ds → R I H2) → wpI X tg iter σ H R
instance {X : Cx} {Γ : Ga} {tg iter : Expr} {p : List D → Prop} : CoeFun (GoIx X Γ tg iter p) fun _ => ∀ σ B H Fs, En X.K B H σ Γ Fs → ∀ R : It → Hp → Prop, (∀ I B2 H2 ds, p ds → Nw B H B2 H2 → IsIt X.K I B2 ds → R I H2) → wpI X tg iter σ H R := ⟨GoIx.run⟩
/-- for: Iv by the turn -/
theorem rs_forX {p : List D → Prop} (Iw : List D → Nat → Ga → Prop) (hi : GoIx X Γ tg iter p) (h0 : ∀ ds, p ds → Iw ds 0 Γ)
    (hb : ∀ ds, p ds → ∀ k d Γ', ds[k]? = some d → Iw ds k Γ' → ∃ Γ2 ts, GoG X Γ' tg d Γ2 ts ∧ Rn X J { N with nx := Iw ds (k + 1), ct := Iw ds (k + 1), bk := N.nx } Γ2 body)
    (hd : ∀ ds, p ds → ∀ Γ', Iw ds ds.length Γ' → N.nx Γ') (hc : X.calm = true) (hp : PassesOwn (model X.prog X.w) X.A X.env X.xe := by exact PassesOwn.never) (hs : ∀ x, foldedSetIterable iter X.env x = pure x := by intro _; rfl) :
    RnS X J N Γ (.For tg iter body [] pos) := .mk fun B0 σ B H Fs E j =>
  toS (ps_for hp hc sI sG sSs hs) (hi σ B H Fs E _ fun I B2 H2 ds pd n it => by
    have h0 := h0 ds pd
    have hb := hb ds pd
    have hd := hd ds pd
    revert h0 hb hd
    generalize Iw ds = Iv
    intro h0 hb hd
    refine ⟨fun i m σ' H' => m = ds.length - i ∧ i ≤ ds.length ∧ ∃ B' Γ' Fs', Ex B2 B' ∧ En X.K B' H' σ' Γ' Fs' ∧ Jn J B0 B' H' Fs' ∧ Iv i Γ', ⟨ds.length, by omega, Nat.zero_le _, B2, Γ, Fs, .refl _, E.nw n, j.nw n, h0⟩, ?_⟩
    rintro i m σ' H' ⟨rfl, hi, B', Γ', Fs', e1, E', j', v⟩
    by_cases hlt : i < ds.length
    · refine .inr ⟨it.go i H' hlt (e1.trans E'.bh), fun σ' H' => ∃ B' Γ' Fs', Ex B2 B' ∧ En X.K B' H' σ' Γ' Fs' ∧ Jn J B0 B' H' Fs' ∧ Iv (i + 1) Γ', fun σ' H' p => ⟨ds.length - (i + 1), by omega, rfl, hlt, p⟩, fun x H'' y => ?_⟩
      obtain ⟨B'', n2, r2⟩ := it.yld i H' x H'' B' _ (List.getElem?_eq_getElem hlt) e1 E'.bh y
      obtain ⟨Γ2, ts, g, rb⟩ := hb i _ Γ' (List.getElem?_eq_getElem hlt) v
      refine g σ' B'' H'' Fs' x (E'.nw n2) r2 _ fun σ2 F2 E2 sb _ => ?_
      have j2 : Jn J B0 B'' H'' F2 := (j'.nw n2).sub sb
      have e2 : Ex B2 B'' := e1.trans n2.bb
      refine wpSs_mono (rb B'' σ2 B'' H'' F2 E2 j2.fresh) ?_ ?_ ?_ ?_
      · exact fun σ3 H3 ⟨B3, Γ3, F3, p1, p2, p3⟩ => ⟨B3, Γ3, F3, e2.trans p2.b0, p1, j2.trans p2, p3⟩
      · exact fun v H3 ⟨σ3, B3, Γ3, F3, p1, p2, p3⟩ => ⟨σ3, B3, Γ3, F3, p1, j2.trans p2, p3⟩
      · exact fun σ3 H3 ⟨B3, Γ3, F3, p1, p2, p3⟩ => ⟨B3, Γ3, F3, p1, j2.trans p2, p3⟩
      · exact fun σ3 H3 ⟨B3, Γ3, F3, p1, p2, p3⟩ => ⟨B3, Γ3, F3, e2.trans p2.b0, p1, j2.trans p2, p3⟩
    · have e : i = ds.length := by omega
      subst e
      exact .inl ⟨it.stop H' (e1.trans E'.bh), B', Γ', Fs', E', j', hd Γ' v⟩)
theorem rs_for (Iv : Nat → Ga → Prop) (hi : GoI X Γ tg iter ds) (h0 : Iv 0 Γ)
    (hb : ∀ k d Γ', ds[k]? = some d → Iv k Γ' → ∃ Γ2 ts, GoG X Γ' tg d Γ2 ts ∧ Rn X J { N with nx := Iv (k + 1), ct := Iv (k + 1), bk := N.nx } Γ2 body)
    (hd : ∀ Γ', Iv ds.length Γ' → N.nx Γ') (hc : X.calm = true) (hp : PassesOwn (model X.prog X.w) X.A X.env X.xe := by exact PassesOwn.never) (hs : ∀ x, foldedSetIterable iter X.env x = pure x := by intro _; rfl) :
    RnS X J N Γ (.For tg iter body [] pos) :=
  rs_forX (p := fun es => es = ds) (fun _ => Iv) (.mk fun σ B H Fs E R q => hi σ B H Fs E R fun I B2 H2 n it => q I B2 H2 ds rfl n it) (fun _ _ => h0) (fun es e k d Γ' g v => hb k d Γ' (e ▸ g) v) (fun es e Γ' v => hd Γ' (e ▸ v)) hc hp hs
/-- while: Iv by a number that falls -/
theorem rs_while (Iv : Nat → Ga → Prop) (m : Nat) (h0 : Iv m Γ)
    (hb : ∀ m Γ', Iv m Γ' → ∃ k, GoT X Γ' c k ∧ (k = true → Rn X J { N with nx := fun Γ2 => ∃ m', m' < m ∧ Iv m' Γ2, ct := fun Γ2 => ∃ m', m' < m ∧ Iv m' Γ2, bk := N.nx } Γ' body) ∧ (k = false → N.nx Γ'))
    (hp : PassesOwn (model X.prog X.w) X.A X.env X.xe := by exact PassesOwn.never) : RnS X J N Γ (.While c body [] pos) := .mk fun B0 σ B H Fs E j =>
  toS (ps_while hp sT sSs) (by
    refine ⟨fun m σ' H' => ∃ B' Γ' Fs', En X.K B' H' σ' Γ' Fs' ∧ Jn J B0 B' H' Fs' ∧ Iv m Γ', ⟨m, B, Γ, Fs, E, j, h0⟩, ?_⟩
    rintro m σ' H' ⟨B', Γ', Fs', E', j', v⟩
    obtain ⟨k, ht, h1, h2⟩ := hb m Γ' v
    refine ht σ' B' H' Fs' E' _ fun B2 H2 n => ?_
    cases k with
    | true =>
      refine iteT ⟨fun σ' H' => ∃ m', m' < m ∧ ∃ B' Γ' Fs', En X.K B' H' σ' Γ' Fs' ∧ Jn J B0 B' H' Fs' ∧ Iv m' Γ', fun σ' H' ⟨m', q1, q2⟩ => ⟨m', q1, q2⟩, ?_⟩
      refine wpSs_mono (h1 rfl B0 σ' B2 H2 Fs' (E'.nw n) (j'.nw n)) ?_ ?_ ?_ ?_
      · exact fun σ3 H3 ⟨B3, Γ3, F3, p1, p2, m', p3, p4⟩ => ⟨m', p3, B3, Γ3, F3, p1, p2, p4⟩
      · exact fun v H3 p => p
      · exact fun σ3 H3 p => p
      · exact fun σ3 H3 ⟨B3, Γ3, F3, p1, p2, m', p3, p4⟩ => ⟨m', p3, B3, Γ3, F3, p1, p2, p4⟩
    | false => exact iteF ⟨B2, Γ', Fs', E'.nw n, j'.nw n, h2 rfl⟩)
end
end PL

set_option maxHeartbeats 2000000
namespace PL
open PySem PySem.Spec PyProof.Rows L2

/-! ### an own list read on the way -/
section
variable {X : Cx} {J : Jd} {N : Nd} {Γ Γ1 Γ2 : Ga} {e a b c tg iter : Expr} {es : List Expr} {st : Stmt} {sts rest body : List Stmt} {P : Mn} {d : D} {ds : List D} {pos : Pos} {k : Bool}
theorem thaw_run {i : Nat} (hΓ : Γ[i]? = some (.own ds)) {σ B H Fs} (E : En X.K B H σ Γ Fs) : ∃ B' Fs', En X.K B' H σ (Γ.set i (.dat (.list ds))) Fs' := by
  obtain ⟨a, vs, h1, h2, h3, h4, h5⟩ := E.own hΓ
  exact ⟨_, _, (E.ice hΓ h1 h2 h3 h4).1⟩
theorem go_thawI (i : Nat) {n : Int} (h : Go X (Γ.set i (.dat (.list ds))) e (.int n)) (hΓ : Γ[i]? = some (.own ds) := by rfl) : Go X Γ e (.int n) := .mk fun σ B H Fs E Q q => by
  obtain ⟨B', Fs', E'⟩ := thaw_run hΓ E
  exact h σ B' H Fs' E' Q fun v B2 H2 n r => by
    rw [dp_int r]
    exact q _ B H2 ⟨.refl _, E.bh.trans n.hh, n.hh, fun _ h _ => h⟩ (Dp.int _)
theorem go_thawS (i : Nat) {n : Str} (h : Go X (Γ.set i (.dat (.list ds))) e (.str n)) (hΓ : Γ[i]? = some (.own ds) := by rfl) : Go X Γ e (.str n) := .mk fun σ B H Fs E Q q => by
  obtain ⟨B', Fs', E'⟩ := thaw_run hΓ E
  exact h σ B' H Fs' E' Q fun v B2 H2 n r => by
    rw [dp_str r]
    exact q _ B H2 ⟨.refl _, E.bh.trans n.hh, n.hh, fun _ h _ => h⟩ (Dp.str _)
theorem goT_thaw (i : Nat) (h : GoT X (Γ.set i (.dat (.list ds))) e k) (hΓ : Γ[i]? = some (.own ds) := by rfl) : GoT X Γ e k := .mk fun σ B H Fs E Q q => by
  obtain ⟨B', Fs', E'⟩ := thaw_run hΓ E
  exact h σ B' H Fs' E' Q fun B2 H2 n => q B H2 ⟨.refl _, E.bh.trans n.hh, n.hh, fun _ h _ => h⟩

/-! ### comprehensions -/
def wpTs (X : Cx) (ifs : List Expr) : TT := fun σ H Q => ∀ pins s, Inv X pins σ H s → wpAny (model X.prog X.w) X.A (forIn ifs true fun c r => if r = true then do let ok ← isTrue c X.env (eval c X.env); pure (ForInStep.yield ok) else pure (ForInStep.yield r)) (TP X pins σ Q) X.xe s
theorem sTs {ifs : List Expr} : PTs X ifs (wpTs X ifs) := ⟨fun pins s _ _ _ I h => h pins s I⟩
theorem toTs {ifs : List Expr} {t : TT} {σ : L2.St} {H : Hp} {Q : Bool → Hp → Prop} (p : PTs X ifs t) (h : t σ H Q) : wpTs X ifs σ H Q := fun pins s I => p.run pins s σ H Q I h
structure GoTs (X : Cx) (Γ : Ga) (ifs : List Expr) (b : Bool) : Prop where
  run : ∀ σ B H Fs, En X.K B H σ Γ Fs → ∀ Q : Bool → Hp → Prop, (∀ B2 H2, Nw B H B2 H2 → Q b H2) → wpTs X ifs σ H Q
instance {X : Cx} {Γ : Ga} {ifs : List Expr} {b : Bool} : CoeFun (GoTs X Γ ifs b) fun _ => ∀ σ B H Fs, En X.K B H σ Γ Fs → ∀ Q : Bool → Hp → Prop, (∀ B2 H2, Nw B H B2 H2 → Q b H2) → wpTs X ifs σ H Q := ⟨GoTs.run⟩
theorem goTs_nil : GoTs X Γ [] true := .mk fun σ B H Fs E Q q => toTs pts_nil (q B H (.same E.bh))
theorem goTs_one (h : GoT X Γ c k) : GoTs X Γ [c] k := .mk fun σ B H Fs E Q q => toTs (pts_one sT) (h σ B H Fs E Q q)
/-- in every block -/
def Blk (X : Cx) (scope : Scope) (R : Cx → Prop) : Prop := ∀ (s : Shared) (H : Hp) (C : Addr) (cl : List (Str × Addr)) (fp : List Addr), R (X.blk s H scope (compEnvC scope cl C X.env) fp)
/-- what the reading of a comprehension asks -/
abbrev lcRd (X : Cx) (scope : Scope) (tg : Expr) (ifs : List Expr) (elt : Expr) (iter : Expr) (vs : List Nat) : TE :=
  tLc (wpI X tg iter) (fun v σ H Q => Blk X scope fun X' => wpG X' tg v σ H Q) (fun σ H Q => Blk X scope fun X' => wpTs X' ifs σ H Q) (fun σ H Q => Blk X scope fun X' => wpE X' elt σ H Q) vs
theorem wipe_wipe {σ : L2.St} : ∀ vs : List Nat, wipe (wipe σ vs) vs = wipe σ vs := fun vs => by
  have sw : ∀ (ws : List Nat) (τ : L2.St), (∀ w ∈ ws, w ∈ vs) → wipe (wipe τ ws) vs = wipe τ vs := fun ws => by
    induction ws with
    | nil => intro τ _; rfl
    | cons w ws ih =>
      intro τ h
      show wipe ((wipe τ ws).set w none) vs = wipe τ vs
      rw [wipe_set (h w List.mem_cons_self)]
      exact ih τ fun x hx => h x (List.mem_cons_of_mem _ hx)
  exact sw vs σ fun _ h => h
theorem lc_run {elt : Expr} {ifs : List Expr} {scope : Scope} {vs : List Nat} {α : Type} {xs : List α} {enc : α → D} (p : α → Bool) (f : α → D) (hi : GoI X Γ tg iter (xs.map enc)) (hz : xs.length < sizeLine)
    (body : ∀ (k : Nat) x, xs[k]? = some x → ∃ Γ' ts, (∀ t ∈ ts, t ∈ vs) ∧ (Blk X scope fun X' => GoG X' (wipeG Γ vs) tg (enc x) Γ' ts) ∧ (Blk X scope fun X' => GoTs X' Γ' ifs (p x)) ∧ (p x = true → Blk X scope fun X' => Go X' Γ' elt (f x)))
    {σ B H Fs} (E : En X.K B H σ Γ Fs) (Q : VK)
    (q : ∀ l us B2 H2, Nw B H B2 H2 → H l = none → B2 l = none → H2 l = some (.lst us) → DpAll X.K B2 us ((xs.filter p).map f) → Q (.ref l) H2) : lcRd X scope tg ifs elt iter vs σ H Q := by
  refine hi σ B H Fs E _ fun I B1 H1 n1 it => ?_
  intro Dl hDl
  have E1 := E.nw n1
  have hl : (xs.map enc).length = xs.length := List.length_map _
  refine ⟨fun i m H' => m = xs.length - i ∧ i ≤ xs.length ∧ ∃ B' acc, Nw B1 H1 B' H' ∧ B' Dl = none ∧ H' Dl = some (.lst acc) ∧ DpAll X.K B' acc (((xs.take i).filter p).map f),
    ⟨xs.length, by omega, Nat.zero_le _, B1, [], .lay n1.bh hDl, n1.bh.none hDl, upd_same, by rw [List.take_zero]; exact .nil⟩, ?_⟩
  rintro i m H' ⟨rfl, hi', B', acc, n', hb, hH, hd⟩
  have nDl : ∀ {j : Nat}, Dl ∉ Fs j := fun {j} ha => (E1.fre j Dl ha).2 hDl
  by_cases hlt : i < xs.length
  · refine .inr ⟨it.go i H' (by rw [hl]; exact hlt) (n'.bb.trans n'.bh), fun H' => i + 1 ≤ xs.length ∧ ∃ B' acc, Nw B1 H1 B' H' ∧ B' Dl = none ∧ H' Dl = some (.lst acc) ∧ DpAll X.K B' acc (((xs.take (i + 1)).filter p).map f), fun H' pp => ⟨xs.length - (i + 1), by omega, rfl, pp⟩, fun x H'' y => ?_⟩
    have ge : (xs.map enc)[i]? = some (enc xs[i]) := by
      rw [List.getElem?_map, List.getElem?_eq_getElem hlt]
      rfl
    obtain ⟨B2, n2, r2⟩ := it.yld i H' x H'' B' _ ge n'.bb n'.bh y
    obtain ⟨Γ', ts, hts, hg, ht, he⟩ := body i xs[i] (List.getElem?_eq_getElem hlt)
    have E2 : En X.K B2 H'' (wipe σ vs) (wipeG Γ vs) Fs := ((E1.nw n').nw n2).wipe vs
    have acl : acc.length ≤ xs.length := by
      rw [dps_len hd, List.length_map]
      refine Nat.le_trans (List.length_filter_le _ _) ?_
      rw [List.length_take]
      omega
    have eT : xs.take (i + 1) = xs.take i ++ [xs[i]] := by rw [List.take_succ_eq_append_getElem hlt]
    intro s0 H0 C0 cl0 fp0
    refine hg s0 H0 C0 cl0 fp0 (wipe σ vs) B2 H'' Fs x E2 r2 _ fun σ2 F2 E3 sb hw => ⟨(hw vs hts).trans (wipe_wipe vs), ?_⟩
    intro s1 H1' C1 cl1 fp1
    refine ht s1 H1' C1 cl1 fp1 σ2 B2 H'' F2 E3 _ fun B4 H4 n4 => ?_
    have dk : B4 Dl = none := n4.nu Dl (n2.nu Dl hb (by rw [hH]; exact fun z => nomatch z)) (by rw [n2.hh Dl _ hH]; exact fun z => nomatch z)
    have dH : H4 Dl = some (.lst acc) := n4.hh Dl _ (n2.hh Dl _ hH)
    have nAll := (n'.trans n2).trans n4
    cases hp : p xs[i] with
    | false =>
      refine iteF ⟨hlt, B4, acc, nAll, dk, dH, ?_⟩
      rw [eT, List.filter_append, List.filter_cons_of_neg (by rw [hp]; exact Bool.false_ne_true), List.filter_nil, List.append_nil]
      exact dpsUp (n2.bb.trans n4.bb) hd
    | true =>
      refine iteT ?_
      intro s2 H2' C2 cl2 fp2
      refine he hp s2 H2' C2 cl2 fp2 σ2 B4 H4 F2 (E3.nw n4) _ fun y' B5 H5 n5 r5 => ?_
      have d5 : B5 Dl = none := n5.nu Dl dk (by rw [dH]; exact fun z => nomatch z)
      have dH5 : H5 Dl = some (.lst acc) := n5.hh Dl _ dH
      have n6 := nAll.trans n5
      refine ⟨acc, dH5, Nat.lt_of_le_of_lt acl hz, hlt, B5, acc ++ [y'], ⟨n6.bb, fun a u e => ?_, fun a u e => ?_, n6.nu⟩, d5, upd_same, ?_⟩
      · rw [upd_ne (ne_of_none e d5)]
        exact n6.bh a u e
      · rw [upd_ne (ne_of_none e hDl)]
        exact n6.hh a u e
      · rw [eT, List.filter_append, List.filter_cons_of_pos hp, List.filter_nil, List.map_append]
        exact dps_app (dpsUp ((n2.bb.trans n4.bb).trans n5.bb) hd) (.cons r5 .nil)
  · have e : i = xs.length := by omega
    subst e
    rw [List.take_length] at hd
    refine .inl ⟨by rw [← hl]; exact it.stop H' (n'.bb.trans n'.bh), q Dl acc B' H' (n1.trans n') (n1.hh.none hDl) hb hH hd⟩
theorem goN_lc {elt : Expr} {ifs : List Expr} {scope : Scope} {own : List (Str × Nat)} {α : Type} {xs : List α} {enc : α → D} (p : α → Bool) (f : α → D) (hi : GoI X Γ tg iter (xs.map enc)) (hz : xs.length < sizeLine)
    (body : ∀ (k : Nat) x, xs[k]? = some x → ∃ Γ' ts, (∀ t ∈ ts, t ∈ own.map (·.2)) ∧ (Blk X scope fun X' => GoG X' (wipeG Γ (own.map (·.2))) tg (enc x) Γ' ts) ∧ (Blk X scope fun X' => GoTs X' Γ' ifs (p x)) ∧ (p x = true → Blk X scope fun X' => Go X' Γ' elt (f x)))
    (hc : X.calm = true) (hN : X.N.Nodup) (ok : BlkOk X.N X.env.scope scope own) (hs : ∀ x, foldedSetIterable iter X.env x = pure x := by intro _; rfl) :
    GoN X Γ (.ListComp elt [⟨tg, iter, ifs, 0⟩] scope pos) ((xs.filter p).map f) := .mk fun σ B H Fs E Q q =>
  toE (pe_lc (own := own) hc hN sI ok (fun s H C cl fp => ⟨fun pins s' σ H v u Q I r h => (h s _ C cl fp) pins s' u I r⟩) (fun s H C cl fp => ⟨fun pins s' σ H Q I h => (h s _ C cl fp) pins s' I⟩) (fun s H C cl fp => ⟨fun pins s' σ H Q I h => (h s _ C cl fp) pins s' I⟩) hs) (lc_run p f hi hz body E Q q)
/-- name = [..] in one line -/
theorem rs_ownLc (i : Nat) {x : Str} {p' : Pos} {elt : Expr} {ifs : List Expr} {scope : Scope} {own : List (Str × Nat)} {lpos : Pos} {α : Type} {xs : List α} {enc : α → D} (p : α → Bool) (f : α → D) (hi : GoI X Γ tg iter (xs.map enc)) (hz : xs.length < sizeLine)
    (body : ∀ (k : Nat) x, xs[k]? = some x → ∃ Γ' ts, (∀ t ∈ ts, t ∈ own.map (·.2)) ∧ (Blk X scope fun X' => GoG X' (wipeG Γ (own.map (·.2))) tg (enc x) Γ' ts) ∧ (Blk X scope fun X' => GoTs X' Γ' ifs (p x)) ∧ (p x = true → Blk X scope fun X' => Go X' Γ' elt (f x)))
    (h : N.nx (Γ.set i (.own ((xs.filter p).map f)))) (hc : X.calm = true) (hN : X.N.Nodup) (ok : BlkOk X.N X.env.scope scope own) (hx : X.N[i]? = some x := by rfl) (hyl : X.env.scope.names.lookup x = some .local := by rfl)
    (hsw : swapsWith (.ListComp elt [⟨tg, iter, ifs, 0⟩] scope lpos) (some (.Name x p')) pos.line X.env = pure true) (hs : ∀ x, foldedSetIterable iter X.env x = pure x := by intro _; rfl) :
    RnS X J N Γ (.Assign [.Name x p'] (.ListComp elt [⟨tg, iter, ifs, 0⟩] scope lpos) pos) := .mk fun B0 σ B H Fs E j =>
  toS (ps_setLc (own := own) hc hN hx hyl hsw sI ok (fun s H C cl fp => ⟨fun pins s' σ H v u Q I r h => (h s _ C cl fp) pins s' u I r⟩) (fun s H C cl fp => ⟨fun pins s' σ H Q I h => (h s _ C cl fp) pins s' I⟩) (fun s H C cl fp => ⟨fun pins s' σ H Q I h => (h s _ C cl fp) pins s' I⟩) hs)
    (lc_run p f hi hz body E (fun x H1 => gName i x σ H1 (N.ends X J B0).nx) fun l us B2 H2 n hl hb hH hd => ⟨B2, _, _, (E.nw n).setO (P := lstO ((xs.filter p).map f)) (F := [l]) i ⟨l, us, rfl, rfl, hH, hd⟩ (fun a ha => by rw [List.mem_singleton.mp ha]; exact hb)
    (fun k a ha hm => (E.fre k a ha).2 (by rw [List.mem_singleton.mp hm]; exact hl)), (j.nw n).lay fun a ha => by
      rw [List.mem_singleton.mp ha]
      cases q : J.H l with
      | none => rfl
      | some o => exact absurd hl (j.h1 l (by rw [q]; exact fun z => nomatch z)), h⟩)

/-! ### defs -/
/-- a def of data: from ar i it gives rs i, nothing that stood is changed -/
def spF {ι : Type} (K : PySem.W.Frag) (pre : ι → Prop) (ar : ι → List Mn) (rs : ι → Mn) : Sp := fun vs H Q _ => ∃ (i : ι) (B : Hp), pre i ∧ Ex B H ∧ MnAll K B vs (ar i) ∧ ∀ v B2 H2, Nw B H B2 H2 → (rs i).p K B2 v → Q v H2
theorem mn_len {K : PySem.W.Frag} {B : Hp} : ∀ {vs : List V} {Ps : List Mn}, MnAll K B vs Ps → vs.length = Ps.length
  | _, _, .nil => rfl
  | _, _, .cons _ t => by rw [List.length_cons, List.length_cons, mn_len t]
theorem mn_get {K : PySem.W.Frag} {B : Hp} : ∀ {vs : List V} {Ps : List Mn} {i : Nat} {P : Mn}, MnAll K B vs Ps → Ps[i]? = some P → ∃ v, vs[i]? = some v ∧ P.p K B v
  | _, _, _, _, .nil, e => by simp at e
  | _, _, 0, _, .cons h _, e => by
    simp only [List.getElem?_cons_zero, Option.some.injEq] at e
    subst e
    exact ⟨_, rfl, h⟩
  | _, _, i + 1, P, .cons _ t, e => by
    obtain ⟨v, h1, h2⟩ := mn_get (i := i) (P := P) t (by simpa using e)
    exact ⟨v, by simpa using h1, h2⟩
/-- the slots at a def's entry: n of them -/
def entry (Ps : List Mn) (n : Nat) : Ga := Ps.map Sl.pr ++ List.replicate (n - Ps.length) .any
theorem en_entry {K : PySem.W.Frag} {B H : Hp} {vs : List V} {Ps : List Mn} {L : List Str} (hB : Ex B H) (h : MnAll K B vs Ps) : En K B H (L2.start L vs) (entry Ps L.length) fun _ => [] where
  bh := hB
  len := by
    unfold L2.start entry
    rw [List.length_append, List.length_append, List.length_map, List.length_map, List.length_replicate, List.length_replicate, mn_len h]
  at_ := fun i s hs => by
    unfold L2.start
    unfold entry at hs
    by_cases hi : i < Ps.length
    · rw [List.getElem?_append_left (by rw [List.length_map]; exact hi), List.getElem?_map, List.getElem?_eq_getElem hi] at hs
      cases hs
      obtain ⟨v, e1, e2⟩ := mn_get h (List.getElem?_eq_getElem hi)
      refine ⟨v, ?_, e2⟩
      rw [List.getElem?_append_left (by rw [List.length_map, mn_len h]; exact hi), List.getElem?_map, e1]
      rfl
    · rw [List.getElem?_append_right (by rw [List.length_map]; omega), List.getElem?_replicate] at hs
      split at hs
      · cases hs
        trivial
      · cases hs
  fre := fun _ _ z => nomatch z
  dis := fun _ _ _ z _ => nomatch z
end
section
variable {P : Program} {w : World} {K : PySem.W.Frag} {mg : Str → Option Value} {base : Heap}
/-- THE RULE for a def of data -/
theorem def_ok {x qual : Str} {st : Stmt} {f : Addr} {fd : FuncData} {L ps : List Str} {k : Nat} {ι : Type} {pre : ι → Prop} {ar : ι → List Mn} {rs : ι → Mn} (F : Fun K x qual st f fd) (S : FnScope L ps (defScope st)) (hl : ∀ i, (ar i).length = ps.length)
    (body : ∀ (i : ι), pre i → ∀ (cdv : Value) (A : Around) (outer : List Env) (s : Shared) (H : Hp) (E : XK), Room k (A.deeper (envOfC qual (defScope st) s.heap.objs.size f cdv)) → ∀ J : Jd, J.S = [] →
      Rn (cxOf CX0 P w K mg base L qual (defScope st) f cdv A outer s H E).nox J { nx := fun _ => ∀ K B, (rs i).p K B .non, rt := rs i } (entry (ar i) L.length) (defBody st)) :
    FnOk P w K mg base CX0 (k + 1) f fd ps (spF K pre ar rs) := by
  refine F.ok S (fun vs H Q E h => ?_) fun cdv A outer s H vs Q E hr h => ?_
  · obtain ⟨i, B, _, _, h, _⟩ := h
    rw [mn_len h, hl]
  · obtain ⟨i, B, hp, hB, hv, q⟩ := h
    refine ⟨_, sSs, wpSs_mono (body i hp cdv A outer s H E hr ⟨H, [], []⟩ rfl B (L2.start L vs) B H (fun _ => []) (en_entry hB hv) ⟨.refl _, fun a h1 h2 => absurd h2 h1, fun a o h _ => h, fun a h => h, fun _ _ z => nomatch z⟩) ?_ ?_ ?_ ?_⟩
    · exact fun σ' H' ⟨B', Γ', Fs', e, j, n⟩ => q _ B' H' ⟨j.b0, e.bh, fun a o h => j.h0 a o h (by simp), fun a h1 h2 => by
        cases r : B' a with
        | none => rfl
        | some o => exact absurd (j.nb a (by rw [r]; exact fun z => nomatch z) h1) h2⟩ (n K B')
    · exact fun v H' ⟨σ', B', Γ', Fs', e, j, _, r⟩ => q v B' H' ⟨j.b0, e.bh, fun a o h => j.h0 a o h (by simp), fun a h1 h2 => by
        cases r : B' a with
        | none => rfl
        | some o => exact absurd (j.nb a (by rw [r]; exact fun z => nomatch z) h1) h2⟩ r
    · exact fun σ' H' ⟨B', Γ', Fs', e, j, n⟩ => n.elim
    · exact fun σ' H' ⟨B', Γ', Fs', e, j, n⟩ => n.elim
end
section
variable {X : Cx} {Γ : Ga} {e : Expr} {es : List Expr} {pos p : Pos}
/-- its call -/
theorem go_call {x : Str} {f : Addr} {fd : FuncData} {ps : List Str} {k : Nat} {ι : Type} {pre : ι → Prop} {ar : ι → List Mn} {rs : ι → Mn} {R : Mn} (i : ι) (F : FnOk X.prog X.w X.K X.mg X.base CX0 k f fd ps (spF X.K pre ar rs)) (hr : Room k X.A) (hm : X.mg x = some (.ref f)) (hk : PySem.W.keepIn X.K (.ref f) = true) (hb : Binds X.K fd ps [])
    (hp : pre i) (ha : GoA X Γ (e :: es) (ar i)) (hg : Gl X x := by rfl) (hdb : (x == ("__debug__" : Str)) = false := by decide) (he : starEach (e :: es) X.env = (false, eval e X.env) :: starEach es X.env := by rfl) (hpl : (backTo pos (starEach es X.env)).any (·.1) = false := by rfl) (hR : rs i = R := by rfl) :
    GoP X Γ (.Call (.Name x p) (e :: es) [] pos) R := .mk fun σ B H Fs E Q q =>
  toE (pe_call F hr hg hm hk hb .nil pass0 sA hdb he hpl) (ha σ B H Fs E _ fun vs B1 H1 n1 r1 => ⟨i, B1, hp, n1.bh, by rw [List.append_nil]; exact r1, fun v B2 H2 n2 r2 => q v B2 H2 (n1.trans n2) (hR ▸ r2)⟩)
end
end PL

set_option maxHeartbeats 2000000
namespace PL
open PySem PySem.Spec PyProof.Rows L2
/-! ### list + list, list * int -/
section
variable {X : Cx} {Γ : Ga} {a b : Expr} {ds es : List D} {pos : Pos}
def rCatL (K : PySem.W.Frag) : V → V → Hp → VK → Prop := fun x y H Q => ∃ l b xs zs, x = .ref l ∧ y = .ref b ∧ SqL K H l xs ∧ SqL K H b zs ∧ xs.length + zs.length ≤ sizeLine ∧ ∀ p, H p = none → Q (.ref p) (upd H p (.lst (xs ++ zs)))
theorem op_catL : OpR X (binaryOp .Add) (rCatL X.K) := by
  intro pins s σ H x y v u Q I rx ry h
  obtain ⟨l, b, xs, zs, rfl, rfl, hH, hB, hz, q⟩ := h
  cases rx
  cases ry
  obtain ⟨its, r, ⟨⟨cls, dd, data, sl⟩, n, ho, hc, _, hd⟩, _⟩ := I.list hH
  obtain ⟨its2, r2, ⟨⟨cls2, dd2, data2, sl2⟩, n2, ho2, hc2, _, hd2⟩, _⟩ := I.list hB
  simp only at hc hd hc2 hd2
  subst hc hd hc2 hd2
  have l1 := r.length
  have l2 := r2.length
  have ea : its.toArray ++ its2.toArray = (its ++ its2).toArray := by simp
  refine PySem.concat_meets ⟨_, ho, rfl⟩ ⟨_, ho2, rfl⟩ PySem.noFill_list_add PySem.seq_list_add PySem.F.slot_list_add PySem.F.entry_list_add (PySem.F.args_list_add_2 _ _) (PyProof.Rows.list_addW l b its.toArray its2.toArray n n2 dd dd2 sl sl2 (by rw [List.size_toArray, List.size_toArray]; omega)) ⟨ho, ho2, ?_⟩
  rw [ea]
  exact ⟨.ref _, _, I.lnew (t' := s.toks) (r.append r2) (by rw [List.length_append]; omega), rfl, q _ I.fresh⟩
theorem goN_cat (ha : Go X Γ a (.list ds)) (hb : Go X Γ b (.list es)) (hl : ds.length + es.length ≤ sizeLine) : GoN X Γ (.BinOp a .Add b pos) (ds ++ es) := .mk fun σ B H Fs E Q q =>
  toE (pe_op op_catL sE sE) (ha σ B H Fs E _ fun v B1 H1 n1 r1 => hb σ B1 H1 Fs (E.nw n1) _ fun w B2 H2 n2 r2 => by
    obtain ⟨l, vs, rfl, h2, h3⟩ := dp_lst (dpUp n2.bb r1)
    obtain ⟨m, ws, rfl, h4, h5⟩ := dp_lst r2
    have n := n1.trans n2
    exact ⟨l, m, vs, ws, rfl, rfl, n2.bh.sl h2, n2.bh.sl h4, by rw [dps_len h3, dps_len h5]; exact hl, fun p hp => q p _ B2 _ (n.trans (.lay n.bh hp)) (n.hh.none hp) (n.bh.none hp) upd_same (dps_app h3 h5)⟩)
theorem dps_flat {K : PySem.W.Frag} {H : Hp} {vs : List V} {ds : List D} (h : DpAll K H vs ds) : ∀ n : Nat, DpAll K H (List.replicate n vs).flatten (List.replicate n ds).flatten
  | 0 => .nil
  | n + 1 => by
    rw [List.replicate_succ, List.replicate_succ, List.flatten_cons, List.flatten_cons]
    exact dps_app h (dps_flat h n)
theorem goN_rep {k : Int} (ha : GoN X Γ a ds) (hb : Go X Γ b (.int k)) (h1 : -(2 ^ 63) ≤ k) (h2 : k < 2 ^ 63) (hl : ds.length * k.toNat ≤ sizeLine) : GoN X Γ (.BinOp a .Mult b pos) (List.replicate k.toNat ds).flatten := .mk fun σ B H Fs E Q q =>
  toE (pe_op op_rep sE sE) (ha σ B H Fs E _ fun l vs B1 H1 n1 hp1 hb1 hH1 hd1 => hb σ B1 H1 Fs (E.nw n1) _ fun w B2 H2 n2 r2 => by
    have n := n1.trans n2
    exact ⟨l, k, vs, rfl, dp_int r2, n2.hh _ _ hH1, h1, h2, by rw [dps_len hd1]; exact hl, fun p hp => q p _ B2 _ (n.trans (.lay n.bh hp)) (n.hh.none hp) (n.bh.none hp) upd_same (dps_flat (dpsUp n2.bb hd1) _)⟩)
end
/-! ### some x -/
def exP {α : Type} (p : α → Prop) (R : α → Mn) : Mn := ⟨fun K H v => ∃ x, p x ∧ (R x).p K H v, fun e ⟨x, h, r⟩ => ⟨x, h, (R x).up e r⟩⟩
section
variable {X : Cx} {J : Jd} {N : Nd} {Γ Γ1 Γ2 : Ga} {e a b c tg iter : Expr} {es : List Expr} {st : Stmt} {sts rest body : List Stmt} {P : Mn} {d : D} {ds : List D} {pos : Pos} {k : Bool}
theorem go_ex {α : Type} {p : α → Prop} {R : α → Mn} (x : α) (hx : p x) (h : GoP X Γ e (R x)) : GoP X Γ e (exP p R) := goP_imp h fun _ _ _ r => ⟨x, hx, r⟩
theorem goix_list {α : Type} {p : α → Prop} {enc : α → List D} (h : GoP X Γ iter (exP p fun x => datP (.list (enc x)))) : GoIx X Γ tg iter fun ds => ∃ x, p x ∧ ds = enc x := .mk fun σ B H Fs E R q =>
  toI (pi_list sE) (h σ B H Fs E _ fun v B2 H2 n r => by
    obtain ⟨x, hx, r⟩ := r
    obtain ⟨a, vs, rfl, h2, h3⟩ := dp_lst r
    refine ⟨a, rfl, ⟨vs, n.bh.sl h2⟩, q _ B2 H2 _ ⟨x, hx, rfl⟩ n ⟨fun i H' hi hB => ?_, fun H' hB => ⟨vs, hB.sl h2, by rw [dps_len h3]; exact Nat.le_refl _⟩, fun i H' x H2 Bc d hd hB hC y => ?_⟩⟩
    · obtain ⟨u, e1, _⟩ := dps_get h3 (List.getElem?_eq_getElem hi)
      exact ⟨vs, u, hB.sl h2, e1⟩
    · obtain ⟨e1, y⟩ := y
      subst e1
      obtain ⟨d', e3, e4⟩ := dps_getv h3 (y vs ((hB.trans hC).sl h2))
      rw [hd] at e3
      cases e3
      exact ⟨Bc, .same hC, dpUp hB e4⟩)
theorem goix_list' {p : List D → Prop} (h : GoP X Γ iter (exP p fun ds => datP (.list ds))) : GoIx X Γ tg iter p := .mk fun σ B H Fs E R q =>
  goix_list (enc := id) h σ B H Fs E R fun I B2 H2 ds ⟨x, hx, e⟩ n it => q I B2 H2 ds (e ▸ hx) n it
theorem en_ex {α : Type} {p : α → Prop} {R : α → Mn} {K B H σ Fs} {i : Nat} (hΓ : Γ[i]? = some (.pr (exP p R))) (E : En K B H σ Γ Fs) : ∃ x, p x ∧ En K B H σ (Γ.set i (.pr (R x))) Fs := by
  obtain ⟨v, h1, x, hx, r⟩ := E.at_ i _ hΓ
  refine ⟨x, hx, E.bh, by rw [List.length_set]; exact E.len, fun j s hs => ?_, E.fre, E.dis⟩
  by_cases e : j = i
  · subst e
    have hl : j < Γ.length := by
      by_cases hl : j < Γ.length
      · exact hl
      · rw [List.getElem?_eq_none (by omega)] at hΓ
        cases hΓ
    rw [List.getElem?_set_self hl] at hs
    cases hs
    exact ⟨v, h1, r⟩
  · rw [List.getElem?_set_ne (Ne.symm e)] at hs
    exact E.at_ j s hs
theorem rn_ex {α : Type} {p : α → Prop} {R : α → Mn} (i : Nat) (hΓ : Γ[i]? = some (.pr (exP p R))) (h : ∀ x, p x → Rn X J N (Γ.set i (.pr (R x))) sts) : Rn X J N Γ sts := .mk fun B0 σ B H Fs E j => by
  obtain ⟨x, hx, E'⟩ := en_ex hΓ E
  exact h x hx B0 σ B H Fs E' j
/-- a set of slots between two statements -/
theorem rs_cut (M : Ga → Prop) (h : RnS X J { N with nx := M } Γ st) (h2 : ∀ Γ', M Γ' → N.nx Γ') : RnS X J N Γ st := .mk fun B0 σ B H Fs E j =>
  wpS_mono (h B0 σ B H Fs E j) (fun σ' H' ⟨B', Γ', Fs', p1, p2, p3⟩ => ⟨B', Γ', Fs', p1, p2, h2 Γ' p3⟩) (fun _ _ z => z) (fun _ _ z => z) fun _ _ z => z
theorem rng_get {lo hi : Int} {k : Nat} {d : D} (h : ((rngI lo hi).map PyData.int)[k]? = some d) : k < (hi - lo).toNat ∧ d = .int (lo + (k : Nat)) := by
  unfold rngI at h
  by_cases hk : k < (hi - lo).toNat
  · simp only [List.map_map, List.getElem?_map, List.getElem?_range hk, Option.map_some, Option.some.injEq, Function.comp] at h
    exact ⟨hk, h.symm⟩
  · rw [List.getElem?_eq_none (by rw [List.length_map, List.length_map, List.length_range]; omega)] at h
    cases h
theorem rng_len {lo hi : Int} : ((rngI lo hi).map PyData.int).length = (hi - lo).toNat := by
  unfold rngI
  rw [List.length_map, List.length_map, List.length_range]
theorem ltZ {n : Nat} (h : n < 1000000) : n < sizeLine := Nat.lt_of_lt_of_le h (by decide)
theorem leZ {n : Nat} (h : n ≤ 1000000) : n ≤ sizeLine := Nat.le_trans h (by decide)
theorem cut63 (ns : List Int) : slD (ns.map PyData.int) none (some 63) = (ns.take 63).map .int := by
  have h : HT.sIx (ns.map PyData.int).length (ns.map PyData.int).length (some 63) = min 63 (ns.map PyData.int).length := HT.sIx_nat _ _ 63
  unfold slD
  rw [h, HT.sIx_none, List.drop_zero, Nat.sub_zero, List.map_take, List.take_eq_take_iff]
  omega
theorem cutHi (ns : List D) (n : Nat) : slD ns none (some (n : Int)) = ns.take n := by
  have h : HT.sIx ns.length ns.length (some (n : Int)) = min n ns.length := HT.sIx_nat _ _ n
  unfold slD
  rw [h, HT.sIx_none, List.drop_zero, Nat.sub_zero, List.take_eq_take_iff]
  omega
/-- the list ds is of k ints that p has -/
def IntsD (p : Int → Prop) (k : Nat) (ds : List D) : Prop := ∃ ns : List Int, ds = ns.map .int ∧ ns.length = k ∧ ∀ x ∈ ns, p x
theorem IntsD.nil {p : Int → Prop} : IntsD p 0 [] := ⟨[], rfl, rfl, fun _ h => nomatch h⟩
theorem IntsD.len {p : Int → Prop} {k : Nat} {ds : List D} (h : IntsD p k ds) : ds.length = k := by
  obtain ⟨ns, h1, h2, _⟩ := h
  rw [h1, List.length_map, h2]
theorem IntsD.push {p : Int → Prop} {k : Nat} {ds : List D} {z : Int} (h : IntsD p k ds) (hz : p z) : IntsD p (k + 1) (ds ++ [.int z]) := by
  obtain ⟨ns, h1, h2, h3⟩ := h
  refine ⟨ns ++ [z], by rw [h1, List.map_append]; rfl, by rw [List.length_append, h2, List.length_singleton], fun x hx => ?_⟩
  rcases List.mem_append.mp hx with hx | hx
  · exact h3 x hx
  · rw [List.mem_singleton.mp hx]
    exact hz
theorem IntsD.get {p : Int → Prop} {k i : Nat} {ds : List D} {d : D} (h : IntsD p k ds) (hd : ds[i]? = some d) : ∃ z, d = .int z ∧ p z ∧ i < k := by
  obtain ⟨ns, h1, h2, h3⟩ := h
  rw [h1, List.getElem?_map] at hd
  cases q : ns[i]? with
  | none =>
    rw [q] at hd
    cases hd
  | some z =>
    rw [q] at hd
    cases hd
    exact ⟨z, rfl, h3 z (List.mem_of_getElem? q), by
      rw [← h2]
      exact (List.getElem?_eq_some_iff.mp q).1⟩
/-- calm: which built-in names are still the built-in ones -/
structure Bt (mg : Str → Option Value) : Prop where
  abs : mg "abs" = none
  int : mg "int" = none
  len : mg "len" = none
  max : mg "max" = none
  range : mg "range" = none
  list : mg "list" = none
  all : mg "all" = none
  any : mg "any" = none
  sum : mg "sum" = none
  tuple : mg "tuple" = none
  sorted : mg "sorted" = none
  set : mg "set" = none
  enumerate : mg "enumerate" = none
  zip : mg "zip" = none
  isinstance : mg "isinstance" = none
  str : mg "str" = none
  bool : mg "bool" = none
  min : mg "min" = none
end
end PL

set_option maxHeartbeats 2000000
namespace PL
open PySem PySem.Spec PyProof.Rows L2
/-! ### the shape of data -/
def Shp (n : Nat) (d : D) : Prop := d.canLay0 = true ∧ d.depth ≤ n
theorem Shp.ok {n : Nat} {d : D} (h : Shp n d) (hn : n ≤ 64 := by decide) : SeqAt.shaped d = true := by
  unfold SeqAt.shaped
  rw [h.1, Bool.true_and]
  exact decide_eq_true (Nat.le_trans h.2 hn)
theorem Shp.up {n m : Nat} {d : D} (h : Shp n d) (hm : n ≤ m) : Shp m d := ⟨h.1, Nat.le_trans h.2 hm⟩
theorem Shp.int (i : Int) (n : Nat) : Shp n (.int i) := ⟨rfl, Nat.zero_le _⟩
theorem Shp.bool (i : Bool) (n : Nat) : Shp n (.bool i) := ⟨rfl, Nat.zero_le _⟩
theorem Shp.non (n : Nat) : Shp n .none := ⟨rfl, Nat.zero_le _⟩
theorem shp_all {n : Nat} : ∀ {ds : List D}, (∀ d ∈ ds, Shp n d) → PyData.canLayAll0 ds = true ∧ PyData.depthAll ds ≤ n
  | [], _ => ⟨rfl, Nat.zero_le _⟩
  | d :: r, h => by
    have h1 := h d List.mem_cons_self
    have h2 := shp_all fun x hx => h x (List.mem_cons_of_mem _ hx)
    refine ⟨?_, ?_⟩
    · show (d.canLay0 && PyData.canLayAll0 r) = true
      rw [h1.1, h2.1]
      rfl
    · show max d.depth (PyData.depthAll r) ≤ n
      exact Nat.max_le.mpr ⟨h1.2, h2.2⟩
theorem Shp.list {n : Nat} {ds : List D} (h : ∀ d ∈ ds, Shp n d) : Shp (n + 1) (.list ds) := ⟨(shp_all h).1, Nat.succ_le_succ (shp_all h).2⟩
theorem Shp.tup {n : Nat} {ds : List D} (h : ∀ d ∈ ds, Shp n d) : Shp (n + 1) (.tuple ds) := ⟨(shp_all h).1, Nat.succ_le_succ (shp_all h).2⟩
theorem Shp.ints (ns : List Int) (n : Nat) : Shp (n + 1) (.list (ns.map .int)) := Shp.list fun d hd => by
  obtain ⟨i, _, rfl⟩ := List.mem_map.mp hd
  exact Shp.int i n
theorem Shp.all2 {n : Nat} {a b : D} (ha : Shp n a) (hb : Shp n b) : ∀ d ∈ [a, b], Shp n d := fun d hd => by
  rcases List.mem_cons.mp hd with e | hd
  · rw [e]
    exact ha
  · rw [List.mem_singleton.mp hd]
    exact hb
/-! ### == of data -/
theorem eqv_int (i j : Int) : PyData.eqv (.int i) (.int j) = (i == j) := by simp [PyData.eqv]
theorem eqv_str (i j : Str) : PyData.eqv (.str i) (.str j) = (i == j) := by simp [PyData.eqv]
theorem eqv_bool (i j : Bool) : PyData.eqv (.bool i) (.bool j) = (i == j) := by simp [PyData.eqv]
theorem eqv_list (xs ys : List D) : PyData.eqv (.list xs) (.list ys) = PyData.eqvAll xs ys := by simp [PyData.eqv]
theorem eqv_tup (xs ys : List D) : PyData.eqv (.tuple xs) (.tuple ys) = PyData.eqvAll xs ys := by simp [PyData.eqv]
theorem eqvAll_nil : PyData.eqvAll [] [] = true := by simp [PyData.eqvAll]
theorem eqvAll_cons (x y : D) (xs ys : List D) : PyData.eqvAll (x :: xs) (y :: ys) = (PyData.eqv x y && PyData.eqvAll xs ys) := by simp [PyData.eqvAll]
mutual
/-- data without dicts is equal to itself -/
theorem eqv_refl : ∀ {d : D}, d.canLay0 = true → PyData.eqv d d = true
  | .none, _ => by simp [PyData.eqv]
  | .bool b, _ => by simp [PyData.eqv]
  | .int i, _ => by simp [PyData.eqv]
  | .str x, _ => by simp [PyData.eqv]
  | .list xs, h => by
    rw [eqv_list]
    exact eqvAll_refl h
  | .tuple xs, h => by
    rw [eqv_tup]
    exact eqvAll_refl h
  | .dict _, h => by cases h
theorem eqvAll_refl : ∀ {ds : List D}, PyData.canLayAll0 ds = true → PyData.eqvAll ds ds = true
  | [], _ => eqvAll_nil
  | d :: r, h => by
    have h : (d.canLay0 && PyData.canLayAll0 r) = true := h
    rw [Bool.and_eq_true] at h
    rw [eqvAll_cons, eqv_refl h.1, eqvAll_refl h.2]
    rfl
end
theorem hasD_ints (ns : List Int) (i : Int) : hasD (ns.map .int) (.int i) = ns.contains i := by
  unfold hasD
  induction ns with
  | nil => rfl
  | cons n r ih =>
    rw [List.map_cons, List.any_cons, ih, eqv_int, List.contains_cons]
    congr 1
    exact Bool.eq_iff_iff.mpr ⟨fun h => by simpa using (beq_iff_eq.mp h).symm, fun h => by simpa using (beq_iff_eq.mp h).symm⟩
theorem eqvAll_ints : ∀ ns ms : List Int, PyData.eqvAll (ns.map .int) (ms.map .int) = (ns == ms)
  | [], [] => eqvAll_nil
  | [], _ :: _ => by simp [PyData.eqvAll]
  | _ :: _, [] => by simp [PyData.eqvAll]
  | n :: r, m :: s => by
    rw [List.map_cons, List.map_cons, eqvAll_cons, eqv_int, eqvAll_ints r s]
    rfl
theorem atI_intsLast (ns : List Int) (z : Int) : atI ((ns ++ [z]).map PyData.int) (-1) = some (.int z) := by
  rw [List.map_append]
  exact atI_last _ _
theorem atI_get' {ds : List D} {k : Nat} {d : D} (h : ds[k]? = some d) {i : Int} (hi : i = (k : Int)) : atI ds i = some d := by
  rw [hi]
  exact atI_nat h
end PL

set_option maxHeartbeats 2000000
namespace PL
open PySem PySem.Spec PyProof.Rows L2
/-! ### things of our own, at large -/
def ovl (B H : Hp) (F : List Addr) : Hp := fun a => if a ∈ F then H a else B a
theorem ovl_in {B H : Hp} {F : List Addr} {a : Addr} (h : a ∈ F) : ovl B H F a = H a := if_pos h
theorem ovl_out {B H : Hp} {F : List Addr} {a : Addr} (h : a ∉ F) : ovl B H F a = B a := if_neg h
theorem ovl_ex {B H : Hp} {F : List Addr} (hF : ∀ a ∈ F, B a = none) : Ex B (ovl B H F) := fun a o e => by
  rw [ovl_out fun z => by rw [hF a z] at e; cases e]
  exact e
theorem ovl_exH {B H : Hp} {F : List Addr} (hB : Ex B H) : Ex (ovl B H F) H := fun a o e => by
  by_cases h : a ∈ F
  · rw [ovl_in h] at e
    exact e
  · rw [ovl_out h] at e
    exact hB a o e
/-- P frozen is the data d -/
def Fz (P : Ow) (d : D) : Prop := ∀ K B H v F, P.p K B H v F → (∀ a ∈ F, B a = none) → Dp K (ovl B H F) v d
theorem fz_lst (ds : List D) : Fz (lstO ds) (.list ds) := fun K B H v F h hF => by
  obtain ⟨a, vs, rfl, h2, h3, h4⟩ := h
  exact .lst (.of (by rw [ovl_in (by rw [h2]; exact List.mem_cons_self)]; exact h3)) (dpsUp (ovl_ex hF) h4)
section
variable {K : PySem.W.Frag} {B H B2 H2 : Hp} {σ : L2.St} {Γ : Ga} {Fs : Nat → List Addr} {P : Ow} {d : D}
theorem En.iceO {i : Nat} (E : En K B H σ Γ Fs) (hΓ : Γ[i]? = some (.ob P)) (hz : Fz P d) : En K (ovl B H (Fs i)) H σ (Γ.set i (.dat d)) (off Fs i []) := by
  obtain ⟨v, h1, h2⟩ := E.at_ i _ hΓ
  have e1 : Ex B (ovl B H (Fs i)) := ovl_ex fun a ha => (E.fre i a ha).1
  refine ⟨ovl_exH E.bh, by rw [List.length_set, E.len], fun j s hs => ?_, fun j b hb' => ?_, fun j k b h1 h2 => E.dis j k b (off_sub h1) (off_sub h2)⟩
  · by_cases e : j = i
    · subst e
      have hl : j < Γ.length := by
        by_cases hl : j < Γ.length
        · exact hl
        · rw [List.getElem?_eq_none (by omega)] at hΓ
          cases hΓ
      rw [List.getElem?_set_self hl] at hs
      cases hs
      exact ⟨v, h1, hz _ _ _ _ _ h2 fun a ha => (E.fre j a ha).1⟩
    · rw [List.getElem?_set_ne (Ne.symm e)] at hs
      rw [off_ne e]
      have := E.at_ j s hs
      cases s with
      | any => trivial
      | pr P =>
        obtain ⟨v, h1, h2⟩ := this
        exact ⟨v, h1, P.up e1 h2⟩
      | ob P =>
        obtain ⟨v, h1, h2⟩ := this
        exact ⟨v, h1, P.upB e1 h2⟩
  · have hj : j ≠ i := fun e => by
      rw [e, off_same] at hb'
      cases hb'
    rw [off_ne hj] at hb'
    refine ⟨?_, (E.fre j b hb').2⟩
    have ne : b ∉ Fs i := fun z => hj (E.dis j i b hb' z)
    rw [ovl_out ne]
    exact (E.fre j b hb').1
end
/-- an expression that gives a new thing -/
structure GoU (X : Cx) (Γ : Ga) (e : Expr) (P : Ow) : Prop where
  run : ∀ σ B H Fs, En X.K B H σ Γ Fs → ∀ Q : VK,
  (∀ v F B2 H2, Nw B H B2 H2 → P.p X.K B2 H2 v F → (∀ a ∈ F, H a = none ∧ B2 a = none) → Q v H2) → wpE X e σ H Q
instance {X : Cx} {Γ : Ga} {e : Expr} {P : Ow} : CoeFun (GoU X Γ e P) fun _ => ∀ σ B H Fs, En X.K B H σ Γ Fs → ∀ Q : VK,
    (∀ v F B2 H2, Nw B H B2 H2 → P.p X.K B2 H2 v F → (∀ a ∈ F, H a = none ∧ B2 a = none) → Q v H2) → wpE X e σ H Q := ⟨GoU.run⟩
section
variable {X : Cx} {J : Jd} {N : Nd} {Γ Γ1 Γ2 : Ga} {e a b c tg iter : Expr} {es : List Expr} {st : Stmt} {sts rest body : List Stmt} {P : Ow} {d : D} {ds : List D} {pos : Pos} {k : Bool}
theorem goU_of_N (h : GoN X Γ e ds) : GoU X Γ e (lstO ds) := .mk fun σ B H Fs E Q q => h σ B H Fs E Q fun p vs B2 H2 n hp hb hH hd => q _ [p] B2 H2 n ⟨p, vs, rfl, rfl, hH, hd⟩ fun a ha => by
  rw [List.mem_singleton.mp ha]
  exact ⟨hp, hb⟩
theorem goN_of_U (h : GoU X Γ e (lstO ds)) : GoN X Γ e ds := .mk fun σ B H Fs E Q q => h σ B H Fs E Q fun v F B2 H2 n ⟨p, vs, e1, e2, e3, e4⟩ hF => by
  subst e1
  obtain ⟨h1, h2⟩ := hF p (by rw [e2]; exact List.mem_cons_self)
  exact q p vs B2 H2 n h1 h2 e3 e4
theorem go_of_U (h : GoU X Γ e P) (hz : Fz P d) : Go X Γ e d := .mk fun σ B H Fs E Q q => h σ B H Fs E Q fun v F B2 H2 n hv hF => by
  refine q v (ovl B2 H2 F) H2 ⟨n.bb.trans (ovl_ex fun a ha => (hF a ha).2), ovl_exH n.bh, n.hh, fun a h1 h2 => ?_⟩ (hz _ _ _ _ _ hv fun a ha => (hF a ha).2)
  rw [ovl_out fun z => h2 (hF a z).1]
  exact n.nu a h1 h2
theorem rs_ownU (i : Nat) {x : Str} {p' : Pos} (he : GoU X Γ e P) (h : N.nx (Γ.set i (.ob P))) (hN : X.N.Nodup) (hi : X.N[i]? = some x := by rfl) (hx : Loc X.env.scope x := by first | exact .inl rfl | exact .inr rfl)
    (hs : swapsWith e (some (.Name x p')) pos.line X.env = pure false := by rfl) (hf : X.fn x = true ∨ X.env.scope.names.lookup x = some .local := by first | exact .inl rfl | exact .inr rfl) : RnS X J N Γ (.Assign [.Name x p'] e pos) := .mk fun B0 σ B H Fs E j =>
  toS (ps_set hN hi hx sE hs hf) (he σ B H Fs E _ fun v F B2 H2 n hv hF => ⟨B2, _, _, (E.nw n).setO (P := P) (F := F) i hv (fun a ha => (hF a ha).2)
    (fun k a ha hm => (E.fre k a ha).2 (hF a hm).1), (j.nw n).lay fun a ha => by
      cases q : J.H a with
      | none => rfl
      | some o => exact absurd (hF a ha).1 (j.h1 a (by rw [q]; exact fun z => nomatch z)), h⟩)
theorem rn_iceO (i : Nat) (hΓ : Γ[i]? = some (.ob P)) (hz : Fz P d) (hi : i ∉ J.S) (h : Rn X J N (Γ.set i (.dat d)) sts) : Rn X J N Γ sts := .mk fun B0 σ B H Fs E j => by
  have E2 := E.iceO hΓ hz
  have e1 : Ex B (ovl B H (Fs i)) := ovl_ex fun a ha => (E.fre i a ha).1
  refine h B0 σ _ H _ E2 ⟨j.b0.trans e1, fun b h1 h2 => ?_, j.h0, j.h1, fun k a ha => j.fm k a (off_sub ha)⟩
  by_cases q : b ∈ Fs i
  · rcases j.fm i b q with z | z
    · exact z
    · exact absurd z.2 hi
  · rw [ovl_out q] at h1
    exact j.nb b h1 h2
theorem th_run {i : Nat} (hΓ : Γ[i]? = some (.ob P)) (hz : Fz P d) {σ B H Fs} (E : En X.K B H σ Γ Fs) : ∃ B' Fs', En X.K B' H σ (Γ.set i (.dat d)) Fs' := ⟨_, _, E.iceO hΓ hz⟩
theorem go_thI (i : Nat) {n : Int} (hΓ : Γ[i]? = some (.ob P)) (hz : Fz P d) (h : Go X (Γ.set i (.dat d)) e (.int n)) : Go X Γ e (.int n) := .mk fun σ B H Fs E Q q => by
  obtain ⟨B', Fs', E'⟩ := th_run hΓ hz E
  exact h σ B' H Fs' E' Q fun v B2 H2 n r => by
    rw [dp_int r]
    exact q _ B H2 ⟨.refl _, E.bh.trans n.hh, n.hh, fun _ h _ => h⟩ (Dp.int _)
theorem go_thB (i : Nat) {n : Bool} (hΓ : Γ[i]? = some (.ob P)) (hz : Fz P d) (h : Go X (Γ.set i (.dat d)) e (.bool n)) : Go X Γ e (.bool n) := .mk fun σ B H Fs E Q q => by
  obtain ⟨B', Fs', E'⟩ := th_run hΓ hz E
  exact h σ B' H Fs' E' Q fun v B2 H2 n r => by
    rw [dp_bl r]
    exact q _ B H2 ⟨.refl _, E.bh.trans n.hh, n.hh, fun _ h _ => h⟩ (Dp.bl _)
theorem goT_th (i : Nat) (hΓ : Γ[i]? = some (.ob P)) (hz : Fz P d) (h : GoT X (Γ.set i (.dat d)) e k) : GoT X Γ e k := .mk fun σ B H Fs E Q q => by
  obtain ⟨B', Fs', E'⟩ := th_run hΓ hz E
  exact h σ B' H Fs' E' Q fun B2 H2 n => q B H2 ⟨.refl _, E.bh.trans n.hh, n.hh, fun _ h _ => h⟩
/-- handed back: the new thing of the slot i -/
theorem rs_retO (i : Nat) {x : Str} {p' : Pos} (hΓ : Γ[i]? = some (.ob P)) (hn : N.rn = some P) (hi : i ∉ J.S) (hN : X.N[i]? = some x := by rfl) (hv : Vis X.env.scope x := by first | exact Or.inl rfl | exact Or.inr (Or.inl rfl) | exact Or.inr (Or.inr rfl))
    (hd : (x == ("__debug__" : Str)) = false := by decide) (hcd : (x == ("__classdict__" : Str)) = false := by decide) (hG : N.rG Γ := by exact trivial) : RnS X J N Γ (.Return (some (.Name x p')) pos) := .mk fun B0 σ B H Fs E j => by
  obtain ⟨v, h1, h2⟩ := E.at_ i _ hΓ
  refine toS (ps_ret (pe_var hN hv hd hcd)) ⟨v, h1, σ, B, Γ, Fs, E, j, hG, ?_⟩
  rw [hn]
  refine ⟨Fs i, h2, fun a ha => ⟨?_, (E.fre i a ha).1⟩, fun m hm a ha hb => hi (E.dis m i a hb ha ▸ hm)⟩
  rcases j.fm i a ha with z | z
  · exact z
  · exact absurd z.2 hi
/-- handed back: a new thing -/
theorem rs_retU (h : GoU X Γ e P) (hn : N.rn = some P := by rfl) (hG : N.rG Γ := by exact trivial) : RnS X J N Γ (.Return (some e) pos) := .mk fun B0 σ B H Fs E j =>
  toS (ps_ret sE) (h σ B H Fs E _ fun v F B2 H2 n hv hF => ⟨σ, B2, Γ, Fs, E.nw n, j.nw n, hG, by
    rw [hn]
    refine ⟨F, hv, fun a ha => ⟨?_, (hF a ha).2⟩, fun m _ a ha hb => (E.fre m a hb).2 (hF a ha).1⟩
    cases q : J.H a with
    | none => rfl
    | some o => exact absurd (hF a ha).1 (j.h1 a (by rw [q]; exact fun z => nomatch z))⟩)

/-! ### a list of lists of our own -/
inductive LLs (K : PySem.W.Frag) (B H : Hp) : List Addr → List (List D) → Prop
  | nil : LLs K B H [] []
  | cons {p : Addr} {us : List V} {ps : List Addr} {ds : List D} {dss : List (List D)} : H p = some (.lst us) → DpAll K B us ds → LLs K B H ps dss → LLs K B H (p :: ps) (ds :: dss)
theorem LLs.mono {K : PySem.W.Frag} {B B' H H' : Hp} (eB : Ex B B') : ∀ {ps : List Addr} {dss : List (List D)}, LLs K B H ps dss → (∀ a ∈ ps, H' a = H a) → LLs K B' H' ps dss
  | _, _, .nil, _ => .nil
  | _, _, .cons h1 h2 t, h => .cons ((h _ List.mem_cons_self).trans h1) (dpsUp eB h2) (LLs.mono eB t fun a ha => h a (List.mem_cons_of_mem _ ha))
theorem LLs.dom {K : PySem.W.Frag} {B H : Hp} : ∀ {ps : List Addr} {dss : List (List D)}, LLs K B H ps dss → ∀ a ∈ ps, H a ≠ none
  | _, _, .cons h1 h2 t, a, ha => by
    rcases List.mem_cons.mp ha with e | e
    · rw [e, h1]
      exact fun z => nomatch z
    · exact t.dom a e
theorem LLs.dps {K : PySem.W.Frag} {B H : Hp} {B' : Hp} (eB : Ex B B') : ∀ {ps : List Addr} {dss : List (List D)}, LLs K B H ps dss → (∀ a ∈ ps, B' a = H a) → DpAll K B' (ps.map .ref) (dss.map .list)
  | _, _, .nil, _ => .nil
  | _, _, .cons h1 h2 t, h => .cons (.lst (.of ((h _ List.mem_cons_self).trans h1)) (dpsUp eB h2)) (LLs.dps eB t fun a ha => h a (List.mem_cons_of_mem _ ha))
theorem LLs.get {K : PySem.W.Frag} {B H : Hp} : ∀ {ps : List Addr} {dss : List (List D)} {i : Nat} {ds : List D}, LLs K B H ps dss → dss[i]? = some ds → ∃ p us, ps[i]? = some p ∧ H p = some (.lst us) ∧ DpAll K B us ds
  | _, _, 0, _, .cons h1 h2 _, e => by
    simp only [List.getElem?_cons_zero, Option.some.injEq] at e
    subst e
    exact ⟨_, _, rfl, h1, h2⟩
  | _, _, i + 1, ds, .cons _ _ t, e => by
    obtain ⟨p, us, h1, h2⟩ := t.get (i := i) (ds := ds) (by simpa using e)
    exact ⟨p, us, by simpa using h1, h2⟩
theorem LLs.set {K : PySem.W.Frag} {B H : Hp} {us : List V} {es : List D} (hd : DpAll K B us es) : ∀ {ps : List Addr} {dss : List (List D)} {i : Nat} {p : Addr}, LLs K B H ps dss → ps.Nodup → ps[i]? = some p → LLs K B (upd H p (.lst us)) ps (dss.set i es)
  | _, _, 0, _, .cons h1 h2 t, hn, e => by
    simp only [List.getElem?_cons_zero, Option.some.injEq] at e
    subst e
    exact .cons upd_same hd (t.mono (.refl _) fun a ha => upd_ne fun z => (List.nodup_cons.mp hn).1 (z ▸ ha))
  | _, _, i + 1, p, .cons h1 h2 t, hn, e => by
    have e' := by simpa using e
    have ne := List.mem_of_getElem? e'
    refine .cons ?_ h2 (LLs.set hd t (List.nodup_cons.mp hn).2 e')
    refine (upd_ne ?_).trans h1
    intro z
    rw [← z] at ne
    exact (List.nodup_cons.mp hn).1 ne
def llO (dss : List (List D)) : Ow where
  p := fun K B H v F => ∃ a ps, v = .ref a ∧ F = a :: ps ∧ H a = some (.lst (ps.map .ref)) ∧ F.Nodup ∧ LLs K B H ps dss
  upB := fun e ⟨a, ps, h1, h2, h3, h4, h5⟩ => ⟨a, ps, h1, h2, h3, h4, h5.mono e fun _ _ => rfl⟩
  loc := fun e ⟨a, ps, h1, h2, h3, h4, h5⟩ => ⟨a, ps, h1, h2, (e a (by rw [h2]; exact List.mem_cons_self)).trans h3, h4, h5.mono (.refl _) fun b hb => e b (by rw [h2]; exact List.mem_cons_of_mem _ hb)⟩
  dom := fun ⟨a, ps, h1, h2, h3, h4, h5⟩ b hb => by
    rw [h2] at hb
    rcases List.mem_cons.mp hb with e | e
    · rw [e, h3]
      exact fun z => nomatch z
    · exact h5.dom b e
theorem fz_ll (dss : List (List D)) : Fz (llO dss) (.list (dss.map .list)) := fun K B H v F h hF => by
  obtain ⟨a, ps, rfl, h2, h3, h4, h5⟩ := h
  exact .lst (.of (by rw [ovl_in (by rw [h2]; exact List.mem_cons_self)]; exact h3)) (h5.dps (ovl_ex hF) fun b hb => ovl_in (by rw [h2]; exact List.mem_cons_of_mem _ hb))
/-- arguments that are new lists -/
structure GoNs (X : Cx) (Γ : Ga) (es : List Expr) (dss : List (List D)) : Prop where
  run : ∀ σ B H Fs, En X.K B H σ Γ Fs → ∀ Q : List V → Hp → Prop,
  (∀ ps B2 H2, Nw B H B2 H2 → (∀ a ∈ ps, H a = none ∧ B2 a = none) → ps.Nodup → LLs X.K B2 H2 ps dss → Q (ps.map .ref) H2) → wpA X es σ H Q
instance {X : Cx} {Γ : Ga} {es : List Expr} {dss : List (List D)} : CoeFun (GoNs X Γ es dss) fun _ => ∀ σ B H Fs, En X.K B H σ Γ Fs → ∀ Q : List V → Hp → Prop,
    (∀ ps B2 H2, Nw B H B2 H2 → (∀ a ∈ ps, H a = none ∧ B2 a = none) → ps.Nodup → LLs X.K B2 H2 ps dss → Q (ps.map .ref) H2) → wpA X es σ H Q := ⟨GoNs.run⟩
theorem gons_nil : GoNs X Γ [] [] := .mk fun σ B H Fs E Q q => toA pa_nil (q [] B H (.same E.bh) (fun _ z => nomatch z) List.nodup_nil .nil)
theorem gons_cons {dss : List (List D)} (he : GoN X Γ e ds) (ht : GoNs X Γ es dss) (hs : starEach (e :: es) X.env = (false, eval e X.env) :: starEach es X.env := by rfl) : GoNs X Γ (e :: es) (ds :: dss) := .mk fun σ B H Fs E Q q =>
  toA (pa_cons sE sA hs) (he σ B H Fs E _ fun p vs B1 H1 n1 hp hb hH hd => ht σ B1 H1 Fs (E.nw n1) _ fun ps B2 H2 n2 hps nd ll => by
    refine q (p :: ps) B2 H2 (n1.trans n2) (fun a ha => ?_) (List.nodup_cons.mpr ⟨fun z => ?_, nd⟩) (.cons (n2.hh _ _ hH) (dpsUp n2.bb hd) ll)
    · rcases List.mem_cons.mp ha with e | e
      · rw [e]
        exact ⟨hp, n2.nu p hb (by rw [hH]; exact fun z => nomatch z)⟩
      · exact ⟨n1.hh.none (hps a e).1, (hps a e).2⟩
    · have := (hps p z).1
      rw [hH] at this
      cases this)
theorem goU_ll {dss : List (List D)} (h : GoNs X Γ es dss) (hl : dss.length ≤ sizeLine := by show _ ≤ _; simp only [List.length]; decide) : GoU X Γ (.List es pos) (llO dss) := .mk fun σ B H Fs E Q q =>
  toE (pe_lst sA) (h σ B H Fs E _ fun ps B1 H1 n1 hps nd ll => by
    have len : ∀ {ps : List Addr} {dss : List (List D)}, LLs X.K B1 H1 ps dss → ps.length = dss.length := fun {ps dss} h => by
      induction h with
      | nil => rfl
      | cons _ _ _ ih => rw [List.length_cons, List.length_cons, ih]
    refine ⟨by rw [List.length_map, len ll]; exact hl, fun p hp => ?_⟩
    have np : p ∉ ps := fun z => ll.dom p z hp
    refine q _ (p :: ps) B1 _ (n1.trans (.lay n1.bh hp)) ⟨p, ps, rfl, rfl, upd_same, List.nodup_cons.mpr ⟨np, nd⟩, ll.mono (.refl _) fun a ha => upd_ne fun z => np (z ▸ ha)⟩ fun a ha => ?_
    rcases List.mem_cons.mp ha with e | e
    · rw [e]
      exact ⟨n1.hh.none hp, n1.bh.none hp⟩
    · exact hps a e)

/-! ### a list within a thing of our own, changed by a method -/
/-- e is a list ds within the thing P of the slot i; W: the thing with another list there -/
structure GoL (X : Cx) (Γ : Ga) (e : Expr) (i : Nat) (ds : List D) (W : List D → Ow) : Prop where
  run : ∀ σ B H Fs, En X.K B H σ Γ Fs → ∀ Q : VK,
  (∀ p vs v B2 H2, Nw B H B2 H2 → σ[i]? = some (some v) → p ∈ Fs i → H2 p = some (.lst vs) → DpAll X.K B2 vs ds →
    (∀ B' H', Ex B2 B' → (∀ a ∈ Fs i, H' a = H2 a) → ∀ us es, DpAll X.K B' us es → (W es).p X.K B' (upd H' p (.lst us)) v (Fs i)) → Q (.ref p) H2) → wpE X e σ H Q
instance {X : Cx} {Γ : Ga} {e : Expr} {i : Nat} {ds : List D} {W : List D → Ow} : CoeFun (GoL X Γ e i ds W) fun _ => ∀ σ B H Fs, En X.K B H σ Γ Fs → ∀ Q : VK,
    (∀ p vs v B2 H2, Nw B H B2 H2 → σ[i]? = some (some v) → p ∈ Fs i → H2 p = some (.lst vs) → DpAll X.K B2 vs ds →
      (∀ B' H', Ex B2 B' → (∀ a ∈ Fs i, H' a = H2 a) → ∀ us es, DpAll X.K B' us es → (W es).p X.K B' (upd H' p (.lst us)) v (Fs i)) → Q (.ref p) H2) → wpE X e σ H Q := ⟨GoL.run⟩
theorem gol_name (i : Nat) {x : Str} (hΓ : Γ[i]? = some (.own ds) := by rfl) (hN : X.N[i]? = some x := by rfl) (hv : Vis X.env.scope x := by first | exact Or.inl rfl | exact Or.inr (Or.inl rfl) | exact Or.inr (Or.inr rfl))
    (hd : (x == ("__debug__" : Str)) = false := by decide) (hcd : (x == ("__classdict__" : Str)) = false := by decide) : GoL X Γ (.Name x pos) i ds lstO := .mk fun σ B H Fs E Q q => by
  obtain ⟨a, vs, h1, h2, h3, h4, h5⟩ := E.own hΓ
  exact toE (pe_var hN hv hd hcd) ⟨_, h1, q a vs _ B H (.same E.bh) h1 (by rw [h3]; exact List.mem_cons_self) h2 h4 fun B' H' _ _ us es hu => ⟨a, us, rfl, h3, upd_same, hu⟩⟩
theorem gol_ix (i : Nat) {x : Str} {dss : List (List D)} {k : Nat} {j p2 p3} (hk : dss[k]? = some ds) (hΓ : Γ[i]? = some (.ob (llO dss)) := by rfl) (hN : X.N[i]? = some x := by rfl) (hv : Vis X.env.scope x := by first | exact Or.inl rfl | exact Or.inr (Or.inl rfl) | exact Or.inr (Or.inr rfl))
    (hd : (x == ("__debug__" : Str)) = false := by decide) (hcd : (x == ("__classdict__" : Str)) = false := by decide) : GoL X Γ (.Subscript (.Name x p2) (.Constant (.int (k : Nat)) j p3) pos) i ds fun es => llO (dss.set k es) := .mk fun σ B H Fs E Q q => by
  obtain ⟨v, h1, a, ps, e1, e2, e3, e4, e5⟩ := E.at_ i _ hΓ
  subst e1
  obtain ⟨p, us, f1, f2, f3⟩ := e5.get hk
  have hp : p ∈ ps := List.mem_of_getElem? f1
  have np : p ≠ a := fun z => by
    rw [e2] at e4
    exact (List.nodup_cons.mp e4).1 (z ▸ hp)
  refine toE (pe_ix ix_list (pe_var hN hv hd hcd) pe_int fun _ _ => rfl) ⟨_, h1, a, ps.map .ref, (k : Nat), .ref p, rfl, rfl, .of e3, atI_nat (by rw [List.getElem?_map, f1]; rfl), ?_⟩
  refine q p us _ B H (.same E.bh) h1 (by rw [e2]; exact List.mem_cons_of_mem _ hp) f2 f3 fun B' H' hB hH us es hu => ⟨a, ps, rfl, e2, ?_, e4, ?_⟩
  · rw [upd_ne (Ne.symm np), hH a (by rw [e2]; exact List.mem_cons_self)]
    exact e3
  · rw [e2] at e4
    exact (e5.mono hB fun b hb => hH b (by rw [e2]; exact List.mem_cons_of_mem _ hb)).set hu (List.nodup_cons.mp e4).2 f1
theorem En.chg {K B H σ Γ Fs} {i : Nat} {v : V} {p : Addr} {us : List V} {W : Ow} (E : En K B H σ Γ Fs) (hi : i < Γ.length) (hσ : σ[i]? = some (some v)) (hp : p ∈ Fs i) (hW : W.p K B (L2.upd H p (.lst us)) v (Fs i)) : En K B (L2.upd H p (.lst us)) σ (Γ.set i (.ob W)) Fs := by
  have hb : B p = none := (E.fre i p hp).1
  have nf : ∀ j, j ≠ i → p ∉ Fs j := fun j hj ha => hj (E.dis j i p ha hp)
  refine ⟨fun b u e => ?_, by rw [List.length_set, E.len], fun j s hs => ?_, fun j b hb' => ⟨(E.fre j b hb').1, fun z => ?_⟩, E.dis⟩
  · rw [upd_ne (ne_of_none e hb)]
    exact E.bh b u e
  · by_cases e : j = i
    · subst e
      rw [List.getElem?_set_self hi] at hs
      cases hs
      exact ⟨v, hσ, hW⟩
    · rw [List.getElem?_set_ne (Ne.symm e)] at hs
      have := E.at_ j s hs
      cases s with
      | any => trivial
      | pr P => exact this
      | ob P =>
        obtain ⟨v, h1, h2⟩ := this
        exact ⟨v, h1, P.loc (fun b hb' => upd_ne (show b ≠ p from fun z => nf j e (z ▸ hb'))) h2⟩
  · by_cases e : b = p
    · rw [e, upd_same] at z
      cases z
    · rw [upd_ne e] at z
      exact (E.fre j b hb').2 z
theorem rs_appL {i : Nat} {W : List D → Ow} {o : Expr} {ap cp : Pos} (ho : GoL X Γ o i ds W) (he : Go X Γ e d) (hl : ds.length < sizeLine) (h : N.nx (Γ.set i (.ob (W (ds ++ [d]))))) (hi : i < Γ.length)
    (hbase : attributeBase o "append" X.env (eval o X.env) = eval o X.env := by rfl)
    (hfew : ((backTo cp (starEach [e] X.env)).all (fun x => !x.1) && (backToKw cp (keywordEach [] X.env)).all (fun x => x.1.isSome)
      && decide ([e].length + ([] : List Keyword).length + (if ([] : List Keyword).isEmpty then 0 else 1) < 30)) = true := by rfl)
    (hline : (ap.endLine == cp.line) = true := by rfl) (hs : starEach [e] X.env = (false, eval e X.env) :: starEach [] X.env := by rfl) (hplain : (backTo cp (starEach [] X.env)).any (·.1) = false := by rfl)
    (hsw : swapsWith (.Call (.Attribute o "append" ap) [e] [] cp) none pos.line X.env = pure false := by rfl) : RnS X J N Γ (.Expr (.Call (.Attribute o "append" ap) [e] [] cp) pos) := .mk fun B0 σ B H Fs E j =>
  toS (ps_expr (pe_bm PySem.F.plainAttrs_list PySem.F.slot_list_append PySem.F.type_list_append mt_append sE (pa_cons sE pa_nil hs) hbase hfew hline hs hplain) hsw) (ho σ B H Fs E _ fun p vs v B1 H1 n1 hσ hp hH hd up => by
    refine ⟨.inl ⟨rfl, vs, .of hH⟩, he σ B1 H1 Fs (E.nw n1) _ fun w B2 H2 n2 r => ?_⟩
    have n := n1.trans n2
    have sm : ∀ a ∈ Fs i, H2 a = H1 a := fun a ha => by
      cases q : H1 a with
      | none => exact absurd q ((E.nw n1).fre i a ha).2
      | some o => exact n2.hh a o q
    refine ⟨p, vs, w, rfl, rfl, n2.hh _ _ hH, by rw [dps_len hd]; exact hl, B2, _, _, (E.nw n).chg hi hσ hp (up B2 H2 n2.bb sm _ _ (dps_app (dpsUp n2.bb hd) (.cons r .nil))), (j.nw n).upd ?_, h⟩
    rcases j.fm i p hp with z | z
    · exact .inl z
    · exact .inr z.1)
theorem rs_clearL {i : Nat} {W : List D → Ow} {o : Expr} {ap cp : Pos} (ho : GoL X Γ o i ds W) (h : N.nx (Γ.set i (.ob (W [])))) (hi : i < Γ.length)
    (hbase : attributeBase o "clear" X.env (eval o X.env) = eval o X.env := by rfl) (hline : (ap.endLine == cp.line) = true := by rfl)
    (hsw : swapsWith (.Call (.Attribute o "clear" ap) [] [] cp) none pos.line X.env = pure false := by rfl) : RnS X J N Γ (.Expr (.Call (.Attribute o "clear" ap) [] [] cp) pos) := .mk fun B0 σ B H Fs E j =>
  toS (ps_expr (pe_bm0 PySem.F.plainAttrs_list PySem.F.slot_list_clear PySem.F.type_list_clear mt_clear sE hbase hline) hsw) (ho σ B H Fs E _ fun p vs v B1 H1 n1 hσ hp hH hd up => by
    refine ⟨.inl ⟨rfl, vs, .of hH⟩, p, vs, rfl, rfl, hH, B1, _, _, (E.nw n1).chg hi hσ hp (up B1 H1 (.refl _) (fun _ _ => rfl) _ _ .nil), (j.nw n1).upd ?_, h⟩
    rcases j.fm i p hp with z | z
    · exact .inl z
    · exact .inr z.1)

/-! ### isinstance of data -/
def tyD : D → String
  | .none => "NoneType"
  | .bool _ => "bool"
  | .int _ => "int"
  | .str _ => "str"
  | .list _ => "list"
  | .tuple _ => "tuple"
  | .dict _ => "dict"
theorem dp_ty {K : PySem.W.Frag} {H : Hp} {v : V} {d : D} (h : Dp K H v d) : TyX K H v (.type (tyD d)) := by
  cases h with
  | non => exact .base .non
  | bl b => exact .base (.bl b)
  | int i => exact .base (.int i)
  | str x => exact .base (.str x)
  | lst h _ =>
    rcases h with (h | ⟨o, h⟩) | ⟨o, its, n, h1, h2, _⟩
    · exact .base (.lst h)
    · exact .base (.frz h)
    · exact .kList h1 h2
  | tup h _ =>
    rcases h with (h | ⟨o, h⟩) | ⟨o, its, n, h1, h2, _⟩
    · exact .base (.tup h)
    · exact .fTuple h
    · exact .kTuple h1 h2
theorem kit_list : kitB "list" "list" = some true := by decide +kernel
theorem kit_tup : kitB "tuple" "tuple" = some true := by decide +kernel
def tyP (n : String) : Mn := ⟨fun _ _ v => v = .ty n, fun _ h => h⟩
theorem go_ty {x : Str} {n : String} (hm : X.mg x = none) (hv : bootBuiltins x = some (.type n)) (hg : Gl X x := by rfl) (hn : x ≠ "__name__" := by decide) (hd : (x == ("__debug__" : Str)) = false := by decide) : GoP X Γ (.Name x pos) (tyP n) := .mk fun σ B H Fs E Q q =>
  toE (pe_bltn hg hm hv (v := .ty n) rfl hn hd) (q _ B H (.same E.bh) rfl)
theorem go_isi {x : Str} {n : String} {r : Bool} {p p2 : Pos} (ha : Go X Γ a d) (hmi : X.mg "isinstance" = none) (hm : X.mg x = none) (hv : bootBuiltins x = some (.type n)) (hr : kitB (tyD d) n = some r) (hgi : Gl X "isinstance" := by rfl) (hg : Gl X x := by rfl)
    (hn : x ≠ "__name__" := by decide) (hd : (x == ("__debug__" : Str)) = false := by decide) (he : starEach [a, .Name x p2] X.env = (false, eval a X.env) :: starEach [.Name x p2] X.env := by rfl) (he2 : starEach [.Name x p2] X.env = (false, eval (.Name x p2) X.env) :: starEach [] X.env := by rfl) :
    Go X Γ (.Call (.Name "isinstance" p) [a, .Name x p2] [] pos) (.bool r) :=
  go_callB call_isi hgi hmi PyProof.Rows.boot_isinstance (goA_cons ha (goA_cons (go_ty hm hv hg hn hd) goA_nil he2) he) (fun vs B H hB rr Q q => by
    obtain ⟨v, w, rfl, h, h2⟩ := mn2 rr
    have h2 : w = .ty n := h2
    subst h2
    exact ⟨v, .ty n, _, _, r, rfl, .ty n, dp_ty (dpUp hB h), kit_ty hr, q _ B H (.same hB) (Dp.bl _)⟩) (by decide) (by decide) he (by rw [he2]; rfl)
end
/-! ### a def that hands back a new thing -/
def spU {ι : Type} (K : PySem.W.Frag) (pre : ι → Prop) (ar : ι → List Mn) (rs : ι → Ow) : Sp := fun vs H Q _ => ∃ (i : ι) (B : Hp), pre i ∧ Ex B H ∧ MnAll K B vs (ar i) ∧ ∀ v F B2 H2, Nw B H B2 H2 → (rs i).p K B2 H2 v F → (∀ a ∈ F, H a = none ∧ B2 a = none) → Q v H2
section
variable {P : Program} {w : World} {K : PySem.W.Frag} {mg : Str → Option Value} {base : Heap}
theorem def_okU {x qual : Str} {st : Stmt} {f : Addr} {fd : FuncData} {L ps : List Str} {k : Nat} {ι : Type} {pre : ι → Prop} {ar : ι → List Mn} {rs : ι → Ow} (F : Fun K x qual st f fd) (S : FnScope L ps (defScope st)) (hl : ∀ i, (ar i).length = ps.length)
    (body : ∀ (i : ι), pre i → ∀ (cdv : Value) (A : Around) (outer : List Env) (s : Shared) (H : Hp) (E : XK), Room k (A.deeper (envOfC qual (defScope st) s.heap.objs.size f cdv)) → ∀ J : Jd, J.S = [] →
      Rn (cxOf CX0 P w K mg base L qual (defScope st) f cdv A outer s H E).nox J { nx := fun _ => False, rt := datP .none, rn := some (rs i) } (entry (ar i) L.length) (defBody st)) :
    FnOk P w K mg base CX0 (k + 1) f fd ps (spU K pre ar rs) := by
  refine F.ok S (fun vs H Q E h => ?_) fun cdv A outer s H vs Q E hr h => ?_
  · obtain ⟨i, B, _, _, h, _⟩ := h
    rw [mn_len h, hl]
  · obtain ⟨i, B, hp, hB, hv, q⟩ := h
    refine ⟨_, sSs, wpSs_mono (body i hp cdv A outer s H E hr ⟨H, [], []⟩ rfl B (L2.start L vs) B H (fun _ => []) (en_entry hB hv) ⟨.refl _, fun a h1 h2 => absurd h2 h1, fun a o h _ => h, fun a h => h, fun _ _ z => nomatch z⟩) ?_ ?_ ?_ ?_⟩
    · exact fun σ' H' ⟨B', Γ', Fs', e, j, n⟩ => n.elim
    · exact fun v H' ⟨σ', B', Γ', Fs', e, j, _, F, r1, r2, _⟩ => q v F B' H' ⟨j.b0, e.bh, fun a o h => j.h0 a o h (by simp), fun a h1 h2 => by
        cases r : B' a with
        | none => rfl
        | some o => exact absurd (j.nb a (by rw [r]; exact fun z => nomatch z) h1) h2⟩ r1 r2
    · exact fun σ' H' ⟨B', Γ', Fs', e, j, n⟩ => n.elim
    · exact fun σ' H' ⟨B', Γ', Fs', e, j, n⟩ => n.elim
end
section
variable {X : Cx} {Γ : Ga} {e : Expr} {es : List Expr} {pos p : Pos}
theorem goU_call {x : Str} {f : Addr} {fd : FuncData} {ps : List Str} {k : Nat} {ι : Type} {pre : ι → Prop} {ar : ι → List Mn} {rs : ι → Ow} {R : Ow} (i : ι) (F : FnOk X.prog X.w X.K X.mg X.base CX0 k f fd ps (spU X.K pre ar rs)) (hr : Room k X.A) (hm : X.mg x = some (.ref f)) (hk : PySem.W.keepIn X.K (.ref f) = true) (hb : Binds X.K fd ps [])
    (hp : pre i) (ha : GoA X Γ (e :: es) (ar i)) (hg : Gl X x := by rfl) (hdb : (x == ("__debug__" : Str)) = false := by decide) (he : starEach (e :: es) X.env = (false, eval e X.env) :: starEach es X.env := by rfl) (hpl : (backTo pos (starEach es X.env)).any (·.1) = false := by rfl) (hR : rs i = R := by rfl) :
    GoU X Γ (.Call (.Name x p) (e :: es) [] pos) R := .mk fun σ B H Fs E Q q =>
  toE (pe_call F hr hg hm hk hb .nil pass0 sA hdb he hpl) (ha σ B H Fs E _ fun vs B1 H1 n1 r1 => ⟨i, B1, hp, n1.bh, by rw [List.append_nil]; exact r1, fun v F B2 H2 n2 r2 r3 => q v F B2 H2 (n1.trans n2) (hR ▸ r2) fun a ha => ⟨n1.hh.none (r3 a ha).1, (r3 a ha).2⟩⟩)
end
end PL

set_option maxHeartbeats 2000000
namespace PL
open PySem PySem.Spec PyProof.Rows L2
/-! ### one rule a construct, whatever the kinds of data -/
local macro_rules | `(tactic| walk_at "pside") => `(tactic| first | exact True.intro | assumption | omega | decide | (refine ⟨?_, ?_⟩ <;> walk_at "pside") | walk_at "pshp" | (simp only [List.length_map, List.length_cons, List.length_nil, List.length_append]; omega))
local macro_rules | `(tactic| walk_at "pshp") => `(tactic| first | exact Shp.ok (by walk_at "psh"))
local macro_rules | `(tactic| walk_at "psh") => `(tactic| first | exact Shp.int _ 0 | exact Shp.bool _ 0 | exact Shp.non 0 | assumption | exact Shp.ints _ 0)
/-- ints that are small enough for a product -/
def MulOk (i j : Int) : Prop := (-(2 ^ 64) < i ∧ i < 2 ^ 64) ∨ (-(2 ^ 64) < j ∧ j < 2 ^ 64)
def BinOk (op : Operator) (x y d : D) : Prop := match op, x, y with
  | .Add, .int i, .int j => d = .int (i + j) ∧ True
  | .Add, .str a, .str b => d = .str (a ++ b) ∧ a.length + b.length ≤ sizeLine
  | .Add, .list a, .list b => d = .list (a ++ b) ∧ a.length + b.length ≤ sizeLine
  | .Add, .tuple a, .tuple b => d = .tuple (a ++ b) ∧ a.length + b.length ≤ sizeLine
  | .Sub, .int i, .int j => d = .int (i - j) ∧ True
  | .Mult, .int i, .int j => d = .int (i * j) ∧ ((-(2 ^ 64) < i ∧ i < 2 ^ 64) ∨ (-(2 ^ 64) < j ∧ j < 2 ^ 64))
  | .FloorDiv, .int i, .int j => d = .int (i / j) ∧ (0 < j ∧ j < 1073741824)
  | .Mod, .int i, .int j => d = .int (i % j) ∧ 0 < j
  | .Pow, .int i, .int j => d = .int (i ^ j.toNat) ∧ (0 ≤ j ∧ j ≤ 1000000 ∧ i.natAbs < 2 ^ 64)
  | .LShift, .int i, .int j => d = .int (i * 2 ^ j.toNat) ∧ (0 ≤ j ∧ j ≤ 1000000 ∧ i.natAbs < 2 ^ 64)
  | .RShift, .int i, .int j => d = .int (i / 2 ^ j.toNat) ∧ 0 ≤ j
  | .BitAnd, .int i, .int j => d = .int (Builtin.bitAnd i j) ∧ True
  | .BitOr, .int i, .int j => d = .int (Builtin.bitOr i j) ∧ True
  | .BitXor, .int i, .int j => d = .int (Builtin.bitXor i j) ∧ True
  | _, _, _ => False
section
variable {X : Cx} {J : Jd} {N : Nd} {Γ Γ1 Γ2 : Ga} {e a b c tg iter : Expr} {es rest : List Expr} {st : Stmt} {sts body : List Stmt} {P : Mn} {d x y z : D} {ds : List D} {pos p : Pos} {k l : Bool} {i : Nat}
theorem go_addT {us ws : List D} (ha : Go X Γ a (.tuple us)) (hb : Go X Γ b (.tuple ws)) (hl : us.length + ws.length ≤ sizeLine) : Go X Γ (.BinOp a .Add b pos) (.tuple (us ++ ws)) := go_op2 op_catA ha hb fun v w B H hB r1 r2 Q q => by
  obtain ⟨l, vs, rfl, h2, h3⟩ := dp_tup r1
  obtain ⟨m, zs, rfl, h4, h5⟩ := dp_tup r2
  refine ⟨l, m, vs, zs, rfl, rfl, hB.st h2, hB.st h4, by rw [dps_len h3, dps_len h5]; exact hl, fun e => ?_, fun e1 e2 => ?_, fun e1 e2 p hp => ?_⟩
  · subst e
    have e : us = [] := by
      cases h3
      rfl
    subst e
    exact q _ B H (.same hB) r2
  · subst e2
    have e : ws = [] := by
      cases h5
      rfl
    subst e
    rw [List.append_nil] at q
    exact q _ B H (.same hB) r1
  · have nn := Nw.new (o := .tup (vs ++ zs)) hB hp
    exact q _ _ _ nn (Dp.tup (.of upd_same) (dpsUp nn.bb (dps_app h3 h5)))
theorem gx_bin {op : Operator} (ha : Go X Γ a x) (hb : Go X Γ b y) (h : BinOk op x y d := by exact ⟨rfl, by walk_at "pside"⟩) : Go X Γ (.BinOp a op b pos) d := by
  cases op <;> cases x <;> cases y <;> (try exact h.elim) <;> obtain ⟨rfl, h⟩ := h
  · exact go_add ha hb
  · exact go_addS ha hb h
  · exact go_of_new (goN_cat ha hb h)
  · exact go_addT ha hb h
  · exact go_sub ha hb
  · exact go_mul ha hb h
  all_goals first
    | exact go_mod ha hb h
    | exact go_pow ha hb h
    | exact go_shl ha hb h
    | exact go_shr ha hb h
    | exact go_or ha hb
    | exact go_xor ha hb
    | exact go_and ha hb
    | exact go_fdiv ha hb h

/-! comparisons -/
def flatD : D → Bool
  | .none => true
  | .bool _ => true
  | .int _ => true
  | .str _ => true
  | _ => false
def CmpOk (op : CmpOp) (x y : D) (k : Bool) : Prop := match op, x, y with
  | .Lt, .int i, .int j => k = decide (i < j) ∧ True
  | .LtE, .int i, .int j => k = decide (i ≤ j) ∧ True
  | .Gt, .int i, .int j => k = decide (j < i) ∧ True
  | .GtE, .int i, .int j => k = decide (j ≤ i) ∧ True
  | .Lt, .str i, .str j => k = decide (i.cps.toList < j.cps.toList) ∧ True
  | .Eq, .int i, .int j => k = decide (i = j) ∧ True
  | .NotEq, .int i, .int j => k = (!decide (i = j)) ∧ True
  | .Eq, .str i, .str j => k = decide (i = j) ∧ True
  | .NotEq, .str i, .str j => k = (!decide (i = j)) ∧ True
  | .Eq, .bool i, .bool j => k = (i == j) ∧ True
  | .NotEq, .bool i, .bool j => k = (i != j) ∧ True
  | .Eq, x, y => k = PyData.eqv x y ∧ (SeqAt.shaped x = true ∧ SeqAt.shaped y = true)
  | .NotEq, x, y => k = (!PyData.eqv x y) ∧ (SeqAt.shaped x = true ∧ SeqAt.shaped y = true)
  | .In, x, .list ds => k = hasD ds x ∧ (SeqAt.shaped x = true ∧ SeqAt.shaped (.list ds) = true)
  | .NotIn, x, .list ds => k = (!hasD ds x) ∧ (SeqAt.shaped x = true ∧ SeqAt.shaped (.list ds) = true)
  | .In, x, .tuple ds => k = hasD ds x ∧ (flatD x = true ∧ ds.all flatD = true)
  | .NotIn, x, .tuple ds => k = (!hasD ds x) ∧ (flatD x = true ∧ ds.all flatD = true)
  | _, _, _ => False
theorem gc_ltS {i j : Str} (ha : Go X Γ a (.str i)) (hb : Go X Γ b (.str j)) : GoC X Γ .Lt a b (decide (i.cps.toList < j.cps.toList)) := go_cmp2 op_lt_str ha hb (fun v w B H hB r1 r2 Q q => by
  rw [dp_str r1, dp_str r2]
  exact ⟨i, j, rfl, rfl, q⟩)
theorem flat_eq {K : PySem.W.Frag} {H : Hp} {v w : V} {x y : D} (hv : Dp K H v x) (hw : Dp K H w y) (h1 : flatD x = true) (h2 : flatD y = true) : eqV v w = PyData.eqv x y ∧ flatV v = true ∧ flatV w = true := by
  cases hv <;> cases hw <;> first | (cases h1; done) | (cases h2; done) | (refine ⟨?_, rfl, rfl⟩; simp [eqV, PyData.eqv])
theorem flat_in {K : PySem.W.Frag} {H : Hp} {v : V} {x : D} (hv : Dp K H v x) (h1 : flatD x = true) : ∀ {vs : List V} {ds : List D}, DpAll K H vs ds → ds.all flatD = true → inV v vs = hasD ds x ∧ vs.all flatV = true
  | _, _, .nil, _ => ⟨rfl, rfl⟩
  | _, _, .cons (v := u) (d := d) h t, h2 => by
    rw [List.all_cons, Bool.and_eq_true] at h2
    obtain ⟨e1, e2⟩ := flat_in hv h1 t h2.2
    obtain ⟨f1, f2, f3⟩ := flat_eq h hv h2.1 h1
    unfold inV at e1 ⊢
    unfold hasD at e1 ⊢
    rw [List.any_cons, List.any_cons, e1, f1, List.all_cons, f2, e2]
    exact ⟨rfl, rfl⟩
theorem flat_v {K : PySem.W.Frag} {H : Hp} {v : V} {x : D} (hv : Dp K H v x) (h1 : flatD x = true) : flatV v = true := by
  cases hv <;> first | rfl | cases h1
theorem gc_inT (ha : Go X Γ a x) (hb : Go X Γ b (.tuple ds)) (h1 : flatD x = true) (h2 : ds.all flatD = true) : GoC X Γ .In a b (hasD ds x) := go_cmp2 op_in_seq ha hb fun v w B H hB r1 r2 Q q => by
  obtain ⟨l, vs, rfl, h3, h4⟩ := dp_tup r2
  obtain ⟨e1, e2⟩ := flat_in r1 h1 h4 h2
  refine ⟨l, vs, rfl, .inr (hB.st h3), flat_v r1 h1, e2, ?_⟩
  rw [e1]
  exact q
theorem gc_notInT (ha : Go X Γ a x) (hb : Go X Γ b (.tuple ds)) (h1 : flatD x = true) (h2 : ds.all flatD = true) : GoC X Γ .NotIn a b (!hasD ds x) := go_cmp2 op_notIn_seq ha hb fun v w B H hB r1 r2 Q q => by
  obtain ⟨l, vs, rfl, h3, h4⟩ := dp_tup r2
  obtain ⟨e1, e2⟩ := flat_in r1 h1 h4 h2
  refine ⟨l, vs, rfl, .inr (hB.st h3), flat_v r1 h1, e2, ?_⟩
  rw [e1]
  exact q
theorem gx_c {op : CmpOp} (hu : UOk X) (ha : Go X Γ a x) (hb : Go X Γ b y) (h : CmpOk op x y k := by exact ⟨rfl, by walk_at "pside"⟩) : GoC X Γ op a b k := by
  cases op <;> cases x <;> cases y <;> (try exact h.elim) <;> obtain ⟨rfl, h⟩ := h <;> first
    | exact gc_lt ha hb
    | exact gc_le ha hb
    | exact gc_gt ha hb
    | exact gc_ge ha hb
    | exact gc_ltS ha hb
    | exact gc_eqI ha hb
    | exact gc_neI ha hb
    | exact gc_eqS ha hb
    | exact gc_neS ha hb
    | exact gc_eqB ha hb
    | exact gc_neB ha hb
    | exact gc_eqD hu ha hb h.1 h.2
    | exact gc_neD hu ha hb h.1 h.2
    | exact gc_in hu ha hb h.1 h.2
    | exact gc_notIn hu ha hb h.1 h.2
    | exact gc_inT ha hb h.1 h.2
    | exact gc_notInT ha hb h.1 h.2
/-! index, len, truth -/
def IxOk (x y d : D) : Prop := match x, y with
  | .list ds, .int i => atI ds i = some d
  | .tuple ds, .int i => atI ds i = some d
  | .str z, .int i => z.length ≤ sizeLine ∧ ∃ m, atI z.cps.toList i = some m ∧ d = .str ⟨#[m]⟩
  | _, _ => False
theorem gx_ix (ha : Go X Γ a x) (hb : Go X Γ b y) (h : IxOk x y d := by walk_at "pix") (hs : PlainIx b := by exact fun _ _ => rfl) : Go X Γ (.Subscript a b pos) d := by
  cases x <;> cases y <;> first
    | exact h.elim
    | exact go_ixL ha hb h hs
    | exact go_ixT ha hb h hs
    | (obtain ⟨h1, m, h2, rfl⟩ := h; exact go_ixS ha hb h1 h2 hs)
def LenOk (x : D) (n : Int) : Prop := match x with
  | .list ds => n = ds.length ∧ True
  | .tuple ds => n = ds.length ∧ True
  | .str z => n = z.length ∧ z.length ≤ sizeLine
  | _ => False
theorem gx_len {n : Int} (hm : X.mg "len" = none) (ha : Go X Γ e x) (h : LenOk x n := by exact ⟨rfl, by walk_at "pside"⟩) (hg : Gl X "len" := by rfl) (he : starEach [e] X.env = (false, eval e X.env) :: starEach [] X.env := by rfl) : Go X Γ (.Call (.Name "len" p) [e] [] pos) (.int n) := by
  cases x <;> first
    | exact h.elim
    | (obtain ⟨rfl, h⟩ := h; exact go_len ha hm hg he)
    | (obtain ⟨rfl, h⟩ := h; exact go_lenT ha hm hg he)
    | (obtain ⟨rfl, h⟩ := h; exact go_lenS ha h hm hg he)
/-- a value's test -/
theorem gx_t (ha : Go X Γ a x) (h : (∀ y, x = .str y → y.length ≤ sizeLine) ∧ (∀ z, x ≠ .dict z) := by walk_at "ptru") (he : ∀ whole, isTrue a X.env whole = (do let v ← whole; standAt a.pos; holding [v] (truthy v)) := by intro _; rfl) : GoT X Γ a (truD x) := goT_tru ha h.1 h.2 he
/-! what is walked -/
def IterOk (x : D) (ds : List D) : Prop := match x with
  | .list es => ds = es
  | .tuple es => ds = es
  | .str z => ds = signsD z
  | _ => False
theorem gx_it (ha : Go X Γ iter x) (h : IterOk x ds := by exact rfl) : GoI X Γ tg iter ds := by
  cases x <;> first
    | exact h.elim
    | exact h ▸ goi_list ha
    | exact h ▸ goi_tup ha
    | exact h ▸ goi_str ha
theorem gx_rng1 {j : Int} (hm : X.mg "range" = none) (ha : Go X Γ a (.int j)) (h : -(2 ^ 62) ≤ j ∧ j < 2 ^ 62 := by walk_at "pside") (hg : Gl X "range" := by rfl) (hs : starEach [a] X.env = [(false, eval a X.env)] := by rfl) :
    GoI X Γ tg (.Call (.Name "range" p) [a] [] pos) ((rngI 0 j).map PyData.int) := goi_rng1 ha h.1 h.2 hm hg hs
theorem gx_rng2 {i j : Int} (hm : X.mg "range" = none) (ha : Go X Γ a (.int i)) (hb : Go X Γ b (.int j)) (h : (-(2 ^ 62) ≤ i ∧ i < 2 ^ 62) ∧ -(2 ^ 62) ≤ j ∧ j < 2 ^ 62 := by walk_at "pside") (hg : Gl X "range" := by rfl)
    (hs : starEach [a, b] X.env = [(false, eval a X.env), (false, eval b X.env)] := by rfl) (hs2 : starEach [b] X.env = [(false, eval b X.env)] := by rfl) :
    GoI X Γ tg (.Call (.Name "range" p) [a, b] [] pos) ((rngI i j).map PyData.int) := goi_rng2 ha hb h.1.1 h.1.2 h.2.1 h.2.2 hm hg hs hs2
/-- a comprehension -/
theorem gx_lc {elt : Expr} {ifs : List Expr} {scope : Scope} {α : Type} {xs : List α} {enc : α → D} {q : α → Bool} {f : α → D} (own : List (Str × Nat)) (hc : X.calm = true) (hN : X.N.Nodup) (hi : GoI X Γ tg iter (xs.map enc))
    (body : ∀ (k : Nat) x, xs[k]? = some x → ∃ Γ' ts, (Blk X scope fun X' => GoG X' (wipeG Γ (own.map (·.2))) tg (enc x) Γ' ts) ∧ (Blk X scope fun X' => GoTs X' Γ' ifs (q x)) ∧ (q x = true → Blk X scope fun X' => Go X' Γ' elt (f x)) ∧ (∀ t ∈ ts, t ∈ own.map (·.2)))
    (ok : blkC X.N X.env.scope scope own = true) (hz : xs.length < 1000000 := by walk_at "pside") (hs : ∀ x, foldedSetIterable iter X.env x = pure x := by intro _; rfl) :
    GoN X Γ (.ListComp elt [⟨tg, iter, ifs, 0⟩] scope pos) ((xs.filter q).map f) :=
  goN_lc q f hi (ltZ hz) (fun k x hx => let ⟨Γ', ts, h1, h2, h3, h4⟩ := body k x hx; ⟨Γ', ts, h4, h1, h2, h3⟩) hc hN (blkOk_by ok) hs
theorem gx_lcM {elt : Expr} {scope : Scope} {α : Type} {xs : List α} {enc : α → D} {f : α → D} (own : List (Str × Nat)) (hc : X.calm = true) (hN : X.N.Nodup) (hi : GoI X Γ tg iter (xs.map enc))
    (body : ∀ (k : Nat) x, xs[k]? = some x → ∃ Γ' ts, (Blk X scope fun X' => GoG X' (wipeG Γ (own.map (·.2))) tg (enc x) Γ' ts) ∧ (Blk X scope fun X' => Go X' Γ' elt (f x)) ∧ (∀ t ∈ ts, t ∈ own.map (·.2)))
    (ok : blkC X.N X.env.scope scope own = true) (hz : xs.length < 1000000 := by walk_at "pside") (hs : ∀ x, foldedSetIterable iter X.env x = pure x := by intro _; rfl) :
    GoN X Γ (.ListComp elt [⟨tg, iter, [], 0⟩] scope pos) (xs.map f) := by
  have h := goN_lc (pos := pos) (fun _ => true) f hi (ltZ hz) (fun k x hx => let ⟨Γ', ts, h1, h2, h4⟩ := body k x hx; ⟨Γ', ts, h4, h1, fun _ _ _ _ _ => goTs_nil, fun _ => h2⟩) hc hN (blkOk_by ok) hs
  rw [List.filter_eq_self.mpr fun _ _ => rfl] at h
  exact h
/-! built-in functions -/
def IntOk (x : D) (n : Int) : Prop := match x with
  | .int i => n = i
  | .bool k => n = if k then 1 else 0
  | _ => False
theorem gx_int {n : Int} (hm : X.mg "int" = none) (ha : Go X Γ e x) (h : IntOk x n := by exact rfl) (hg : Gl X "int" := by rfl) (he : starEach [e] X.env = (false, eval e X.env) :: starEach [] X.env := by rfl) : Go X Γ (.Call (.Name "int" p) [e] [] pos) (.int n) := by
  cases x <;> first
    | exact h.elim
    | exact h ▸ go_intI ha hm hg he
    | exact h ▸ go_intB ha hm hg he
def sumI : List D → Int
  | [] => 0
  | .int z :: r => z + sumI r
  | _ :: r => sumI r
def IsInts (ds : List D) : Prop := ∀ d ∈ ds, ∃ z, d = .int z
theorem ints_of : ∀ {ds : List D}, IsInts ds → ∃ ns : List Int, ds = ns.map .int ∧ sumI ds = ns.sum
  | [], _ => ⟨[], rfl, rfl⟩
  | d :: r, h => by
    obtain ⟨z, rfl⟩ := h d List.mem_cons_self
    obtain ⟨ns, h1, h2⟩ := ints_of fun x hx => h x (List.mem_cons_of_mem _ hx)
    exact ⟨z :: ns, by rw [h1]; rfl, by rw [List.sum_cons, ← h2]; rfl⟩
theorem gx_sum (hc : X.calm = true) (hm : X.mg "sum" = none) (ha : Go X Γ e (.list ds)) (h : IsInts ds := by walk_at "pints") (hg : Gl X "sum" := by rfl) (he : starEach [e] X.env = (false, eval e X.env) :: starEach [] X.env := by rfl) : Go X Γ (.Call (.Name "sum" p) [e] [] pos) (.int (sumI ds)) := by
  obtain ⟨ns, rfl, h2⟩ := ints_of h
  rw [h2]
  exact go_sum hc ha hm hg he
def IsBools (ds : List D) : Prop := ∀ d ∈ ds, ∃ z, d = .bool z
def truB : D → Bool
  | .bool b => b
  | _ => false
theorem bools_of : ∀ {ds : List D}, IsBools ds → ∃ ns : List Bool, ds = ns.map .bool ∧ ds.all truB = ns.all id ∧ ds.any truB = ns.any id
  | [], _ => ⟨[], rfl, rfl, rfl⟩
  | d :: r, h => by
    obtain ⟨z, rfl⟩ := h d List.mem_cons_self
    obtain ⟨ns, h1, h2, h3⟩ := bools_of fun x hx => h x (List.mem_cons_of_mem _ hx)
    exact ⟨z :: ns, by rw [h1]; rfl, by rw [List.all_cons, List.all_cons, h2]; rfl, by rw [List.any_cons, List.any_cons, h3]; rfl⟩
theorem gx_all (hc : X.calm = true) (hm : X.mg "all" = none) (ha : Go X Γ e (.list ds)) (h : IsBools ds := by walk_at "pints") (hg : Gl X "all" := by rfl) (he : starEach [e] X.env = (false, eval e X.env) :: starEach [] X.env := by rfl) : Go X Γ (.Call (.Name "all" p) [e] [] pos) (.bool (ds.all truB)) := by
  obtain ⟨ns, rfl, h2, _⟩ := bools_of h
  rw [h2]
  exact go_all hc ha hm hg he
theorem gx_any (hc : X.calm = true) (hm : X.mg "any" = none) (ha : Go X Γ e (.list ds)) (h : IsBools ds := by walk_at "pints") (hg : Gl X "any" := by rfl) (he : starEach [e] X.env = (false, eval e X.env) :: starEach [] X.env := by rfl) : Go X Γ (.Call (.Name "any" p) [e] [] pos) (.bool (ds.any truB)) := by
  obtain ⟨ns, rfl, _, h2⟩ := bools_of h
  rw [h2]
  exact go_any hc ha hm hg he
theorem ints_map {α : Type} {f : α → Int} {xs : List α} : IsInts (xs.map fun x => .int (f x)) := fun d hd => by
  obtain ⟨x, _, rfl⟩ := List.mem_map.mp hd
  exact ⟨_, rfl⟩
theorem bools_map {α : Type} {f : α → Bool} {xs : List α} : IsBools (xs.map fun x => .bool (f x)) := fun d hd => by
  obtain ⟨x, _, rfl⟩ := List.mem_map.mp hd
  exact ⟨_, rfl⟩
theorem sumI_map {α : Type} {f : α → Int} : ∀ {xs : List α}, sumI (xs.map fun x => .int (f x)) = (xs.map f).sum
  | [] => rfl
  | x :: r => by rw [List.map_cons, List.map_cons, List.sum_cons, ← sumI_map]; rfl
def SeqOk (x : D) (ds : List D) : Prop := match x with
  | .list es => ds = es
  | .tuple es => ds = es
  | _ => False
theorem gx_list (hm : X.mg "list" = none) (ha : Go X Γ e x) (h : SeqOk x ds := by exact rfl) (hg : Gl X "list" := by rfl) (he : starEach [e] X.env = (false, eval e X.env) :: starEach [] X.env := by rfl) : GoN X Γ (.Call (.Name "list" p) [e] [] pos) ds := by
  cases x <;> first
    | exact h.elim
    | exact h ▸ goN_list ha hm hg he
    | exact h ▸ goN_listT ha hm hg he
theorem go_tupleT (ha : Go X Γ e (.tuple ds)) (hm : X.mg "tuple" = none) (hg : Gl X "tuple" := by rfl) (he : starEach [e] X.env = (false, eval e X.env) :: starEach [] X.env := by rfl) : Go X Γ (.Call (.Name "tuple" p) [e] [] pos) (.tuple ds) :=
  go_callTy call_tuple_of hg hm PyProof.Rows.boot_tuple (goA_cons ha goA_nil he) (fun vs B H hB r Q q => by
    obtain ⟨v, rfl, h⟩ := mn1 r
    obtain ⟨p, us, rfl, h2, h3⟩ := dp_tup h
    exact ⟨p, us, rfl, .inr ⟨hB.st h2, q _ B H (.same hB) h⟩⟩) (by decide) (by decide) he rfl
theorem gx_tuple (hm : X.mg "tuple" = none) (ha : Go X Γ e x) (h : SeqOk x ds := by exact rfl) (hg : Gl X "tuple" := by rfl) (he : starEach [e] X.env = (false, eval e X.env) :: starEach [] X.env := by rfl) : Go X Γ (.Call (.Name "tuple" p) [e] [] pos) (.tuple ds) := by
  cases x <;> first
    | exact h.elim
    | exact h ▸ go_tupleL ha hm hg he
    | exact h ▸ go_tupleT ha hm hg he
theorem go_min2 {i j : Int} (hc : X.calm = true) (ha : Go X Γ a (.int i)) (hb : Go X Γ b (.int j)) (hm : X.mg "min" = none) (hg : Gl X "min" := by rfl) (he : starEach [a, b] X.env = (false, eval a X.env) :: starEach [b] X.env := by rfl) (he2 : starEach [b] X.env = (false, eval b X.env) :: starEach [] X.env := by rfl) :
    Go X Γ (.Call (.Name "min" p) [a, b] [] pos) (.int (if j < i then j else i)) :=
  go_callB (call_min2 hc) hg hm PyProof.Rows.boot_min (goA_cons ha (goA_cons hb goA_nil he2) he) (fun vs B H hB r Q q => by
    obtain ⟨v, w, rfl, h, h2⟩ := mn2 r
    have e1 := dp_int h
    have e2 := dp_int h2
    subst e1 e2
    exact ⟨i, j, rfl, q _ B H (.same hB) (Dp.int _)⟩) (by decide) (by decide) he (by rw [he2]; rfl)
/-- e.bit_length() -/
theorem go_bits {i : Int} {ap : Pos} (ha : Go X Γ e (.int i)) (hbase : attributeBase e "bit_length" X.env (eval e X.env) = eval e X.env := by rfl) (hline : (ap.endLine == pos.line) = true := by rfl) : Go X Γ (.Call (.Attribute e "bit_length" ap) [] [] pos) (.int (Builtin.Int.intBits i : Nat)) := .mk fun σ B H Fs E Q q =>
  toE (pe_bits sE hbase hline) (ha σ B H Fs E _ fun v B1 H1 n1 r1 => ⟨i, dp_int r1, q _ B1 H1 n1 (Dp.int _)⟩)
end
theorem rngI_len {lo hi : Int} : (rngI lo hi).length = (hi - lo).toNat := by
  unfold rngI
  rw [List.length_map, List.length_range]
theorem rng_nodup (lo hi : Int) : (rngI lo hi).Nodup := List.pairwise_map.mpr (List.nodup_range.imp fun h e => h (by omega))
theorem rngI_mem {lo hi x : Int} : x ∈ rngI lo hi ↔ lo ≤ x ∧ x < hi := by
  unfold rngI
  rw [List.mem_map]
  constructor
  · rintro ⟨i, h, rfl⟩
    have := List.mem_range.mp h
    omega
  · rintro ⟨h1, h2⟩
    exact ⟨(x - lo).toNat, List.mem_range.mpr (by omega), by omega⟩
/-! ### defs by what they are asked and give: S -/
def spS (K : PySem.W.Frag) (S : List Mn → Mn → Prop) : Sp := fun vs H Q _ => ∃ (Ps : List Mn) (R : Mn) (B : Hp), S Ps R ∧ Ex B H ∧ MnAll K B vs Ps ∧ ∀ v B2 H2, Nw B H B2 H2 → R.p K B2 v → Q v H2
def spSU (K : PySem.W.Frag) (S : List Mn → Ow → Prop) : Sp := fun vs H Q _ => ∃ (Ps : List Mn) (R : Ow) (B : Hp), S Ps R ∧ Ex B H ∧ MnAll K B vs Ps ∧ ∀ v F B2 H2, Nw B H B2 H2 → R.p K B2 H2 v F → (∀ a ∈ F, H a = none ∧ B2 a = none) → Q v H2
/-- the def st of the text stands at the name x -/
structure Dfn (K : PySem.W.Frag) (mg : Str → Option Value) (x : Str) (st : Stmt) (ps : List Str) : Prop where
  ex : ∃ f fd, Fun K x x st f fd ∧ mg x = some (.ref f) ∧ Binds K fd ps []
/-- what stands at the name x keeps its promise -/
structure Cal (P : Program) (w : World) (K : PySem.W.Frag) (mg : Str → Option Value) (base : Heap) (x : Str) (ps : List Str) (k : Nat) (S : List Mn → Mn → Prop) : Prop where
  ex : ∃ f fd, FnOk P w K mg base CX0 k f fd ps (spS K S) ∧ mg x = some (.ref f) ∧ PySem.W.keepIn K (.ref f) = true ∧ Binds K fd ps []
structure CalU (P : Program) (w : World) (K : PySem.W.Frag) (mg : Str → Option Value) (base : Heap) (x : Str) (ps : List Str) (k : Nat) (S : List Mn → Ow → Prop) : Prop where
  ex : ∃ f fd, FnOk P w K mg base CX0 k f fd ps (spSU K S) ∧ mg x = some (.ref f) ∧ PySem.W.keepIn K (.ref f) = true ∧ Binds K fd ps []
section
variable {P : Program} {w : World} {K : PySem.W.Frag} {mg : Str → Option Value} {base : Heap}
theorem cal_ok {x : Str} {st : Stmt} {L ps : List Str} {k : Nat} {S : List Mn → Mn → Prop} (Df : Dfn K mg x st ps) (Sc : FnScope L ps (defScope st)) (hl : ∀ Ps R, S Ps R → Ps.length = ps.length)
    (body : ∀ Ps R, S Ps R → ∀ (f : Addr) (cdv : Value) (A : Around) (outer : List Env) (s : Shared) (H : Hp) (E : XK), Room k (A.deeper (envOfC x (defScope st) s.heap.objs.size f cdv)) → ∀ J : Jd, J.S = [] →
      Rn (cxOf CX0 P w K mg base L x (defScope st) f cdv A outer s H E).nox J { nx := fun _ => ∀ K B, R.p K B .non, rt := R } (entry Ps L.length) (defBody st)) : Cal P w K mg base x ps (k + 1) S := by
  obtain ⟨f, fd, F, m, b⟩ := Df.ex
  refine ⟨f, fd, F.ok Sc (fun vs H Q E h => ?_) fun cdv A outer s H vs Q E hr h => ?_, m, F.kp, b⟩
  · obtain ⟨Ps, R, B, hS, _, h, _⟩ := h
    rw [mn_len h, hl _ _ hS]
  · obtain ⟨Ps, R, B, hS, hB, hv, q⟩ := h
    refine ⟨_, sSs, wpSs_mono (body Ps R hS f cdv A outer s H E hr ⟨H, [], []⟩ rfl B (L2.start L vs) B H (fun _ => []) (en_entry hB hv) ⟨.refl _, fun a h1 h2 => absurd h2 h1, fun a o h _ => h, fun a h => h, fun _ _ z => nomatch z⟩) ?_ ?_ ?_ ?_⟩
    · exact fun σ' H' ⟨B', Γ', Fs', e, j, n⟩ => q _ B' H' ⟨j.b0, e.bh, fun a o h => j.h0 a o h (by simp), fun a h1 h2 => by
        cases r : B' a with
        | none => rfl
        | some o => exact absurd (j.nb a (by rw [r]; exact fun z => nomatch z) h1) h2⟩ (n K B')
    · exact fun v H' ⟨σ', B', Γ', Fs', e, j, _, r⟩ => q v B' H' ⟨j.b0, e.bh, fun a o h => j.h0 a o h (by simp), fun a h1 h2 => by
        cases r : B' a with
        | none => rfl
        | some o => exact absurd (j.nb a (by rw [r]; exact fun z => nomatch z) h1) h2⟩ r
    · exact fun σ' H' ⟨B', Γ', Fs', e, j, n⟩ => n.elim
    · exact fun σ' H' ⟨B', Γ', Fs', e, j, n⟩ => n.elim
theorem calU_ok {x : Str} {st : Stmt} {L ps : List Str} {k : Nat} {S : List Mn → Ow → Prop} (Df : Dfn K mg x st ps) (Sc : FnScope L ps (defScope st)) (hl : ∀ Ps R, S Ps R → Ps.length = ps.length)
    (body : ∀ Ps R, S Ps R → ∀ (f : Addr) (cdv : Value) (A : Around) (outer : List Env) (s : Shared) (H : Hp) (E : XK), Room k (A.deeper (envOfC x (defScope st) s.heap.objs.size f cdv)) → ∀ J : Jd, J.S = [] →
      Rn (cxOf CX0 P w K mg base L x (defScope st) f cdv A outer s H E).nox J { nx := fun _ => False, rt := datP .none, rn := some R } (entry Ps L.length) (defBody st)) : CalU P w K mg base x ps (k + 1) S := by
  obtain ⟨f, fd, F, m, b⟩ := Df.ex
  refine ⟨f, fd, F.ok Sc (fun vs H Q E h => ?_) fun cdv A outer s H vs Q E hr h => ?_, m, F.kp, b⟩
  · obtain ⟨Ps, R, B, hS, _, h, _⟩ := h
    rw [mn_len h, hl _ _ hS]
  · obtain ⟨Ps, R, B, hS, hB, hv, q⟩ := h
    refine ⟨_, sSs, wpSs_mono (body Ps R hS f cdv A outer s H E hr ⟨H, [], []⟩ rfl B (L2.start L vs) B H (fun _ => []) (en_entry hB hv) ⟨.refl _, fun a h1 h2 => absurd h2 h1, fun a o h _ => h, fun a h => h, fun _ _ z => nomatch z⟩) ?_ ?_ ?_ ?_⟩
    · exact fun σ' H' ⟨B', Γ', Fs', e, j, n⟩ => n.elim
    · exact fun v H' ⟨σ', B', Γ', Fs', e, j, _, F, r1, r2, _⟩ => q v F B' H' ⟨j.b0, e.bh, fun a o h => j.h0 a o h (by simp), fun a h1 h2 => by
        cases r : B' a with
        | none => rfl
        | some o => exact absurd (j.nb a (by rw [r]; exact fun z => nomatch z) h1) h2⟩ r1 r2
    · exact fun σ' H' ⟨B', Γ', Fs', e, j, n⟩ => n.elim
    · exact fun σ' H' ⟨B', Γ', Fs', e, j, n⟩ => n.elim
end
section
variable {X : Cx} {Γ : Ga} {e : Expr} {es : List Expr} {pos p : Pos} {j k : Nat} {x : Str} {ps : List Str}
theorem gx_call {S : List Mn → Mn → Prop} {Ps : List Mn} {R : Mn} (C : Cal X.prog X.w X.K X.mg X.base x ps k S) (hr : Room j X.A) (hk : k ≤ j) (ha : GoA X Γ (e :: es) Ps) (hS : S Ps R := by walk_at "pS") (hg : Gl X x := by rfl) (hdb : (x == ("__debug__" : Str)) = false := by decide)
    (he : starEach (e :: es) X.env = (false, eval e X.env) :: starEach es X.env := by rfl) (hpl : (backTo pos (starEach es X.env)).any (·.1) = false := by rfl) : GoP X Γ (.Call (.Name x p) (e :: es) [] pos) R := .mk fun σ B H Fs E Q q => by
  obtain ⟨f, fd, F, m, kp, b⟩ := C.ex
  exact toE (pe_call F (hr.mono hk) hg m kp b .nil pass0 sA hdb he hpl) (ha σ B H Fs E _ fun vs B1 H1 n1 r1 => ⟨Ps, R, B1, hS, n1.bh, by rw [List.append_nil]; exact r1, fun v B2 H2 n2 r2 => q v B2 H2 (n1.trans n2) r2⟩)
theorem gx_callU {S : List Mn → Ow → Prop} {Ps : List Mn} {R : Ow} (C : CalU X.prog X.w X.K X.mg X.base x ps k S) (hr : Room j X.A) (hk : k ≤ j) (ha : GoA X Γ (e :: es) Ps) (hS : S Ps R := by walk_at "pS") (hg : Gl X x := by rfl) (hdb : (x == ("__debug__" : Str)) = false := by decide)
    (he : starEach (e :: es) X.env = (false, eval e X.env) :: starEach es X.env := by rfl) (hpl : (backTo pos (starEach es X.env)).any (·.1) = false := by rfl) : GoU X Γ (.Call (.Name x p) (e :: es) [] pos) R := .mk fun σ B H Fs E Q q => by
  obtain ⟨f, fd, F, m, kp, b⟩ := C.ex
  exact toE (pe_call F (hr.mono hk) hg m kp b .nil pass0 sA hdb he hpl) (ha σ B H Fs E _ fun vs B1 H1 n1 r1 => ⟨Ps, R, B1, hS, n1.bh, by rw [List.append_nil]; exact r1, fun v F B2 H2 n2 r2 r3 => q v F B2 H2 (n1.trans n2) r2 fun a ha => ⟨n1.hh.none (r3 a ha).1, (r3 a ha).2⟩⟩)
end
section
variable {X : Cx} {J : Jd} {N : Nd} {Γ Γ1 Γ2 : Ga} {e a b c tg iter : Expr} {es rest : List Expr} {st : Stmt} {sts body : List Stmt} {P : Mn} {d x y z : D} {ds : List D} {pos p : Pos} {k l : Bool}
theorem gx_if (h : GoT X Γ c k) (h1 : k = true → Go X Γ a x) (h2 : k = false → Go X Γ b y) : Go X Γ (.IfExp c a b pos) (if k = true then x else y) :=
  go_ifE h (fun e => by rw [if_pos e]; exact h1 e) (fun e => by rw [if_neg (by rw [e]; exact Bool.false_ne_true)]; exact h2 e)
theorem gx_ifI {i j : Int} (h : GoT X Γ c k) (h1 : k = true → Go X Γ a (.int i)) (h2 : k = false → Go X Γ b (.int j)) : Go X Γ (.IfExp c a b pos) (.int (if k = true then i else j)) :=
  go_ifE h (fun e => by rw [if_pos e]; exact h1 e) (fun e => by rw [if_neg (by rw [e]; exact Bool.false_ne_true)]; exact h2 e)
def isiS (t n : String) : Bool := match t, n with
  | "bool", "int" => true
  | "bool", "bool" => true
  | "int", "int" => true
  | "str", "str" => true
  | "list", "list" => true
  | "tuple", "tuple" => true
  | "dict", "dict" => true
  | _, _ => false
abbrev isiD (d : D) (n : String) : Bool := isiS (tyD d) n
theorem kit_isi (d : D) : kitB (tyD d) "int" = some (isiD d "int") ∧ kitB (tyD d) "bool" = some (isiD d "bool") ∧ kitB (tyD d) "str" = some (isiD d "str") ∧ kitB (tyD d) "list" = some (isiD d "list") ∧ kitB (tyD d) "tuple" = some (isiD d "tuple") := by
  cases d <;> (simp only [isiD, tyD]; exact ⟨by decide +kernel, by decide +kernel, by decide +kernel, by decide +kernel, by decide +kernel⟩)
theorem gx_isi {x : Str} {n : String} {p2 : Pos} (hmi : X.mg "isinstance" = none) (hm : X.mg x = none) (hv : bootBuiltins x = some (.type n)) (ha : Go X Γ a d) (hr : kitB (tyD d) n = some (isiD d n) := by first | exact (kit_isi _).1 | exact (kit_isi _).2.1 | exact (kit_isi _).2.2.1 | exact (kit_isi _).2.2.2.1 | exact (kit_isi _).2.2.2.2) (hgi : Gl X "isinstance" := by rfl) (hg : Gl X x := by rfl)
    (hn : x ≠ "__name__" := by decide) (hd : (x == ("__debug__" : Str)) = false := by decide) (he : starEach [a, .Name x p2] X.env = (false, eval a X.env) :: starEach [.Name x p2] X.env := by rfl) (he2 : starEach [.Name x p2] X.env = (false, eval (.Name x p2) X.env) :: starEach [] X.env := by rfl) :
    Go X Γ (.Call (.Name "isinstance" p) [a, .Name x p2] [] pos) (.bool (isiD d n)) := go_isi ha hmi hm hv hr hgi hg hn hd he he2
/-! x op= e -/
def AugOk (op : Operator) (x y d : D) : Prop := match op, x, y with
  | .Add, .int i, .int j => d = .int (i + j) ∧ True
  | .Add, .str a, .str b => d = .str (a ++ b) ∧ a.length + b.length ≤ sizeLine
  | .Sub, .int i, .int j => d = .int (i - j) ∧ True
  | .Mult, .int i, .int j => d = .int (i * j) ∧ ((-(2 ^ 64) < i ∧ i < 2 ^ 64) ∨ (-(2 ^ 64) < j ∧ j < 2 ^ 64))
  | .BitAnd, .int i, .int j => d = .int (Builtin.bitAnd i j) ∧ True
  | .BitOr, .int i, .int j => d = .int (Builtin.bitOr i j) ∧ True
  | .BitXor, .int i, .int j => d = .int (Builtin.bitXor i j) ∧ True
  | _, _, _ => False
theorem aug_ar {op : Operator} {C : Int → Int → Prop} {g : Int → Int → Int} {i j : Int} (hc : C i j) {v w : V} {B H : Hp} (hB : Ex B H) (r1 : Dp X.K B v (.int i)) (r2 : Dp X.K B w (.int j)) {Q : VK} (q : EQ X B H (datP (.int (g i j))) Q) : rI C (fun i j => .int (g i j)) v w H Q := by
  rw [dp_int r1, dp_int r2]
  exact ⟨i, j, rfl, rfl, hc, q _ B H (.same hB) (Dp.int _)⟩
theorem aug_ar0 {op : Operator} {g : Int → Int → Int} {i j : Int} {v w : V} {B H : Hp} (hB : Ex B H) (r1 : Dp X.K B v (.int i)) (r2 : Dp X.K B w (.int j)) {Q : VK} (q : EQ X B H (datP (.int (g i j))) Q) : rI0 (fun i j => .int (g i j)) v w H Q := by
  rw [dp_int r1, dp_int r2]
  exact ⟨i, j, rfl, rfl, q _ B H (.same hB) (Dp.int _)⟩
theorem gx_aug (i : Nat) {x' : Str} {p' : Pos} {op : Operator} (hΓ : Γ[i]? = some (.dat x)) (he : Go X Γ e y) (h : N.nx (Γ.set i (.dat d))) (hN : X.N.Nodup) (ho : AugOk op x y d := by exact ⟨rfl, by walk_at "pside"⟩) (hi : X.N[i]? = some x' := by rfl) (hx : Loc X.env.scope x' := by first | exact .inl rfl | exact .inr rfl)
    (hf : X.fn x' = true ∨ X.env.scope.names.lookup x' = some .local := by first | exact .inl rfl | exact .inr rfl) : RnS X J N Γ (.AugAssign (.Name x' p') op e pos) := by
  cases op <;> cases x <;> cases y <;> (try exact ho.elim) <;> obtain ⟨rfl, ho⟩ := ho
  · exact rs_aug i hΓ he iop_add (fun v w B H hB r1 r2 Q q => aug_ar0 (op := .Add) hB r1 r2 q) h hN hi hx hf
  · exact rs_aug i hΓ he iop_add_str (fun v w B H hB r1 r2 Q q => by
      rw [dp_str r1, dp_str r2]
      exact ⟨_, _, rfl, rfl, ho, q _ B H (.same hB) (Dp.str _)⟩) h hN hi hx hf
  · exact rs_aug i hΓ he iop_sub (fun v w B H hB r1 r2 Q q => aug_ar0 (op := .Sub) hB r1 r2 q) h hN hi hx hf
  · exact rs_aug i hΓ he iop_mul (fun v w B H hB r1 r2 Q q => aug_ar (op := .Mult) (C := CMul) ho hB r1 r2 q) h hN hi hx hf
  · exact rs_aug i hΓ he iop_or (fun v w B H hB r1 r2 Q q => aug_ar0 (op := .BitOr) hB r1 r2 q) h hN hi hx hf
  · exact rs_aug i hΓ he iop_xor (fun v w B H hB r1 r2 Q q => aug_ar0 (op := .BitXor) hB r1 r2 q) h hN hi hx hf
  · exact rs_aug i hΓ he iop_and (fun v w B H hB r1 r2 Q q => aug_ar0 (op := .BitAnd) hB r1 r2 q) h hN hi hx hf
/-! more -/
theorem gog_lst {es : List Expr} {j : Nat} {n : Nat} {ts : List Nat} (hc : X.calm = true) (h : GoGs X Γ es ds Γ2 ts) (hl : ds.length = n := by rfl) (hn : (assignEach es X.env).length = n := by rfl) (hst : (assignEach es X.env).findIdx? (·.1) = none := by rfl) : GoG X Γ (.Tuple es j pos) (.list ds) Γ2 ts := .mk fun σ B H Fs v E r Q q => by
  obtain ⟨a, vs, rfl, h2, h3⟩ := dp_lst r
  exact toG (pg_unl hc sGs hn hst) ⟨a, vs, rfl, E.bh.sl h2, by rw [dps_len h3]; exact hl, h σ B H Fs vs E h3 Q q⟩
def cntI (ds : List D) (k : Int) : Nat := ds.countP fun d => match d with
  | .int z => z == k
  | _ => false
theorem cnt_ints (ns : List Int) (k : Int) : cntI (ns.map .int) k = ns.count k := by
  unfold cntI
  rw [List.countP_map]
  rfl
theorem gx_count {k : Int} {ap : Pos} (ho : Go X Γ a (.list ds)) (he : Go X Γ e (.int k)) (h : IsInts ds := by walk_at "pints") (hbase : attributeBase a "count" X.env (eval a X.env) = eval a X.env := by rfl)
    (hfew : ((backTo pos (starEach [e] X.env)).all (fun x => !x.1) && (backToKw pos (keywordEach [] X.env)).all (fun x => x.1.isSome)
      && decide ([e].length + ([] : List Keyword).length + (if ([] : List Keyword).isEmpty then 0 else 1) < 30)) = true := by rfl)
    (hline : (ap.endLine == pos.line) = true := by rfl) (hs : starEach [e] X.env = (false, eval e X.env) :: starEach [] X.env := by rfl) (hplain : (backTo pos (starEach [] X.env)).any (·.1) = false := by rfl) :
    Go X Γ (.Call (.Attribute a "count" ap) [e] [] pos) (.int (cntI ds k : Nat)) := .mk fun σ B H Fs E Q q => by
  obtain ⟨ns, rfl, _⟩ := ints_of h
  refine toE (pe_bm PySem.F.plainAttrs_list PySem.F.slot_list_count PySem.F.type_list_count mt_lcount sE (pa_cons sE pa_nil hs) hbase hfew hline hs hplain) (ho σ B H Fs E _ fun v B1 H1 n1 r1 => ?_)
  obtain ⟨l, vs, rfl, h2, h3⟩ := dp_lst r1
  refine ⟨.inl ⟨rfl, vs, n1.bh.sl h2⟩, he σ B1 H1 Fs (E.nw n1) _ fun w B2 H2 n2 r2 => ?_⟩
  have n := n1.trans n2
  rw [dps_ints_inv h3] at h2
  refine ⟨l, ns, k, rfl, by rw [dp_int r2], (n2.bb.trans n2.bh).sl h2, ?_⟩
  rw [← cnt_ints]
  exact q _ B2 H2 n (Dp.int _)
theorem rs_setL {i : Nat} {W : List D → Ow} {o kx : Expr} {tpos : Pos} {j : Int} {n : Nat} (ho : GoL X Γ o i ds W) (he : Go X Γ e d) (hk : Go X Γ kx (.int j)) (hj : ixN ds.length j = some n) (h : N.nx (Γ.set i (.ob (W (ds.set n d))))) (hi : i < Γ.length)
    (hs : swapsWithSole [.Subscript o kx tpos] e pos.line X.env = pure false := by rfl) (hw : swappedStores [.Subscript o kx tpos] e X.env = pure none := by rfl)
    (h1 : (assignEach [.Subscript o kx tpos] X.env).map (·.2) = [assign (.Subscript o kx tpos) X.env] := by rfl)
    (ha : ∀ v, assign (.Subscript o kx tpos) X.env v = (do
      let ov ← holding [v] (eval o X.env)
      let iv ← holding [v, ov] (eval kx X.env)
      standAt tpos
      holding [v, ov, iv] (setItem ov iv v)
      release [v, ov, iv] []) := by intro _; rfl) : RnS X J N Γ (.Assign [.Subscript o kx tpos] e pos) := .mk fun B0 σ B H Fs E j' =>
  toS (ps_asg sE (pg_sub sE sE set_list ha) hs hw h1) (he σ B H Fs E _ fun v B1 H1 n1 r1 => ho σ B1 H1 Fs (E.nw n1) _ fun p vs v' B2 H2 n2 hσ hp hH hd up => hk σ B2 H2 Fs ((E.nw n1).nw n2) _ fun w B3 H3 n3 r3 => by
    have n := (n1.trans n2).trans n3
    have sm : ∀ a ∈ Fs i, H3 a = H2 a := fun a ha => by
      cases q : H2 a with
      | none => exact absurd q (((E.nw n1).nw n2).fre i a ha).2
      | some o => exact n3.hh a o q
    refine ⟨p, vs, j, _, rfl, dp_int r3, n3.hh _ _ hH, by rw [dps_len hd]; exact hj, B3, _, _, (E.nw n).chg hi hσ hp (up B3 H3 n3.bb sm _ _ (dps_set (dpUp (n2.bb.trans n3.bb) r1) _ (dpsUp n3.bb hd))), (j'.nw n).upd ?_, h⟩
    rcases j'.fm i p hp with z | z
    · exact .inl z
    · exact .inr z.1)
/-! a comprehension given to a name -/
theorem rs_lcO (i : Nat) {x' : Str} {p' lpos : Pos} {elt : Expr} {ifs : List Expr} {scope : Scope} {α : Type} {xs : List α} {enc : α → D} {q : α → Bool} {f : α → D} (own : List (Str × Nat)) (hc : X.calm = true) (hN : X.N.Nodup) (hi : GoI X Γ tg iter (xs.map enc))
    (body : ∀ (k : Nat) x, xs[k]? = some x → ∃ Γ' ts, (Blk X scope fun X' => GoG X' (wipeG Γ (own.map (·.2))) tg (enc x) Γ' ts) ∧ (Blk X scope fun X' => GoTs X' Γ' ifs (q x)) ∧ (q x = true → Blk X scope fun X' => Go X' Γ' elt (f x)) ∧ (∀ t ∈ ts, t ∈ own.map (·.2)))
    (ok : blkC X.N X.env.scope scope own = true) (hsw : swapsWith (.ListComp elt [⟨tg, iter, ifs, 0⟩] scope lpos) (some (.Name x' p')) pos.line X.env = pure true) (h : N.nx (Γ.set i (.own ((xs.filter q).map f)))) (hz : xs.length < 1000000 := by walk_at "pside") (hx : X.N[i]? = some x' := by rfl) (hyl : X.env.scope.names.lookup x' = some .local := by rfl) (hs : ∀ x, foldedSetIterable iter X.env x = pure x := by intro _; rfl) :
    RnS X J N Γ (.Assign [.Name x' p'] (.ListComp elt [⟨tg, iter, ifs, 0⟩] scope lpos) pos) :=
  rs_ownLc i q f hi (ltZ hz) (fun k x hx => let ⟨Γ', ts, h1, h2, h3, h4⟩ := body k x hx; ⟨Γ', ts, h4, h1, h2, h3⟩) h hc hN (blkOk_by ok) hx hyl hsw hs
theorem rs_lc (i : Nat) {x' : Str} {p' lpos : Pos} {elt : Expr} {ifs : List Expr} {scope : Scope} {α : Type} {xs : List α} {enc : α → D} {q : α → Bool} {f : α → D} (own : List (Str × Nat)) (hc : X.calm = true) (hN : X.N.Nodup) (hi : GoI X Γ tg iter (xs.map enc))
    (body : ∀ (k : Nat) x, xs[k]? = some x → ∃ Γ' ts, (Blk X scope fun X' => GoG X' (wipeG Γ (own.map (·.2))) tg (enc x) Γ' ts) ∧ (Blk X scope fun X' => GoTs X' Γ' ifs (q x)) ∧ (q x = true → Blk X scope fun X' => Go X' Γ' elt (f x)) ∧ (∀ t ∈ ts, t ∈ own.map (·.2)))
    (ok : blkC X.N X.env.scope scope own = true) (hsw : swapsWith (.ListComp elt [⟨tg, iter, ifs, 0⟩] scope lpos) (some (.Name x' p')) pos.line X.env = pure true) (h : N.nx (Γ.set i (.dat (.list ((xs.filter q).map f))))) (hz : xs.length < 1000000 := by walk_at "pside") (hx : X.N[i]? = some x' := by rfl) (hyl : X.env.scope.names.lookup x' = some .local := by rfl) (hs : ∀ x, foldedSetIterable iter X.env x = pure x := by intro _; rfl) :
    RnS X J N Γ (.Assign [.Name x' p'] (.ListComp elt [⟨tg, iter, ifs, 0⟩] scope lpos) pos) := .mk fun B0 σ B H Fs E j =>
  toS (ps_setLc (own := own) hc hN hx hyl hsw sI (blkOk_by ok) (fun s H C cl fp => ⟨fun pins s' σ H v u Q I r h => (h s _ C cl fp) pins s' u I r⟩) (fun s H C cl fp => ⟨fun pins s' σ H Q I h => (h s _ C cl fp) pins s' I⟩) (fun s H C cl fp => ⟨fun pins s' σ H Q I h => (h s _ C cl fp) pins s' I⟩) hs)
    (lc_run q f hi (ltZ hz) (fun k x hx => let ⟨Γ', ts, h1, h2, h3, h4⟩ := body k x hx; ⟨Γ', ts, h4, h1, h2, h3⟩) E (fun x H1 => gName i x σ H1 (N.ends X J B0).nx) fun l us B2 H2 n hl hb hH hd => by
      obtain ⟨e1, e2⟩ := Nw.ice n.bh hb hH
      have n2 : Nw B H (upd B2 l (.lst us)) H2 := ⟨n.bb.trans e1, e2, n.hh, fun a h1 h2 => by
        have : a ≠ l := fun z => h2 (by rw [z]; exact hl)
        rw [upd_ne this]
        exact n.nu a h1 h2⟩
      exact ⟨_, _, _, (E.nw n2).setP (P := datP (.list ((xs.filter q).map f))) i (show Dp _ _ _ _ from .lst (.of upd_same) (dpsUp e1 hd)), (j.nw n2).sub fun _ _ z => off_sub z, h⟩)
theorem rs_lcM (i : Nat) {x' : Str} {p' lpos : Pos} {elt : Expr} {scope : Scope} {α : Type} {xs : List α} {enc : α → D} {f : α → D} (own : List (Str × Nat)) (hc : X.calm = true) (hN : X.N.Nodup) (hi : GoI X Γ tg iter (xs.map enc))
    (body : ∀ (k : Nat) x, xs[k]? = some x → ∃ Γ' ts, (Blk X scope fun X' => GoG X' (wipeG Γ (own.map (·.2))) tg (enc x) Γ' ts) ∧ (Blk X scope fun X' => Go X' Γ' elt (f x)) ∧ (∀ t ∈ ts, t ∈ own.map (·.2)))
    (ok : blkC X.N X.env.scope scope own = true) (hsw : swapsWith (.ListComp elt [⟨tg, iter, [], 0⟩] scope lpos) (some (.Name x' p')) pos.line X.env = pure true) (h : N.nx (Γ.set i (.dat (.list (xs.map f))))) (hz : xs.length < 1000000 := by walk_at "pside") (hx : X.N[i]? = some x' := by rfl) (hyl : X.env.scope.names.lookup x' = some .local := by rfl) (hs : ∀ x, foldedSetIterable iter X.env x = pure x := by intro _; rfl) :
    RnS X J N Γ (.Assign [.Name x' p'] (.ListComp elt [⟨tg, iter, [], 0⟩] scope lpos) pos) :=
  rs_lc i (q := fun _ => true) own hc hN hi (fun k x hx => let ⟨Γ', ts, h1, h2, h4⟩ := body k x hx; ⟨Γ', ts, h1, fun _ _ _ _ _ => goTs_nil, fun _ => h2, h4⟩) ok hsw (by rw [List.filter_eq_self.mpr fun _ _ => rfl]; exact h) hz hx hyl hs
theorem rs_lcMO (i : Nat) {x' : Str} {p' lpos : Pos} {elt : Expr} {scope : Scope} {α : Type} {xs : List α} {enc : α → D} {f : α → D} (own : List (Str × Nat)) (hc : X.calm = true) (hN : X.N.Nodup) (hi : GoI X Γ tg iter (xs.map enc))
    (body : ∀ (k : Nat) x, xs[k]? = some x → ∃ Γ' ts, (Blk X scope fun X' => GoG X' (wipeG Γ (own.map (·.2))) tg (enc x) Γ' ts) ∧ (Blk X scope fun X' => Go X' Γ' elt (f x)) ∧ (∀ t ∈ ts, t ∈ own.map (·.2)))
    (ok : blkC X.N X.env.scope scope own = true) (hsw : swapsWith (.ListComp elt [⟨tg, iter, [], 0⟩] scope lpos) (some (.Name x' p')) pos.line X.env = pure true) (h : N.nx (Γ.set i (.own (xs.map f)))) (hz : xs.length < 1000000 := by walk_at "pside") (hx : X.N[i]? = some x' := by rfl) (hyl : X.env.scope.names.lookup x' = some .local := by rfl) (hs : ∀ x, foldedSetIterable iter X.env x = pure x := by intro _; rfl) :
    RnS X J N Γ (.Assign [.Name x' p'] (.ListComp elt [⟨tg, iter, [], 0⟩] scope lpos) pos) :=
  rs_lcO i (q := fun _ => true) own hc hN hi (fun k x hx => let ⟨Γ', ts, h1, h2, h4⟩ := body k x hx; ⟨Γ', ts, h1, fun _ _ _ _ _ => goTs_nil, fun _ => h2, h4⟩) ok hsw (by rw [List.filter_eq_self.mpr fun _ _ => rfl]; exact h) hz hx hyl hs
end
/-! ### lists of small ints, by place -/
def nthI (ds : List D) (i : Int) : Int := match atI ds i with
  | some (.int z) => z
  | _ => 0
theorem IntsD.at {p : Int → Prop} {n : Nat} {ds : List D} {i : Int} (h : IntsD p n ds) (hi : 0 ≤ i ∧ i < (n : Int)) : atI ds i = some (.int (nthI ds i)) := by
  obtain ⟨ns, rfl, h1, h2⟩ := h
  have hl : i.toNat < ns.length := by omega
  have e : atI (ns.map PyData.int) i = some (.int ns[i.toNat]) := atI_get' (k := i.toNat) (by rw [List.getElem?_map, List.getElem?_eq_getElem hl]; rfl) (by omega)
  rw [e]
  unfold nthI
  rw [e]
theorem IntsD.has {p : Int → Prop} {n : Nat} {ds : List D} {i : Int} (h : IntsD p n ds) (hi : 0 ≤ i ∧ i < (n : Int)) : p (nthI ds i) := by
  have e := h.at hi
  obtain ⟨ns, rfl, h1, h2⟩ := h
  have hl : i.toNat < ns.length := by omega
  have e2 : atI (ns.map PyData.int) i = some (.int ns[i.toNat]) := atI_get' (k := i.toNat) (by rw [List.getElem?_map, List.getElem?_eq_getElem hl]; rfl) (by omega)
  rw [e] at e2
  have e3 := Option.some.inj e2
  injection e3 with e3
  rw [e3]
  exact h2 _ (List.getElem_mem hl)
/-! ### the law -/
abbrev spLaw (K : PySem.W.Frag) : Sp := spF K (fun ns : List Int => ns.length ≤ 63) (fun ns => [datP (.list (ns.map .int))]) fun _ => datP (.bool true)
theorem law_sp {K : PySem.W.Frag} {H : Hp} {a : Addr} {ns : List Int} {E : XK} (hl : ns.length ≤ 63) (hS : SqL K H a (ns.map V.int)) : spLaw K [.ref a] H (fun v _ => v = .bl true) E :=
  ⟨ns, H, hl, Ex.refl _, .cons (show Dp _ _ _ _ from .lst hS (dps_ints ns)) .nil, fun _ _ _ _ r => dp_bl r⟩
local macro_rules | `(tactic| walk_at "pix") => `(tactic| first | exact rfl | assumption | exact atI_nat (by assumption) | exact atI_get' (by assumption) (by omega))
local macro_rules | `(tactic| walk_at "ptru") => `(tactic| exact ⟨fun _ h => (nomatch h), fun _ h => (nomatch h)⟩)
end PL

set_option maxHeartbeats 2000000
namespace PL
open PySem PySem.Spec PyProof.Rows L2
section
variable {X : Cx} {J : Jd} {N : Nd} {Γ : Ga} {sts : List Stmt}
theorem rn_is (i : Nat) {s s' : Sl} (hΓ : Γ[i]? = some s) (e : s = s') (h : Rn X J N (Γ.set i s') sts) : Rn X J N Γ sts := by
  subst e
  have : Γ.set i s = Γ := by
    refine List.ext_getElem? fun j => ?_
    rw [List.getElem?_set]
    by_cases q : i = j
    · subst q
      have := (List.getElem?_eq_some_iff.mp hΓ).1
      rw [if_pos rfl, if_pos this, hΓ]
    · rw [if_neg q]
  rw [this] at h
  exact h
end
theorem take_push {α : Type} {l : List α} {j : Nat} {x : α} (h : l[j]? = some x) : l.take (j + 1) = l.take j ++ [x] := by
  rw [List.take_add_one, h]
  rfl
end PL

set_option maxHeartbeats 2000000
namespace PL
open PySem PySem.Spec PyProof.Rows L2 PySem.W
/-! ### sorted(xs) of data of any kind -/
/-- what was there is there -/
structure Kp (s s' : Shared) : Prop where
  heap : ∀ b o, s.heap.get? b = some o → s'.heap.get? b = some o
  gens : s'.gens = s.gens
  os : s'.os = s.os
/-- a value that stands for data -/
def RD (K : PySem.W.Frag) (H : Hp) (u : Value) (d : D) : Prop := ∃ x, RelV x u ∧ Dp K H x d
theorem rd_all {K : PySem.W.Frag} {H : Hp} : ∀ {xs : List V} {us : List Value} {ds : List D}, Vals xs us → DpAll K H xs ds → EachIs (RD K H) us ds
  | _, _, _, .nil, .nil => .nil
  | _, _, _, .cons r rs, .cons h hs => .cons ⟨_, r, h⟩ (rd_all rs hs)
theorem rd_back {K : PySem.W.Frag} {H : Hp} : ∀ {us : List Value} {ds : List D}, EachIs (RD K H) us ds → ∃ xs, Vals xs us ∧ DpAll K H xs ds
  | _, _, .nil => ⟨[], .nil, .nil⟩
  | _, _, .cons ⟨x, r, h⟩ t => by
    obtain ⟨xs, a, b⟩ := rd_back t
    exact ⟨x :: xs, .cons r a, .cons h b⟩
/-- fit to be sorted -/
structure SortOk (ds : List D) : Prop where
  al : AllAlike ds
  so : Sortable ds
  dp : ∀ d ∈ ds, d.depth ≤ 60
  ln : ds.length ≤ sizeLine
abbrev srt (ds : List D) : List D := ds.mergeSort (dataLe false id)
section
variable {X : Cx} {pins : List (Addr × Obj)} {σ : L2.St} {H : Hp} {s : Shared} {Q : VK} {E : Value → Shared → Prop}
theorem sorted_gen {x : Value} {B : Hp} (hB : Ex B H) (P : List D → Prop) (hP : ∀ ds, P ds → SortOk ds) (hu : UOk X) (I : Inv X pins σ H s)
    (hcol : ∀ (Q' : List Value → Shared → Prop), (∀ s' ws ds, Kp s s' → AllBare s'.gens → EachIs (RD X.K B) ws ds → P ds → Q' ws s') → wpAny (model X.prog X.w) X.A.in1 (collect x) Q' E s)
    (hq : ∀ ds ys p, P ds → H p = none → DpAll X.K B ys (srt ds) → Q (.ref p) (upd H p (.lst ys))) :
    wpAny (model X.prog X.w) X.A (call (.builtin "sorted") [x]) (EP X pins σ Q) E s := by
  refine Calls.call_function_entry PyProof.Rows.kind_sorted PyProof.Rows.plain_sorted PyProof.Rows.entry_sorted (args_sorted1 _) ?_
  unfold Builtin.«sorted»
  refine wpAny_bind (m := checkCount "sorted" 1 1 _) (wpAny_pure ?_)
  refine wpAny_bind (hcol _ fun s1 ws ds kp hb e hp => ?_)
  obtain ⟨al, so, dp, ln⟩ := hP ds hp
  have hl : ws.length = ds.length := e.length
  refine wpAny_bind (wpAny_newList ?_ (by rw [hl]; exact ln))
  have hoL : (s1.heap.push (seqObj "list" ws.toArray 0)).get? s1.heap.objs.size = some (seqObj "list" ws.toArray 0) := Heap.get?_push_size _ rfl
  have hnew : ∀ b o, s.heap.get? b = some o → b ≠ s1.heap.objs.size ∧ (s1.heap.push (seqObj "list" ws.toArray 0)).get? b = some o := fun b o q => by
    have h1 := kp.heap b o q
    exact ⟨Nat.ne_of_lt (Heap.lt_size h1), Heap.get?_push_of_some _ h1⟩
  have er : EachIs (fun v d => ∃ as, Reads (sortingHeap (s1.heap.push (seqObj "list" ws.toArray 0)) s1.heap.objs.size ws) v (id d) as) ws ds := e.mono fun v d ⟨x, r, h⟩ => by
    obtain ⟨as, rr⟩ := Dp.reads I d x v (dpUp hB h) r
    exact ⟨as, PyProof.Rows.Reads.keeps (fun b o q => sortingHeap_old (hnew b o q).1 (hnew b o q).2) rr⟩
  have hun := hu
  have hu200 : X.A.units + 200 < cLine := hun
  refine wpAny_bind (wpAny_holding (wpAny_call_entry slot_list_sort ⟨_, hoL, rfl⟩ PyProof.Rows.entry_list_sort
    (list_sort_vals (κ := dataKind (sortingHeap (s1.heap.push (seqObj "list" ws.toArray 0)) s1.heap.objs.size ws) (ds.map id)) hoL
      (SortsAt.data (s := { s1 with heap := sortingHeap (s1.heap.push (seqObj "list" ws.toArray 0)) s1.heap.objs.size ws }) (each_map (R := fun v d => ∃ as, Reads (sortingHeap (s1.heap.push (seqObj "list" ws.toArray 0)) s1.heap.objs.size ws) v d as) id er) (by rw [List.map_id]; exact al) (by rw [List.map_id]; exact so) (fun d hd => by
        rw [List.map_id] at hd
        have := dp d hd
        show X.A.units + 1 + 1 + d.depth < cLine
        omega)) (by rw [hl]; exact ln) ⟨.none, rfl, ?_⟩) (args_list_sort _)))
  have eo := sortVals_data false e er (by rw [List.map_id]; exact al)
  generalize hout : sortVals (dataKind (sortingHeap (s1.heap.push (seqObj "list" ws.toArray 0)) s1.heap.objs.size ws) (ds.map id)) false ws ws = out at eo
  obtain ⟨ys, hv, hd⟩ := rd_back eo
  obtain ⟨c, hc⟩ := sortedHeap_at (vs := ws) (out := out.toArray) hoL
  have hk : ∀ b o, s.heap.get? b = some o → (sortedHeap (s1.heap.push (seqObj "list" ws.toArray 0)) s1.heap.objs.size ws out.toArray).get? b = some o := fun b o q => by
    have h1 := kp.heap b o q
    have h2 := Heap.lt_size h1
    rw [sortedHeap_old (Nat.ne_of_lt h2) (by rw [size_push']; exact Nat.lt_succ_of_lt h2)]
    exact Heap.get?_push_of_some _ h1
  have hno : s.heap.get? s1.heap.objs.size = none := by
    cases q : s.heap.get? s1.heap.objs.size with
    | none => rfl
    | some o => exact absurd rfl (hnew _ o q).1
  have hHn : H s1.heap.objs.size = none := I.hok.gone hno
  have hys : ys.length ≤ sizeLine := by
    rw [dps_len hd, List.length_mergeSort]
    exact ln
  have J := I.call' (s' := { s1 with heap := sortedHeap (s1.heap.push (seqObj "list" ws.toArray 0)) s1.heap.objs.size ws out.toArray }) (ch := []) kp.os (Un.laidN hk hno hHn) (I.hok.laidN (o := .lst ys) hk hHn (by exact ⟨hys, out, c, hv, hc⟩)) hb (fun _ z => nomatch z)
  exact wpAny_pure ⟨_, rfl, ⟨.ref s1.heap.objs.size, _, J, rfl, hq ds ys _ hp hHn hd⟩⟩
end
def rSortD (K : PySem.W.Frag) : List V → Hp → VK → Prop := fun vs H Q => ∃ (a : Addr) (xs : List V) (ds : List D) (B : Hp), vs = [V.ref a] ∧ Ex B H ∧ (SqL K H a xs ∨ SqT K H a xs) ∧ DpAll K B xs ds ∧ SortOk ds ∧ ∀ ys p, H p = none → DpAll K B ys (srt ds) → Q (.ref p) (upd H p (.lst ys))
section
variable {X : Cx} {Γ : Ga} {a : Expr} {p pos : Pos} {ds : List D}
theorem cr_sortD (hu : UOk X) : CallR X (.builtin "sorted") (rSortD X.K) := by
  intro pins s σ H vs us Q I r h
  obtain ⟨a, xs, ds, B, rfl, hB, hs, hd, hok, q⟩ := h
  rw [Vals.ref1 r]
  refine sorted_gen hB (fun es => es = ds) (fun _ e => e ▸ hok) hu I (fun Q' hQ => ?_) (fun es ys p e hp hy => by subst e; exact q ys p hp hy)
  rcases hs with hs | hs
  · obtain ⟨its, rv, hl, hz⟩ := I.list hs
    obtain ⟨o, n, ho, hc, hdd, hd1⟩ := hl
    refine wpAny_collect_seq a (.inl rfl) ho hc hd1 (fun h' hk => ?_) (by rw [List.size_toArray, ← rv.length]; exact hz)
    exact hQ _ _ _ ⟨hk, rfl, rfl⟩ I.bare (by simpa using rd_all rv hd) rfl
  · obtain ⟨its, rv, hl, hz⟩ := I.tuple hs
    obtain ⟨o, ho, hc, n, hd1⟩ := hl
    refine wpAny_collect_seq a (.inr rfl) ho hc hd1 (fun h' hk => ?_) (by rw [List.size_toArray, ← rv.length]; exact hz)
    exact hQ _ _ _ ⟨hk, rfl, rfl⟩ I.bare (by simpa using rd_all rv hd) rfl
theorem goN_sortD {x : D} (hu : UOk X) (hm : X.mg "sorted" = none) (ha : Go X Γ a x) (hs : SeqOk x ds) (hok : SortOk ds) (hg : Gl X "sorted" := by rfl) (he : starEach [a] X.env = (false, eval a X.env) :: starEach [] X.env := by rfl) :
    GoN X Γ (.Call (.Name "sorted" p) [a] [] pos) (srt ds) :=
  goN_callB (cr_sortD hu) hg hm PyProof.Rows.boot_sorted (goA_cons ha goA_nil he) (fun vs B H hB r Q q => by
    obtain ⟨v, rfl, h⟩ := mn1 r
    cases x with
    | list xs =>
      have e : ds = xs := hs
      subst e
      obtain ⟨p, us, rfl, h3, h4⟩ := dp_lst h
      exact ⟨p, us, ds, B, rfl, hB, .inl (hB.sl h3), h4, hok, fun ys l hl hy => q l ys hl hy⟩
    | tuple xs =>
      have e : ds = xs := hs
      subst e
      obtain ⟨p, us, rfl, h3, h4⟩ := dp_tup h
      exact ⟨p, us, ds, B, rfl, hB, .inr (hB.st h3), h4, hok, fun ys l hl hy => q l ys hl hy⟩
    | _ => exact absurd hs (by simp [SeqOk])) (by decide) (by decide) he rfl
end
end PL

set_option maxHeartbeats 4000000
namespace PL
open PySem PySem.Spec PyProof.Rows L2
/-! ### sets of texts, told by their members -/
theorem each_perm {α β : Type} {R : α → β → Prop} : ∀ {l l' : List α}, l'.Perm l → ∀ {ks : List β}, PySem.W.EachIs R l ks → ∃ ks', ks'.Perm ks ∧ PySem.W.EachIs R l' ks' := by
  intro l l' p
  induction p with
  | nil => exact fun e => ⟨_, .refl _, e⟩
  | cons x _ ih =>
    intro ks e
    cases e with
    | cons r t =>
      obtain ⟨m, q, f⟩ := ih t
      exact ⟨_, q.cons _, .cons r f⟩
  | swap x y l =>
    intro ks e
    cases e with
    | cons r t =>
      cases t with
      | cons r2 t2 => exact ⟨_, .swap _ _ _, .cons r2 (.cons r t2)⟩
  | trans _ _ ih1 ih2 =>
    intro ks e
    obtain ⟨m, q, f⟩ := ih2 e
    obtain ⟨m2, q2, f2⟩ := ih1 f
    exact ⟨m2, q2.trans q, f2⟩
theorem each_get {α β : Type} {R : α → β → Prop} : ∀ {l : List α} {ks : List β}, PySem.W.EachIs R l ks → ∀ {i : Nat} {x : α}, l[i]? = some x → ∃ k, ks[i]? = some k ∧ R x k
  | _, _, .nil, i, x, h => by simp at h
  | _, _, .cons r t, 0, x, h => by
    simp only [List.getElem?_cons_zero, Option.some.injEq] at h
    exact ⟨_, rfl, h ▸ r⟩
  | _, _, .cons r t, i + 1, x, h => by
    obtain ⟨k, e, f⟩ := each_get t (i := i) (by simpa using h)
    exact ⟨k, by simpa using e, f⟩
theorem each_memL {α β : Type} {R : α → β → Prop} : ∀ {l : List α} {ks : List β}, PySem.W.EachIs R l ks → ∀ {x : α}, x ∈ l → ∃ k ∈ ks, R x k
  | _, _, .nil, x, h => by cases h
  | _, _, .cons r t, x, h => by
    rcases List.mem_cons.mp h with e | e
    · exact ⟨_, List.mem_cons_self, e ▸ r⟩
    · obtain ⟨k, m, q⟩ := each_memL t e
      exact ⟨k, List.mem_cons_of_mem _ m, q⟩
theorem each_memR {α β : Type} {R : α → β → Prop} : ∀ {l : List α} {ks : List β}, PySem.W.EachIs R l ks → ∀ {k : β}, k ∈ ks → ∃ x ∈ l, R x k
  | _, _, .nil, x, h => by cases h
  | _, _, .cons r t, x, h => by
    rcases List.mem_cons.mp h with e | e
    · exact ⟨_, List.mem_cons_self, e ▸ r⟩
    · obtain ⟨k, m, q⟩ := each_memR t e
      exact ⟨k, List.mem_cons_of_mem _ m, q⟩
/-- an entry of the table -/
def EnS (w : World) (e : Int × Value) (k : Str) : Prop := ∃ tk, e = (hashStr w k, Value.str k tk)
structure TabS (w : World) (h : Heap) (a : Addr) (ks : List Str) (o : Obj) (es : Array (Int × Value)) (ep : Nat) (t : SetTable) : Prop where
  get : h.get? a = some o
  ex : o.ExactSet
  dat : o.data = .set es ep t
  mem : ∃ ms, ms.Perm ks ∧ PySem.W.EachIs (EnS w) es.toList ms
  nd : ks.Nodup
  few : es.size < scanBound
  fit : t.fits es.size = true
  ris : Ris t.place.toList
  led : w.params.followText "set-order" = true ∨ t.led = true
def SetS (w : World) (h : Heap) (a : Addr) (ks : List Str) : Prop := ∃ o es ep t, TabS w h a ks o es ep t
section
variable {P : Program} {w : World} {A : Around} {E : Value → Shared → Prop} {s : Shared} {h h' : Heap} {a : Addr} {ks : List Str} {o : Obj} {es : Array (Int × Value)} {ep : Nat} {t : SetTable}
theorem SetS.at (R : SetS w h a ks) (k : ∀ o, h.get? a = some o → h'.get? a = some o) : SetS w h' a ks := by
  obtain ⟨o, es, ep, t, R⟩ := R
  exact ⟨o, es, ep, t, { R with get := k o R.get }⟩
theorem isS (k : Str) (tk : Tok) : (strKind P w).is k (Value.str k tk) = true := by
  show Value.isStrOf k (Value.str k tk) = true
  first | simp [Value.isStrOf, Value.isStr] | (unfold Value.isStrOf; simp)
theorem ens_is {e : Int × Value} {k j : Str} (g : EnS w e k) : (strKind P w).is j e.2 = true ↔ j = k := by
  obtain ⟨tk, rfl⟩ := g
  rw [(strKind P w).is_eq_decide (isS k tk) j]
  exact decide_eq_true_iff
theorem TabS.elems (R : TabS w h a ks o es ep t) : ElemsOf (strKind P w) es.toList := fun e he => by
  obtain ⟨ms, _, f⟩ := R.mem
  obtain ⟨k, _, tk, rfl⟩ := each_memL f he
  exact ⟨⟨k, isS k tk, rfl⟩, rfl⟩
theorem TabS.has (R : TabS w h a ks o es ep t) (k : Str) : k ∈ ks ↔ ∃ e ∈ es.toList, (strKind P w).is k e.2 = true := by
  obtain ⟨ms, q, f⟩ := R.mem
  rw [← q.mem_iff]
  constructor
  · intro m
    obtain ⟨e, he, g⟩ := each_memR f m
    exact ⟨e, he, (ens_is g).mpr rfl⟩
  · rintro ⟨e, he, g⟩
    obtain ⟨k', m, g'⟩ := each_memL f he
    rw [(ens_is g').mp g]
    exact m
theorem TabS.size (R : TabS w h a ks o es ep t) : es.size = ks.length := by
  obtain ⟨ms, q, f⟩ := R.mem
  rw [← q.length_eq, ← f.length, Array.length_toList]
theorem TabS.setOf (R : TabS w h a ks o es ep t) : h.SetOf (strKind P w) a (fun k => decide (k ∈ ks)) ks.length :=
  ⟨o, es, ep, t, R.get, R.ex, R.dat, R.elems, fun k => decide_eq_true_iff.trans (R.has k), R.few, R.fit, R.size⟩
theorem addS_tail {g : Bool → Sem Unit} (hg : ∀ (b : Bool) (s₁ : Shared) (Q' : Unit → Shared → Prop), Q' () s₁ → wpAny (model P w) A (g b) Q' E s₁)
    (ho : s.heap.get? a = some o) (hx : o.ExactSet) (hdt : o.data = .set es ep t) {fs : Array (Int × Value)} {t2 : SetTable} {ls : List Str} (hm : ∃ ms, ms.Perm ls ∧ PySem.W.EachIs (EnS w) fs.toList ms) (hn : ls.Nodup)
    (hb : fs.size < scanBound) (hf : t2.fits fs.size = true) (hr : Ris t2.place.toList) (hl : w.params.followText "set-order" = true ∨ t2.led = true) {wd : Bool} {R : Option Bool → Shared → Prop}
    (hR : ∀ h', Heap.SameBut a s.heap h' → SetS w h' a ls → R (some true) { s with heap := h' }) :
    wpAny (model P w) A (do storeSet a fs t2; if (!wd && t2.tooFull) = true then do { g (relayAll t2 fs (SetTable.grown fs.size)).2.2; storeSet a (relayAll t2 fs (SetTable.grown fs.size)).1 (relayAll t2 fs (SetTable.grown fs.size)).2.1; pure (some true) } else pure (some true)) R E s := by
  refine wpAny_bind (wpAny_storeSet_of ho hdt ?_ (fits_of_scanBound hb))
  have h1 := store_at (es' := fs) (t' := t2) ho hdt
  have k1 := Heap.SameBut.update s.heap a (Obj.putSet fs t2)
  split
  · have pm := relayAll_perm t2 fs (SetTable.grown fs.size)
    have f3 := relayAll_fits t2 fs (SetTable.grown fs.size)
    have r3 := relayAll_ris t2 fs (SetTable.grown fs.size)
    have l3 := relayAll_led t2 fs (SetTable.grown fs.size)
    generalize relayAll t2 fs (SetTable.grown fs.size) = Z at pm f3 r3 l3 ⊢
    obtain ⟨gs, t3, gv⟩ := Z
    dsimp only at pm f3 r3 l3 ⊢
    have sz : gs.size = fs.size := by rw [← Array.length_toList, pm.length_eq, Array.length_toList]
    have b2 : gs.size < scanBound := by rw [sz]; exact hb
    refine wpAny_bind (hg _ _ _ ?_)
    refine wpAny_bind (wpAny_storeSet_of h1 rfl ?_ (fits_of_scanBound b2))
    have h2 := store_at (es' := gs) (t' := t3) h1 rfl
    refine wpAny_pure (hR _ (k1.trans (Heap.SameBut.update _ a _)) ?_)
    obtain ⟨ms, q, f⟩ := hm
    obtain ⟨ms2, q2, f2⟩ := each_perm pm f
    exact ⟨_, gs, _, t3, ⟨h2, hx, rfl, ⟨ms2, q2.trans q, f2⟩, hn, b2, f3, r3, hl.imp id fun z => by rw [l3]; exact z⟩⟩
  · exact wpAny_pure (hR _ k1 ⟨_, fs, _, t2, ⟨h1, hx, rfl, hm, hn, hb, hf, hr, hl⟩⟩)
def pushS (ks : List Str) (k : Str) : List Str := if k ∈ ks then ks else k :: ks
theorem addS {k : Str} {tk : Tok} {Q : Bool → Shared → Prop} (R : SetS w s.heap a ks) (room : ks.length + 1 < scanBound)
    (hQ : ∀ h' b, Heap.SameBut a s.heap h' → SetS w h' a (pushS ks k) → Q b { s with heap := h' }) :
    wpAny (model P w) A (setAddHashed a (.str k tk) (hashStr w k)) Q E s := by
  obtain ⟨o, es, ep, t, T⟩ := R
  have key := isS (P := P) (w := w) k tk
  have sc : (Value.str k tk).scannable = true := rfl
  have el := T.elems (P := P)
  show wpAny _ _ (setAddHashed a (.str k tk) ((strKind P w).hash k)) _ _ _
  unfold setAddHashed setAddHashedIn
  refine wpAny_holding (wpAny_bind (wpAny_setState_of T.get T.dat T.fit ?_))
  dsimp only
  rw [byScan_of sc T.few el]
  simp only [↓reduceIte]
  unfold setAddByScan
  refine wpAny_bind (wpAny_bind (wpAny_rule (wpAny_bind (wpAny_setScan_of key T.get T.dat T.fit el ?_))))
  cases fi : List.findIdx? (fun e => (strKind P w).is k e.2) es.toList with
  | some j =>
    dsimp only
    obtain ⟨hj, pj, _⟩ := List.findIdx?_eq_some_iff_getElem.mp fi
    have m : k ∈ ks := (T.has (P := P) k).mpr ⟨es.toList[j], List.getElem_mem hj, pj⟩
    refine wpAny_pure (wpAny_pure (hQ s.heap _ (Heap.SameBut.refl a s.heap) ?_))
    unfold pushS
    rw [if_pos m]
    exact ⟨o, es, ep, t, T⟩
  | none =>
    dsimp only
    have m : k ∉ ks := fun z => by
      obtain ⟨e, he, q⟩ := (T.has (P := P) k).mp z
      have c := List.findIdx?_eq_none_iff.mp fi e he
      rw [q] at c
      cases c
    have gw : ∀ (b : Bool) {s₁ : Shared} {Q' : Unit → Shared → Prop}, Q' () s₁ → wpAny (model P w) A (match b with | true => rule "set.scan.the-table-gave-way" | false => pure ()) Q' E s₁ :=
      fun b s₁ Q' q => by cases b <;> first | exact wpAny_pure q | exact wpAny_rule q
    have pm := layNew_perm t es ((strKind P w).hash k) (.str k tk)
    have f1 := layNew_fits t es ((strKind P w).hash k) (.str k tk)
    have r1 := layNew_ris t es ((strKind P w).hash k) (.str k tk) T.ris
    have l1 := layNew_led t es ((strKind P w).hash k) (.str k tk)
    generalize layNew t es ((strKind P w).hash k) (.str k tk) = Z at pm f1 r1 l1 ⊢
    obtain ⟨fs, t1, wd, gave⟩ := Z
    dsimp only at pm f1 r1 l1 ⊢
    rw [Array.toList_push] at pm
    have pc : fs.toList.Perm (((strKind P w).hash k, Value.str k tk) :: es.toList) := pm.trans (List.perm_append_singleton _ _)
    obtain ⟨ms, q0, f0⟩ := T.mem
    obtain ⟨ms2, q2, f2⟩ := each_perm pc (PySem.W.EachIs.cons (R := EnS w) ⟨tk, rfl⟩ f0)
    have hm : ∃ ms, ms.Perm (k :: ks) ∧ PySem.W.EachIs (EnS w) fs.toList ms := ⟨ms2, q2.trans (q0.cons k), f2⟩
    have hn : (k :: ks).Nodup := List.nodup_cons.mpr ⟨m, T.nd⟩
    have sz : fs.size = ks.length + 1 := by rw [← Array.length_toList, pc.length_eq, List.length_cons, Array.length_toList, T.size]
    have b1 : fs.size < scanBound := by rw [sz]; exact room
    have ld : w.params.followText "set-order" = true ∨ t1.led = true := T.led.imp id fun z => by rw [l1]; exact z
    have fin : ∀ h', Heap.SameBut a s.heap h' → SetS w h' a (k :: ks) → Q true { s with heap := h' } := fun h' sb r => hQ h' _ sb (by unfold pushS; rw [if_neg m]; exact r)
    refine wpAny_bind (gw _ ?_)
    split
    · refine wpAny_bind ?_
      rw [hashByValue_scannable 8 sc]
      refine wpAny_pure (addS_tail ?_ T.get T.ex T.dat hm hn b1 ?_ ?_ ?_ ?_)
      · intro b s₁ Q' q; cases b <;> first | exact wpAny_pure q | exact wpAny_rule q
      · first | (split <;> first | exact f1 | exact SetTable.fits_plain_off f1) | exact f1
      · first | (split <;> exact r1) | exact r1
      · first | (split <;> exact ld) | exact ld
      · intro h' sb r; dsimp only; exact wpAny_pure (fin h' sb r)
    · refine wpAny_bind (wpAny_pure ?_)
      simp only [↓reduceIte]
      refine addS_tail ?_ T.get T.ex T.dat hm hn b1 f1 r1 ld ?_
      · intro b s₁ Q' q; cases b <;> first | exact wpAny_pure q | exact wpAny_rule q
      · intro h' sb r; dsimp only; exact wpAny_pure (fin h' sb r)
/-- the members met so far -/
def seenS (xs : List Str) : Nat → List Str
  | 0 => []
  | i + 1 => match xs[i]? with
    | some x => pushS (seenS xs i) x
    | none => seenS xs i
theorem seenS_le (xs : List Str) : ∀ i, (seenS xs i).length ≤ i
  | 0 => Nat.le_refl 0
  | i + 1 => by
    have ih := seenS_le xs i
    unfold seenS
    cases xs[i]? with
    | none => exact Nat.le_succ_of_le ih
    | some x =>
      show (pushS (seenS xs i) x).length ≤ i + 1
      unfold pushS
      split
      · omega
      · rw [List.length_cons]
        omega
end
section
variable {P : Program} {w : World} {A : Around} {R : Result → Shared → Prop} {I : Addr} {fp wr : List Addr} {G : Array GenState → Array GenState → Prop} {n : Nat} {Pv : Nat → Value → Prop} {St : Nat → Shared → Prop}
theorem set_loopS (W : WalksS P w A.in1 I fp wr G n Pv St) (S : Addr) (hS0 : S ∉ fp) (xs : List Str) (hval : ∀ i v, Pv i v → ∃ x tk, xs[i]? = some x ∧ v = .str x tk) (hb : n + 1 < scanBound) :
    ∀ (m i : Nat) (s : Shared), n - i = m → i ≤ n → St i s → SetS w s.heap S (seenS xs i) → (∀ s', Moved (S :: wr) G s s' → SetS w s'.heap S (seenS xs n) → R (.ok (.ret .none)) s') →
      codeAny (model P w) A (.builtin "set.update.loop" ⟨[.ref S, .ref I], []⟩) R s := by
  have nw : S ∉ wr := fun h => hS0 (W.sub _ h)
  have up : ∀ b ∈ wr, b ∈ S :: wr := fun b h => List.mem_cons_of_mem _ h
  have carry : ∀ {i : Nat} {s s' : Shared}, Moved wr G s s' → SetS w s.heap S (seenS xs i) → SetS w s'.heap S (seenS xs i) := fun hm r => r.at fun o ho => hm.heap S _ nw ho
  intro m
  induction m with
  | zero =>
    intro i s em hi hst hS fin
    obtain rfl : i = n := by omega
    refine codeAny_builtin F.entry_set_update_loop ?_
    rw [Around.under_plainId F.plain_set_update_loop _]
    show wpAny _ A.in1 (pyNext (.ref I) >>= _) _ _ s
    exact wpAny_bind (W.done s _ _ hst fun s' hm => by
      show wpAny _ A.in1 (ret Value.none) _ _ s'
      exact wpAny_pure (fin s' (hm.mono up) (carry hm hS)))
  | succ m ih =>
    intro i s em hi hst hS fin
    have lt : i < n := by omega
    refine codeAny_builtin F.entry_set_update_loop ?_
    rw [Around.under_plainId F.plain_set_update_loop _]
    show wpAny _ A.in1 (pyNext (.ref I) >>= _) _ _ s
    refine wpAny_bind (W.item i s _ _ lt hst fun v s' hP hst' hm => ?_)
    obtain ⟨x, tk, hx, rfl⟩ := hval i v hP
    show wpAny _ A.in1 (holding [Value.str x tk] (setAdd S (.str x tk)) >>= _) _ _ s'
    refine wpAny_bind (wpAny_holding ?_)
    unfold setAdd
    refine wpAny_holding (wpAny_bind ((strKind P w).pyHash (k := x) (isS x tk) ?_))
    have room : (seenS xs i).length + 1 < scanBound := by have := seenS_le xs i; omega
    have hS1 : SetS w s'.heap S (seenS xs i) := carry hm hS
    refine addS (s := { s' with toks := s'.toks + 1 }) hS1 room fun h' b sb new => ?_
    have e : seenS xs (i + 1) = pushS (seenS xs i) x := by
      show (match xs[i]? with | some x => pushS (seenS xs i) x | none => seenS xs i) = _
      rw [hx]
    rw [← e] at new
    refine wpAny_pure ⟨plainId_quiet F.plain_set_update_loop _, ih (i + 1) _ (by omega) lt (W.frame _ s' _ _ hst' (Nat.le_succ _) fun b hbf o e => ?_) new fun s'' hm2 hS2 => ?_⟩
    · exact (sb.2 b fun z : b = S => hS0 (z ▸ hbf)).trans e
    · exact fin s'' (Moved.trans W.gtrans ((hm.mono up).then_heap (Nat.le_succ _) fun b o nb e => (sb.2 b fun z : b = S => nb (z ▸ List.mem_cons_self)).trans e) hm2) hS2
end
end PL

set_option maxHeartbeats 4000000
namespace PL
open PySem PySem.Spec PyProof.Rows L2 PySem.Calls PySem.W
section
variable {P : Program} {w : World} {A : Around} {E : Value → Shared → Prop} {s : Shared}
/-- the empty set, as it is made -/
abbrev sob (w : World) : Obj := { cls := .type "set", dict := none, data := .set #[] 0 (.fresh 0 0 (!w.params.followText "set-order")) }
theorem tabS_fresh {h : Heap} {a : Addr} (g : h.get? a = some (sob w)) : SetS w h a [] :=
  ⟨_, #[], 0, _, ⟨g, ⟨rfl, rfl, rfl⟩, rfl, ⟨[], .refl _, .nil⟩, List.nodup_nil, by decide, rfl, List.Pairwise.nil, by
    show _ ∨ (!w.params.followText "set-order") = true
    cases w.params.followText "set-order"
    · exact .inr rfl
    · exact .inl rfl⟩⟩
/-- the different ones of some texts -/
abbrev dif (xs : List Str) : List Str := seenS xs xs.length
structure MadeS (w : World) (xs : List Str) (s s' : Shared) : Prop where
  set : SetS w s'.heap s.heap.objs.size (dif xs)
  heap : ∀ b o, s.heap.get? b = some o → s'.heap.get? b = some o
  gens : s'.gens = s.gens
  drawn : s'.drawn = s.drawn
  os : s'.os = s.os
set_option maxHeartbeats 3200000 in
theorem set_list {l : Addr} {its : Array Value} {xs : List Str} {Q : Value → Shared → Prop} (hh : A.handled = none) (hl : s.heap.IsList l its) (hi : StrsAre its.toList xs) (hb : its.size + 1 < scanBound)
    (h : ∀ s', MadeS w xs s s' → Q (.ref s.heap.objs.size) s') : wpAny (model P w) A (call (.type "set") [.ref l]) Q E s := by
  have sz : xs.length = its.size := by rw [← StrsAre.len_eq hi, Array.length_toList]
  obtain ⟨c0, t0, mr0⟩ := F.called_set.mro
  have md0 := F.called_set.made
  have sb0 := F.called_set.sub
  refine wpAny_call (codeAny_of_tree ?_); show wpAny _ _ (callAny (.type "set") _) _ _ _
  refine wpAny_pure ⟨Code.quiet_builtin _ (by decide +kernel), codeAny_builtin F.entry_type_call ?_⟩; rw [Around.under_plain (weight_type_call_type "set" [.ref l] []) rfl]
  have nt0 := F.called_set.notType
  have cc0 := F.called_set.canCreate
  have tc0 := F.typeCall_set_1 (.ref l)
  repeat (any_goals (first | assumption | wp_step))
  refine codeAny_mono (code_set_led1 (.ref l) (E := E) (Q₁ := fun obj s₁ => obj = .ref s.heap.objs.size ∧ s₁ = { s with heap := s.heap.push (sob w) }) ⟨rfl, rfl⟩) fun r s₁ hr => ?_
  cases r with
  | error e => exact hr
  | ok fl =>
    cases fl with
    | ret obj =>
      obtain ⟨rfl, rfl⟩ := hr
      have g0 : (s.heap.push (sob w)).get? s.heap.objs.size = some (sob w) := Heap.get?_push_size _ rfl
      have ty0 : Shared.TypeIs { s with heap := s.heap.push (sob w) } (.ref s.heap.objs.size) "set" := ⟨_, g0, rfl⟩
      have li0 := F.called_set.init.lookup
      have bi0 := F.called_set.init.bind (.ref s.heap.objs.size)
      repeat (any_goals (first | assumption | wp_step))
      refine codeAny_mono (codeAny_call_builtin (R := wants (fun r s₂ => r = .none ∧ MadeS w xs s s₂) E) F.called_set.init.plain F.entry_set_init (check_set_init_1 ty0 ?_)) fun r₂ s₂ hr₂ => ?_
      · obtain ⟨ol, gl, cl, nl, dl⟩ := hl
        obtain ⟨ocls, odict, odata, oslots⟩ := ol
        simp only at cl dl
        subst cl; subst dl
        have gl' : (s.heap.push (sob w)).get? l = some { cls := .type "list", dict := odict, data := .seq its nl, slots := oslots } := Heap.get?_push_of_some _ gl
        have s1 := F.sub_list_set
        have s2 := F.sub_list_frozenset
        have s3 : (Value.type "list" == Value.type "dict") = false := by decide
        have il : (s.heap.push (sob w)).IsList l its := ⟨_, gl', rfl, nl, rfl⟩
        unfold Builtin.«set.__init__» noKeywords Builtin.Frozenset.updateFrom
        generalize hPI : pyIter = PI
        wp_walk
        subst hPI
        refine wpAny_pyIter_list il (wpAny_bind (wpAny_runValue ?_))
        have lt0 : l < s.heap.objs.size := Heap.lt_size gl
        have h3 : A.in1.in1.in1.handled = none := by simp [hh]
        have ne0 : l ≠ (s.heap.push (sob w)).objs.size := by rw [Heap.size_push]; exact Nat.ne_of_lt (Nat.lt_succ_of_lt lt0)
        have no0 : s.heap.objs.size ∉ [(s.heap.push (sob w)).objs.size, l] := by
          rw [Heap.size_push]
          intro z
          rcases List.mem_cons.mp z with z | z
          · exact absurd z (Nat.ne_of_lt (Nat.lt_succ_self _))
          · exact absurd (List.mem_singleton.mp z) (Nat.ne_of_gt lt0)
        have val0 : ∀ (i : Nat) (v : Value), its[i]? = some v → ∃ x tk, xs[i]? = some x ∧ v = .str x tk := fun i v hv => by
          have hx : i < xs.length := by rw [sz]; exact (Array.getElem?_eq_some_iff.mp hv).1
          obtain ⟨tk, e⟩ := SS.strs_at hi i v (by rw [Array.getElem?_toList]; exact hv)
          refine ⟨xs[i], tk, List.getElem?_eq_getElem hx, ?_⟩
          rw [e, List.getD_eq_getElem?_getD, List.getElem?_eq_getElem hx] <;> rfl
        refine set_loopS ((Walks.list h3 _ l ne0 its).toS) s.heap.objs.size no0 xs val0 hb (its.size - 0) 0 _ (by omega) (Nat.zero_le _) ⟨⟨_, Heap.get?_push_size _ rfl, rfl, rfl⟩, (il.push _)⟩ ?st0 ?en0
        case st0 => exact tabS_fresh (Heap.get?_push_of_some _ g0)
        case en0 =>
          intro s' hm hS
          refine wpAny_pure (wpAny_pure ⟨rfl, ⟨by rw [← sz] at hS; exact hS, fun b o e => ?_, hm.gens, hm.drawn, hm.os⟩⟩)
          have lb : b < s.heap.objs.size := Heap.lt_size e
          refine hm.heap b o (fun z => ?_) (Heap.get?_push_of_some _ (Heap.get?_push_of_some _ e))
          rcases List.mem_cons.mp z with z | z
          · exact absurd z (Nat.ne_of_lt lb)
          · have z2 := List.mem_singleton.mp z
            rw [Heap.size_push] at z2
            exact absurd z2 (Nat.ne_of_lt (Nat.lt_succ_of_lt lb))
      · cases r₂ with
        | error e => exact hr₂
        | ok fl₂ =>
          cases fl₂ with
          | ret r =>
            obtain ⟨rfl, M⟩ := hr₂
            repeat (any_goals (first | assumption | wp_step))
            exact h _ M
          | _ => exact hr₂.elim
    | _ => exact hr.elim
set_option maxHeartbeats 3200000 in
theorem set_tuple {l : Addr} {its : Array Value} {xs : List Str} {Q : Value → Shared → Prop} (hh : A.handled = none) (hl : s.heap.IsTuple l its) (hi : StrsAre its.toList xs) (hb : its.size + 1 < scanBound)
    (h : ∀ s', MadeS w xs s s' → Q (.ref s.heap.objs.size) s') : wpAny (model P w) A (call (.type "set") [.ref l]) Q E s := by
  have sz : xs.length = its.size := by rw [← StrsAre.len_eq hi, Array.length_toList]
  obtain ⟨c0, t0, mr0⟩ := F.called_set.mro
  have md0 := F.called_set.made
  have sb0 := F.called_set.sub
  refine wpAny_call (codeAny_of_tree ?_); show wpAny _ _ (callAny (.type "set") _) _ _ _
  refine wpAny_pure ⟨Code.quiet_builtin _ (by decide +kernel), codeAny_builtin F.entry_type_call ?_⟩; rw [Around.under_plain (weight_type_call_type "set" [.ref l] []) rfl]
  have nt0 := F.called_set.notType
  have cc0 := F.called_set.canCreate
  have tc0 := F.typeCall_set_1 (.ref l)
  repeat (any_goals (first | assumption | wp_step))
  refine codeAny_mono (code_set_led1 (.ref l) (E := E) (Q₁ := fun obj s₁ => obj = .ref s.heap.objs.size ∧ s₁ = { s with heap := s.heap.push (sob w) }) ⟨rfl, rfl⟩) fun r s₁ hr => ?_
  cases r with
  | error e => exact hr
  | ok fl =>
    cases fl with
    | ret obj =>
      obtain ⟨rfl, rfl⟩ := hr
      have g0 : (s.heap.push (sob w)).get? s.heap.objs.size = some (sob w) := Heap.get?_push_size _ rfl
      have ty0 : Shared.TypeIs { s with heap := s.heap.push (sob w) } (.ref s.heap.objs.size) "set" := ⟨_, g0, rfl⟩
      have li0 := F.called_set.init.lookup
      have bi0 := F.called_set.init.bind (.ref s.heap.objs.size)
      repeat (any_goals (first | assumption | wp_step))
      refine codeAny_mono (codeAny_call_builtin (R := wants (fun r s₂ => r = .none ∧ MadeS w xs s s₂) E) F.called_set.init.plain F.entry_set_init (check_set_init_1 ty0 ?_)) fun r₂ s₂ hr₂ => ?_
      · obtain ⟨ol, gl, cl, nl, dl⟩ := hl
        obtain ⟨ocls, odict, odata, oslots⟩ := ol
        simp only at cl dl
        subst cl; subst dl
        have gl' : (s.heap.push (sob w)).get? l = some { cls := .type "tuple", dict := odict, data := .seq its nl, slots := oslots } := Heap.get?_push_of_some _ gl
        have s1 := F.sub_tuple_set
        have s2 := F.sub_tuple_frozenset
        have s3 : (Value.type "tuple" == Value.type "dict") = false := by decide
        have il : (s.heap.push (sob w)).IsTuple l its := ⟨_, gl', rfl, nl, rfl⟩
        unfold Builtin.«set.__init__» noKeywords Builtin.Frozenset.updateFrom
        generalize hPI : pyIter = PI
        wp_walk
        subst hPI
        refine wpAny_pyIter_tuple il (wpAny_bind (wpAny_runValue ?_))
        have lt0 : l < s.heap.objs.size := Heap.lt_size gl
        have h3 : A.in1.in1.in1.handled = none := by simp [hh]
        have ne0 : l ≠ (s.heap.push (sob w)).objs.size := by rw [Heap.size_push]; exact Nat.ne_of_lt (Nat.lt_succ_of_lt lt0)
        have no0 : s.heap.objs.size ∉ [(s.heap.push (sob w)).objs.size, l] := by
          rw [Heap.size_push]
          intro z
          rcases List.mem_cons.mp z with z | z
          · exact absurd z (Nat.ne_of_lt (Nat.lt_succ_self _))
          · exact absurd (List.mem_singleton.mp z) (Nat.ne_of_gt lt0)
        have val0 : ∀ (i : Nat) (v : Value), its[i]? = some v → ∃ x tk, xs[i]? = some x ∧ v = .str x tk := fun i v hv => by
          have hx : i < xs.length := by rw [sz]; exact (Array.getElem?_eq_some_iff.mp hv).1
          obtain ⟨tk, e⟩ := SS.strs_at hi i v (by rw [Array.getElem?_toList]; exact hv)
          refine ⟨xs[i], tk, List.getElem?_eq_getElem hx, ?_⟩
          rw [e, List.getD_eq_getElem?_getD, List.getElem?_eq_getElem hx] <;> rfl
        refine set_loopS ((Walks.tuple h3 _ l ne0 its).toS) s.heap.objs.size no0 xs val0 hb (its.size - 0) 0 _ (by omega) (Nat.zero_le _) ⟨⟨_, Heap.get?_push_size _ rfl, rfl, rfl⟩, (il.push _)⟩ ?st0 ?en0
        case st0 => exact tabS_fresh (Heap.get?_push_of_some _ g0)
        case en0 =>
          intro s' hm hS
          refine wpAny_pure (wpAny_pure ⟨rfl, ⟨by rw [← sz] at hS; exact hS, fun b o e => ?_, hm.gens, hm.drawn, hm.os⟩⟩)
          have lb : b < s.heap.objs.size := Heap.lt_size e
          refine hm.heap b o (fun z => ?_) (Heap.get?_push_of_some _ (Heap.get?_push_of_some _ e))
          rcases List.mem_cons.mp z with z | z
          · exact absurd z (Nat.ne_of_lt lb)
          · have z2 := List.mem_singleton.mp z
            rw [Heap.size_push] at z2
            exact absurd z2 (Nat.ne_of_lt (Nat.lt_succ_of_lt lb))
      · cases r₂ with
        | error e => exact hr₂
        | ok fl₂ =>
          cases fl₂ with
          | ret r =>
            obtain ⟨rfl, M⟩ := hr₂
            repeat (any_goals (first | assumption | wp_step))
            exact h _ M
          | _ => exact hr₂.elim
    | _ => exact hr.elim
end

end PL

set_option maxHeartbeats 4000000
namespace PL
open PySem PySem.Spec PyProof.Rows L2 PySem.Calls PySem.W
/-! ### the order of texts -/
def leS (a b : Str) : Bool := decide (a.cps.toList ≤ b.cps.toList)
def ltS (a b : Str) : Bool := decide (a.cps.toList < b.cps.toList)
theorem leS_total (a b : Str) : (leS a b || leS b a) = true := by
  unfold leS
  rcases List.le_total a.cps.toList b.cps.toList with h | h
  · rw [decide_eq_true h, Bool.true_or]
  · rw [decide_eq_true h, Bool.or_true]
theorem leS_trans (a b c : Str) (h1 : leS a b = true) (h2 : leS b c = true) : leS a c = true := decide_eq_true (List.le_trans (of_decide_eq_true h1) (of_decide_eq_true h2))
theorem leS_anti {a b : Str} (h1 : leS a b = true) (h2 : leS b a = true) : a = b := str_of_cps (List.le_antisymm (of_decide_eq_true h1) (of_decide_eq_true h2))
theorem ltS_iff {a b : Str} : ltS a b = true ↔ leS a b = true ∧ a ≠ b := by
  unfold ltS leS
  rw [decide_eq_true_iff, decide_eq_true_iff]
  constructor
  · intro h
    exact ⟨List.le_of_lt h, fun e => by subst e; exact absurd h (List.lt_irrefl _)⟩
  · rintro ⟨h, n⟩
    rcases Decidable.em (a.cps.toList < b.cps.toList) with q | q
    · exact q
    · exact absurd (str_of_cps (List.le_antisymm h (List.not_lt.mp q))) n
abbrev sortS (xs : List Str) : List Str := xs.mergeSort leS
/-- one sorted list alone -/
theorem perm_sorted_eq {α : Type} {le : α → α → Bool} (anti : ∀ {a b : α}, le a b = true → le b a = true → a = b) : ∀ {l m : List α}, l.Perm m → l.Pairwise (fun a b => le a b = true) → m.Pairwise (fun a b => le a b = true) → l = m
  | [], m, h, _, _ => (List.Perm.nil_eq h)
  | a :: l, [], h, _, _ => absurd h.length_eq (by simp)
  | a :: l, b :: m, h, h1, h2 => by
    have e : a = b := by
      have m1 : a ∈ b :: m := h.subset List.mem_cons_self
      have m2 : b ∈ a :: l := h.symm.subset List.mem_cons_self
      rcases List.mem_cons.mp m1 with e | m1
      · exact e
      · rcases List.mem_cons.mp m2 with e | m2
        · exact e.symm
        · exact anti ((List.pairwise_cons.mp h1).1 _ m2) ((List.pairwise_cons.mp h2).1 _ m1)
    subst e
    rw [perm_sorted_eq anti ((List.perm_cons a).mp h) (List.pairwise_cons.mp h1).2 (List.pairwise_cons.mp h2).2]
theorem sortS_pw (xs : List Str) : (sortS xs).Pairwise fun a b => leS a b = true := List.pairwise_mergeSort leS_trans leS_total xs
theorem sortS_perm (xs : List Str) : (sortS xs).Perm xs := List.mergeSort_perm _ _
theorem sortS_eq {xs ys : List Str} (p : xs.Perm ys) : sortS xs = sortS ys := perm_sorted_eq (le := leS) leS_anti (((sortS_perm xs).trans p).trans (sortS_perm ys).symm) (sortS_pw xs) (sortS_pw ys)
theorem sortS_self {xs : List Str} (h : xs.Pairwise fun a b => leS a b = true) : sortS xs = xs := perm_sorted_eq (le := leS) leS_anti (sortS_perm xs) (sortS_pw xs) h
/-- sorted data -/
theorem dataLe_strs (a b : Str) : dataLe false id (PyData.str a) (PyData.str b) = leS a b := congrFun (congrFun (dataLe_str (β := Str) id) a) b
theorem merge_map {α β : Type} (f : α → β) {le : β → β → Bool} {le' : α → α → Bool} (h : ∀ a b, le (f a) (f b) = le' a b) (xs : List α) : (xs.map f).mergeSort le = (xs.mergeSort le').map f := by
  have := List.map_mergeSort (r := le') (s := le) (f := f) (l := xs) (fun a _ b _ => (h a b).symm)
  exact this.symm
theorem srt_strs (xs : List Str) : srt (xs.map .str) = (sortS xs).map .str := merge_map PyData.str (le' := leS) dataLe_strs xs
theorem sortOk_strs {xs : List Str} (h : xs.length ≤ 1000000) : SortOk (xs.map .str) where
  al := AllAlike.of fun b b' => rfl
  so := Sortable.others fun b => ⟨(fun h => nomatch h), fun xs h => nomatch h⟩
  dp := fun d hd => by
    obtain ⟨x, _, rfl⟩ := List.mem_map.mp hd
    exact Nat.zero_le _
  ln := by
    rw [List.length_map]
    exact leZ h
section
variable {X : Cx} {Γ : Ga} {a : Expr} {p p2 q pos : Pos} {ds : List D}
theorem goN_sortS {x : D} {xs : List Str} (hu : UOk X) (hm : X.mg "sorted" = none) (ha : Go X Γ a x) (hs : SeqOk x (xs.map .str)) (hl : xs.length ≤ 1000000) (hg : Gl X "sorted" := by rfl) (he : starEach [a] X.env = (false, eval a X.env) :: starEach [] X.env := by rfl) :
    GoN X Γ (.Call (.Name "sorted" p) [a] [] pos) ((sortS xs).map .str) := by
  rw [← srt_strs]
  exact goN_sortD hu hm ha hs (sortOk_strs hl) hg he
/-! ### len(set(xs)), sorted(set(xs)) of texts -/
theorem vals_strsAre : ∀ {ys : List Str} {us : List Value}, Vals (ys.map V.str) us → StrsAre us ys := fun h => L2.strsAre_of h
/-- a set of texts is made of a list or a tuple -/
def tSetS (K : PySem.W.Frag) (ta : TE) (R : List Str → Hp → Prop) : L2.St → Hp → Prop := fun σ H => ta σ H fun x H1 => ∃ (l : Addr) (xs : List Str), x = V.ref l ∧ (SqL K H1 l (xs.map V.str) ∨ SqT K H1 l (xs.map V.str)) ∧ xs.length < 4000 ∧ R xs H1
theorem set_made {pins : List (Addr × Obj)} {σ : L2.St} {H : Hp} {s : Shared} {l : Addr} {xs : List Str} {Q : Value → Shared → Prop} {E : Value → Shared → Prop} {A : Around} (hA : A.handled = none) (I : Inv X pins σ H s) (h : SqL X.K H l (xs.map V.str) ∨ SqT X.K H l (xs.map V.str)) (hz : xs.length < 4000)
    (hQ : ∀ s', MadeS X.w xs s s' → Inv X pins σ H s' → Q (.ref s.heap.objs.size) s') : wpAny (model X.prog X.w) A (call (.type "set") [.ref l]) Q E s := by
  have fin : ∀ s', MadeS X.w xs s s' → Q (.ref s.heap.objs.size) s' := fun s' M => hQ s' M (by
    obtain ⟨h', g', d', t', o'⟩ := s'
    have e1 : g' = s.gens := M.gens
    have e2 : d' = s.drawn := M.drawn
    have e3 : o' = s.os := M.os
    subst e1 e2 e3
    exact I.kept M.heap)
  rcases h with h | h
  · obtain ⟨its, r, pl, _⟩ := I.list h
    have hl : its.toArray.size = xs.length := by rw [List.size_toArray, ← r.length, List.length_map]
    exact set_list hA pl.isList (by simpa using vals_strsAre r) (by rw [hl]; unfold scanBound; omega) fin
  · obtain ⟨its, r, pl, _⟩ := I.tuple h
    have hl : its.toArray.size = xs.length := by rw [List.size_toArray, ← r.length, List.length_map]
    exact set_tuple hA pl (by simpa using vals_strsAre r) (by rw [hl]; unfold scanBound; omega) fin
theorem seenS_nd (xs : List Str) : ∀ i, (seenS xs i).Nodup
  | 0 => List.nodup_nil
  | i + 1 => by
    have ih := seenS_nd xs i
    unfold seenS
    cases xs[i]? with
    | none => exact ih
    | some x =>
      show (pushS (seenS xs i) x).Nodup
      unfold pushS
      split
      · exact ih
      · exact List.nodup_cons.mpr ⟨by assumption, ih⟩
theorem mem_pushS {ks : List Str} {x y : Str} : y ∈ pushS ks x ↔ y = x ∨ y ∈ ks := by
  unfold pushS
  split
  · exact ⟨.inr, fun h => h.elim (fun e => by subst e; assumption) id⟩
  · exact List.mem_cons
theorem mem_seenS (xs : List Str) : ∀ i y, y ∈ seenS xs i ↔ y ∈ xs.take i
  | 0, y => by simp [seenS]
  | i + 1, y => by
    unfold seenS
    cases q : xs[i]? with
    | none =>
      have hl : xs.length ≤ i := List.getElem?_eq_none_iff.mp q
      have h1 : xs.take (i + 1) = xs.take i := by rw [List.take_of_length_le (Nat.le_succ_of_le hl), List.take_of_length_le hl]
      rw [h1]
      exact mem_seenS xs i y
    | some x =>
      show y ∈ pushS (seenS xs i) x ↔ _
      rw [mem_pushS, mem_seenS xs i y, List.take_add_one, q]
      simp only [Option.toList, List.mem_append, List.mem_singleton]
      exact Or.comm
theorem mem_dif {xs : List Str} {y : Str} : y ∈ dif xs ↔ y ∈ xs := by
  rw [mem_seenS, List.take_length]
theorem dif_nd (xs : List Str) : (dif xs).Nodup := seenS_nd xs _
theorem nodup_perm {α : Type} [DecidableEq α] {l m : List α} (h1 : l.Nodup) (h2 : m.Nodup) (h : ∀ x, x ∈ l ↔ x ∈ m) : l.Perm m := by
  rw [List.perm_iff_count]
  intro a
  rw [h1.count, h2.count]
  by_cases ha : a ∈ l
  · rw [if_pos ha, if_pos ((h a).mp ha)]
  · rw [if_neg ha, if_neg (fun z => ha ((h a).mpr z))]
theorem dif_perm {xs : List Str} (h : xs.Nodup) : (dif xs).Perm xs := nodup_perm (dif_nd xs) h fun _ => mem_dif
theorem dif_len {xs : List Str} (h : xs.Nodup) : (dif xs).length = xs.length := (dif_perm h).length_eq
theorem sub_perm {α : Type} [DecidableEq α] : ∀ {l m : List α}, l.Nodup → (∀ x ∈ l, x ∈ m) → m.length ≤ l.length → l.Perm m
  | [], m, _, _, h => by
    have : m = [] := List.eq_nil_of_length_eq_zero (Nat.le_zero.mp h)
    rw [this]
  | x :: l, m, hn, hs, h => by
    obtain ⟨h1, h2⟩ := List.nodup_cons.mp hn
    have hx : x ∈ m := hs x List.mem_cons_self
    have hp := List.perm_cons_erase hx
    have ih := sub_perm (m := m.erase x) h2 (fun y hy => (List.mem_erase_of_ne (fun (e : y = x) => h1 (by rw [← e]; exact hy))).mpr (hs y (List.mem_cons_of_mem _ hy))) (by
      have := hp.length_eq
      rw [List.length_cons] at this h
      omega)
    exact (ih.cons x).trans hp.symm
theorem dif_le (xs : List Str) : (dif xs).length ≤ xs.length := seenS_le xs xs.length
theorem dif_len_lt {xs : List Str} (h : ¬ xs.Nodup) : (dif xs).length < xs.length := by
  have h0 := seenS_le xs xs.length
  rcases Nat.lt_or_ge (dif xs).length xs.length with q | q
  · exact q
  · refine absurd ?_ h
    have sub : ∀ x ∈ dif xs, x ∈ xs := fun x hx => mem_dif.mp hx
    have hp : (dif xs).Perm xs := sub_perm (dif_nd xs) sub q
    exact hp.nodup_iff.mp (dif_nd xs)
theorem go_lenSetS {x : D} {xs : List Str} (hc : X.calm = true) (hm : X.mg "len" = none) (hm2 : X.mg "set" = none) (ha : Go X Γ a x) (hs : SeqOk x (xs.map .str)) (hl : xs.length < 4000) (hg : Gl X "len" := by rfl) (hg2 : Gl X "set" := by rfl)
    (na : starEach [a] X.env = (false, eval a X.env) :: starEach [] X.env := by rfl) : Go X Γ (.Call (.Name "len" p) [.Call (.Name "set" p2) [a] [] q] [] pos) (.int (dif xs).length) := .mk fun σ B H Fs E Q q0 => by
  have step : wpE X a σ H fun v H1 => ∃ B1 l, Nw B H B1 H1 ∧ v = .ref l ∧ (SqL X.K H1 l (xs.map V.str) ∨ SqT X.K H1 l (xs.map V.str)) := ha σ B H Fs E _ fun v B1 H1 n1 r1 => by
    cases x with
    | list es =>
      have e : xs.map .str = es := hs
      subst e
      obtain ⟨p, us, rfl, h3, h4⟩ := dp_lst r1
      rw [dps_strs_inv h4] at h3
      exact ⟨B1, p, n1, rfl, .inl (n1.bh.sl h3)⟩
    | tuple es =>
      have e : xs.map .str = es := hs
      subst e
      obtain ⟨p, us, rfl, h3, h4⟩ := dp_tup r1
      rw [dps_strs_inv h4] at h3
      exact ⟨B1, p, n1, rfl, .inr (n1.bh.st h3)⟩
    | _ => exact absurd hs (by simp [SeqOk])
  intro pins s I
  refine Call_ (ld_blt I hg hm PySem.boot_len ?_)
  refine PyProof.Rows.callWith_builtin1 (PyProof.Rows.args_cons ?_ rfl) rfl rfl
  refine Call_ (ld_blt I hg2 hm2 PyProof.Rows.boot_set ?_)
  refine PyProof.Rows.callWith_type1 (PyProof.Rows.args_cons (thn (step pins s I) fun v s1 ⟨x, H1, I1, r1, B1, l, n1, hx, hq⟩ => PyProof.Rows.args_nil ?_) na) na rfl
  subst hx
  cases r1
  refine set_made (I1.ok.hd hc) I1 hq hl fun s2 M I2 => PyProof.Rows.args_nil ?_
  obtain ⟨o, es, ep, t, T⟩ := M.set
  have hz : es.size = (dif xs).length := T.size
  have hle := dif_le xs
  refine PySem.call_len_set T.get T.ex T.dat T.fit (by rw [hz]; omega) ⟨.int (dif xs).length, H1, I2.tok _, ⟨_, by rw [hz]⟩, q0 _ B1 H1 n1 (Dp.int _)⟩
theorem goN_sortSetS {x : D} {xs : List Str} (hu : UOk X) (hc : X.calm = true) (hm : X.mg "sorted" = none) (hm2 : X.mg "set" = none) (ha : Go X Γ a x) (hs : SeqOk x (xs.map .str)) (hl : xs.length < 4000) (hg : Gl X "sorted" := by rfl) (hg2 : Gl X "set" := by rfl)
    (na : starEach [a] X.env = (false, eval a X.env) :: starEach [] X.env := by rfl) : GoN X Γ (.Call (.Name "sorted" p) [.Call (.Name "set" p2) [a] [] q] [] pos) ((sortS (dif xs)).map .str) := .mk fun σ B H Fs E Q q0 => by
  have step : wpE X a σ H fun v H1 => ∃ B1 l, Nw B H B1 H1 ∧ v = .ref l ∧ (SqL X.K H1 l (xs.map V.str) ∨ SqT X.K H1 l (xs.map V.str)) := ha σ B H Fs E _ fun v B1 H1 n1 r1 => by
    cases x with
    | list es =>
      have e : xs.map .str = es := hs
      subst e
      obtain ⟨p, us, rfl, h3, h4⟩ := dp_lst r1
      rw [dps_strs_inv h4] at h3
      exact ⟨B1, p, n1, rfl, .inl (n1.bh.sl h3)⟩
    | tuple es =>
      have e : xs.map .str = es := hs
      subst e
      obtain ⟨p, us, rfl, h3, h4⟩ := dp_tup r1
      rw [dps_strs_inv h4] at h3
      exact ⟨B1, p, n1, rfl, .inr (n1.bh.st h3)⟩
    | _ => exact absurd hs (by simp [SeqOk])
  intro pins s I
  refine Call_ (ld_blt I hg hm PyProof.Rows.boot_sorted ?_)
  refine PyProof.Rows.callWith_builtin1 (PyProof.Rows.args_cons ?_ rfl) rfl rfl
  refine Call_ (ld_blt I hg2 hm2 PyProof.Rows.boot_set ?_)
  refine PyProof.Rows.callWith_type1 (PyProof.Rows.args_cons (thn (step pins s I) fun v s1 ⟨x, H1, I1, r1, B1, l, n1, hx, hq⟩ => PyProof.Rows.args_nil ?_) na) na rfl
  subst hx
  cases r1
  refine set_made (I1.ok.hd hc) I1 hq hl fun s2 M I2 => PyProof.Rows.args_nil ?_
  obtain ⟨o, es, ep, t, T⟩ := M.set
  have hle := dif_le xs
  have hok : ∀ ks : List Str, ks.Perm (dif xs) → SortOk (ks.map .str) := fun ks hp => sortOk_strs (by rw [hp.length_eq]; omega)
  refine sorted_gen (B := B1) n1.bh (fun ds => ∃ ks : List Str, ks.Perm (dif xs) ∧ ds = ks.map .str) (fun ds ⟨ks, hp, e⟩ => e ▸ hok ks hp) hu I2 (fun Q' hQ => ?_) (fun ds ys p ⟨ks, hp, e⟩ hpn hy => ?_)
  · refine collect_set (A := X.A.in1) (I1.ok.hd hc) ⟨o, T.get, T.ex.1, T.dat⟩ T.fit T.few T.ris T.led fun s3 out k3 z3 g3 o3 pm => ?_
    obtain ⟨ms, pms, em⟩ := T.mem
    have em2 : PySem.W.EachIs (fun (v : Value) (k : Str) => ∃ tk, v = .str k tk) (es.toList.map (·.2)) ms := by
      generalize es.toList = l at em
      clear pm pms T
      induction em with
      | nil => exact .nil
      | cons h _ ih =>
        obtain ⟨tk, e⟩ := h
        exact .cons ⟨tk, by rw [e]⟩ ih
    obtain ⟨ns, pns, en⟩ := each_perm pm em2
    refine hQ s3 out (ns.map .str) ⟨k3, g3, o3⟩ (by rw [g3]; exact I2.bare) ?_ ⟨ns, pns.trans pms, rfl⟩
    clear pns pm
    induction en with
    | nil => exact .nil
    | cons h _ ih =>
      obtain ⟨tk, e⟩ := h
      exact .cons ⟨.str _, by rw [e]; exact ⟨tk, rfl⟩, Dp.str _⟩ ih
  · subst e
    rw [srt_strs, sortS_eq hp] at hy
    have n2 := n1.trans (.lay (o := .lst ys) n1.bh hpn)
    exact q0 p ys B1 _ n2 (n1.hh.none hpn) (n1.bh.none hpn) upd_same hy
end
end PL

set_option maxHeartbeats 2000000
namespace PL
open PySem PySem.Spec PyProof.Rows L2
/-! ### classes -/
def ClsAt (K : PySem.W.Frag) (x : Str) (C : Addr) : Prop := PySem.W.nsIn K mainGlobals x = some (some (.ref C))
theorem ClsAt.eq {K : PySem.W.Frag} {x : Str} {C C' : Addr} (h : ClsAt K x C) (h' : ClsAt K x C') : C = C' := by
  have := h.symm.trans h'
  cases this
  rfl
/-! ### an object that is not changed any more -/
inductive FlP (K : PySem.W.Frag) (B : Hp) : List (Str × V) → List (Str × Mn) → Prop
  | nil : FlP K B [] []
  | cons {f : Str} {v : V} {vs : List (Str × V)} {P : Mn} {Ps : List (Str × Mn)} : P.p K B v → FlP K B vs Ps → FlP K B ((f, v) :: vs) ((f, P) :: Ps)
theorem FlP.up {K : PySem.W.Frag} {B B' : Hp} (e : Ex B B') : ∀ {vs : List (Str × V)} {Ps : List (Str × Mn)}, FlP K B vs Ps → FlP K B' vs Ps
  | _, _, .nil => .nil
  | _, _, .cons (P := P) h t => .cons (P.up e h) (t.up e)
theorem FlP.get {K : PySem.W.Frag} {B : Hp} {f : Str} {P : Mn} : ∀ {vs : List (Str × V)} {Ps : List (Str × Mn)}, FlP K B vs Ps → Ps.lookup f = some P → ∃ v, vs.lookup f = some v ∧ P.p K B v
  | _, _, .nil, h => nomatch h
  | _, _, .cons (f := g) (v := v) h t, e => by
    rw [List.lookup_cons] at e ⊢
    by_cases q : (f == g) = true
    · rw [q] at e ⊢
      cases e
      exact ⟨v, rfl, h⟩
    · have q : (f == g) = false := by simpa using q
      rw [q] at e ⊢
      exact t.get e
theorem FlP.none {K : PySem.W.Frag} {B : Hp} {f : Str} : ∀ {vs : List (Str × V)} {Ps : List (Str × Mn)}, FlP K B vs Ps → Ps.lookup f = none → vs.lookup f = none
  | _, _, .nil, _ => rfl
  | _, _, .cons (f := g) h t, e => by
    rw [List.lookup_cons] at e ⊢
    by_cases q : (f == g) = true
    · rw [q] at e
      cases e
    · have q : (f == g) = false := by simpa using q
      rw [q] at e ⊢
      exact t.none e
def insP (x : Str) (Ps : List (Str × Mn)) : Mn := ⟨fun K B v => ∃ C a dx vs, ClsAt K x C ∧ v = .ref a ∧ B a = some (.ins C dx vs) ∧ FlP K B vs Ps, fun e ⟨C, a, dx, vs, h1, h2, h3, h4⟩ => ⟨C, a, dx, vs, h1, h2, e _ _ h3, h4.up e⟩⟩
/-! ### an object of our own -/
inductive FlO (K : PySem.W.Frag) (B H : Hp) : List (Str × V) → List (Str × Sl) → List Addr → Prop
  | nil : FlO K B H [] [] []
  | pr {f : Str} {v : V} {vs : List (Str × V)} {P : Mn} {Ss : List (Str × Sl)} {F : List Addr} : P.p K B v → FlO K B H vs Ss F → FlO K B H ((f, v) :: vs) ((f, .pr P) :: Ss) F
  | ob {f : Str} {v : V} {vs : List (Str × V)} {W : Ow} {F1 : List Addr} {Ss : List (Str × Sl)} {F : List Addr} : W.p K B H v F1 → (∀ a ∈ F1, a ∉ F) → FlO K B H vs Ss F → FlO K B H ((f, v) :: vs) ((f, .ob W) :: Ss) (F1 ++ F)
theorem FlO.upB {K : PySem.W.Frag} {B B' H : Hp} (e : Ex B B') : ∀ {vs : List (Str × V)} {Ss : List (Str × Sl)} {F : List Addr}, FlO K B H vs Ss F → FlO K B' H vs Ss F
  | _, _, _, .nil => .nil
  | _, _, _, .pr (P := P) h t => .pr (P.up e h) (t.upB e)
  | _, _, _, .ob (W := W) h d t => .ob (W.upB e h) d (t.upB e)
theorem FlO.loc {K : PySem.W.Frag} {B H H' : Hp} : ∀ {vs : List (Str × V)} {Ss : List (Str × Sl)} {F : List Addr}, (∀ a ∈ F, H' a = H a) → FlO K B H vs Ss F → FlO K B H' vs Ss F
  | _, _, _, _, .nil => .nil
  | _, _, _, e, .pr h t => .pr h (t.loc e)
  | _, _, _, e, .ob (W := W) h d t => .ob (W.loc (fun a ha => e a (List.mem_append_left _ ha)) h) d (t.loc fun a ha => e a (List.mem_append_right _ ha))
theorem FlO.dom {K : PySem.W.Frag} {B H : Hp} : ∀ {vs : List (Str × V)} {Ss : List (Str × Sl)} {F : List Addr}, FlO K B H vs Ss F → ∀ a ∈ F, H a ≠ none
  | _, _, _, .nil, _, h => nomatch h
  | _, _, _, .pr h t, a, ha => t.dom a ha
  | _, _, _, .ob (W := W) h d t, a, ha => by
    rcases List.mem_append.mp ha with q | q
    · exact W.dom h a q
    · exact t.dom a q
theorem FlO.none {K : PySem.W.Frag} {B H : Hp} {f : Str} : ∀ {vs : List (Str × V)} {Ss : List (Str × Sl)} {F : List Addr}, FlO K B H vs Ss F → Ss.lookup f = none → vs.lookup f = none
  | _, _, _, .nil, _ => rfl
  | _, _, _, .pr (f := g) h t, e => by
    rw [List.lookup_cons] at e ⊢
    by_cases q : (f == g) = true
    · rw [q] at e
      cases e
    · have q : (f == g) = false := by simpa using q
      rw [q] at e ⊢
      exact t.none e
  | _, _, _, .ob (f := g) h d t, e => by
    rw [List.lookup_cons] at e ⊢
    by_cases q : (f == g) = true
    · rw [q] at e
      cases e
    · have q : (f == g) = false := by simpa using q
      rw [q] at e ⊢
      exact t.none e
def insO (x : Str) (Ss : List (Str × Sl)) : Ow where
  p := fun K B H v F => ∃ C a dx vs F', ClsAt K x C ∧ v = .ref a ∧ F = a :: F' ∧ a ∉ F' ∧ H a = some (.ins C dx vs) ∧ FlO K B H vs Ss F'
  upB := fun e ⟨C, a, dx, vs, F', h1, h2, h3, h4, h5, h6⟩ => ⟨C, a, dx, vs, F', h1, h2, h3, h4, h5, h6.upB e⟩
  loc := fun e ⟨C, a, dx, vs, F', h1, h2, h3, h4, h5, h6⟩ => ⟨C, a, dx, vs, F', h1, h2, h3, h4, (e a (by rw [h3]; exact List.mem_cons_self)).trans h5, h6.loc fun b hb => e b (by rw [h3]; exact List.mem_cons_of_mem _ hb)⟩
  dom := fun ⟨C, a, dx, vs, F', h1, h2, h3, h4, h5, h6⟩ b hb => by
    rw [h3] at hb
    rcases List.mem_cons.mp hb with rfl | hb
    · rw [h5]
      exact fun z => nomatch z
    · exact h6.dom b hb
/-- a thing with its address -/
def pinO (W : Ow) (v0 : V) : Ow where
  p := fun K B H v F => v = v0 ∧ W.p K B H v F
  upB := fun e ⟨h1, h2⟩ => ⟨h1, W.upB e h2⟩
  loc := fun e ⟨h1, h2⟩ => ⟨h1, W.loc e h2⟩
  dom := fun ⟨_, h2⟩ => W.dom h2
/-! ### a thing of our own, changed -/
structure Mu (F : List Addr) (B H B2 H2 : Hp) : Prop where
  bb : Ex B B2
  bh : Ex B2 H2
  hh : ∀ a o, H a = some o → a ∉ F → H2 a = some o
  hd : ∀ a, H a ≠ none → H2 a ≠ none
  nu : ∀ a, B a = none → H a ≠ none → B2 a = none
theorem Nw.mu {B H B2 H2 : Hp} {F : List Addr} (n : Nw B H B2 H2) : Mu F B H B2 H2 := ⟨n.bb, n.bh, fun a o h _ => n.hh a o h, fun a h z => h (n.hh.none z), n.nu⟩
theorem Nw.thenMu {B H B1 H1 B2 H2 : Hp} {F : List Addr} (n : Nw B H B1 H1) (m : Mu F B1 H1 B2 H2) : Mu F B H B2 H2 :=
  ⟨n.bb.trans m.bb, m.bh, fun a o h hF => m.hh a o (n.hh a o h) hF, fun a h => m.hd a fun z => h (n.hh.none z), fun a h1 h2 => m.nu a (n.nu a h1 h2) fun z => h2 (n.hh.none z)⟩
theorem Mu.thenNw {B H B1 H1 B2 H2 : Hp} {F : List Addr} (m : Mu F B H B1 H1) (n : Nw B1 H1 B2 H2) : Mu F B H B2 H2 :=
  ⟨m.bb.trans n.bb, n.bh, fun a o h hF => n.hh a o (m.hh a o h hF), fun a h z => m.hd a h (n.hh.none z), fun a h1 h2 => n.nu a (m.nu a h1 h2) (m.hd a h2)⟩
section
variable {K : PySem.W.Frag} {B H B2 H2 : Hp} {σ : L2.St} {Γ : Ga} {Fs : Nat → List Addr} {W : Ow} {J : Jd} {B0 : Hp}
theorem En.mu {i : Nat} {v : V} {F2 : List Addr} (E : En K B H σ Γ Fs) (m : Mu (Fs i) B H B2 H2) (hi : i < Γ.length) (hσ : σ[i]? = some (some v)) (hW : W.p K B2 H2 v F2) (hF : ∀ a ∈ F2, B2 a = none ∧ (a ∈ Fs i ∨ H a = none)) :
    En K B2 H2 σ (Γ.set i (.ob W)) (off Fs i F2) where
  bh := m.bh
  len := by rw [List.length_set, E.len]
  at_ := fun j s hs => by
    by_cases e : j = i
    · subst e
      rw [List.getElem?_set_self hi] at hs
      cases hs
      rw [off_same]
      exact ⟨v, hσ, hW⟩
    · rw [List.getElem?_set_ne (Ne.symm e)] at hs
      rw [off_ne e]
      have := E.at_ j s hs
      cases s with
      | any => trivial
      | pr P =>
        obtain ⟨v, h1, h2⟩ := this
        exact ⟨v, h1, P.up m.bb h2⟩
      | ob P =>
        obtain ⟨v, h1, h2⟩ := this
        refine ⟨v, h1, P.loc (fun a ha => ?_) (P.upB m.bb h2)⟩
        cases q : H a with
        | none => exact absurd q (E.fre j a ha).2
        | some o => exact m.hh a o q fun z => e (E.dis j i a ha z)
  fre := fun j a ha => by
    by_cases e : j = i
    · subst e
      rw [off_same] at ha
      exact ⟨(hF a ha).1, W.dom hW a ha⟩
    · rw [off_ne e] at ha
      exact ⟨m.nu a (E.fre j a ha).1 (E.fre j a ha).2, m.hd a (E.fre j a ha).2⟩
  dis := fun j k a h1 h2 => by
    have key : ∀ j, j ≠ i → a ∈ off Fs i F2 i → a ∈ off Fs i F2 j → False := fun j hj h1 h2 => by
      rw [off_same] at h1
      rw [off_ne hj] at h2
      rcases (hF a h1).2 with z | z
      · exact hj (E.dis j i a h2 z)
      · exact (E.fre j a h2).2 z
    by_cases e1 : j = i
    · by_cases e2 : k = i
      · rw [e1, e2]
      · subst e1
        exact (key k e2 h1 h2).elim
    · by_cases e2 : k = i
      · subst e2
        exact (key j e1 h2 h1).elim
      · rw [off_ne e1] at h1
        rw [off_ne e2] at h2
        exact E.dis j k a h1 h2
theorem Jn.mu {i : Nat} {F2 : List Addr} (j : Jn J B0 B H Fs) (m : Mu (Fs i) B H B2 H2) (hF : ∀ a ∈ F2, a ∈ Fs i ∨ H a = none) : Jn J B0 B2 H2 (off Fs i F2) where
  b0 := j.b0.trans m.bb
  nb := fun a h1 h2 => by
    cases q : B a with
    | some o => exact j.nb a (by rw [q]; exact fun z => nomatch z) h2
    | none =>
      cases r : J.H a with
      | none => rfl
      | some o => exact absurd (m.nu a q (j.h1 a (by rw [r]; exact fun z => nomatch z))) h1
  h0 := fun a o h1 h2 => m.hh a o (j.h0 a o h1 h2) fun z => by
    rcases j.fm i a z with q | q
    · rw [q] at h1
      cases h1
    · exact h2 q.1
  h1 := fun a h => m.hd a (j.h1 a h)
  fm := fun k a ha => by
    by_cases e : k = i
    · subst e
      rw [off_same] at ha
      rcases hF a ha with z | z
      · exact j.fm k a z
      · left
        cases q : J.H a with
        | none => rfl
        | some o => exact absurd z (j.h1 a (by rw [q]; exact fun z => nomatch z))
    · rw [off_ne e] at ha
      exact j.fm k a ha
end
/-! ### a thing of our own, read on the way -/
def FzM (W : Ow) (P : Mn) : Prop := ∀ K B H v F, W.p K B H v F → (∀ a ∈ F, B a = none) → P.p K (ovl B H F) v
theorem fzM_of {W : Ow} {d : D} (h : Fz W d) : FzM W (datP d) := h
theorem fzM_pin {W : Ow} {P : Mn} {v0 : V} (h : FzM W P) : FzM (pinO W v0) P := fun K B H v F hW hF => h K B H v F hW.2 hF
theorem ovl_sub {B H : Hp} {F F' : List Addr} (h : ∀ a ∈ F, a ∈ F') (hF : ∀ a ∈ F', B a = none) : Ex (ovl B H F) (ovl B H F') := fun a o e => by
  by_cases q : a ∈ F
  · rw [ovl_in q] at e
    rw [ovl_in (h a q)]
    exact e
  · rw [ovl_out q] at e
    by_cases q2 : a ∈ F'
    · rw [hF a q2] at e
      cases e
    · rw [ovl_out q2]
      exact e
inductive FzF : List (Str × Sl) → List (Str × Mn) → Prop
  | nil : FzF [] []
  | pr {f : Str} {P : Mn} {Ss : List (Str × Sl)} {Ps : List (Str × Mn)} : FzF Ss Ps → FzF ((f, .pr P) :: Ss) ((f, P) :: Ps)
  | ob {f : Str} {W : Ow} {P : Mn} {Ss : List (Str × Sl)} {Ps : List (Str × Mn)} : FzM W P → FzF Ss Ps → FzF ((f, .ob W) :: Ss) ((f, P) :: Ps)
theorem flO_fz {K : PySem.W.Frag} {B H : Hp} {G : List Addr} (hG : ∀ a ∈ G, B a = none) : ∀ {vs : List (Str × V)} {Ss : List (Str × Sl)} {Ps : List (Str × Mn)} {F : List Addr}, FlO K B H vs Ss F → FzF Ss Ps → (∀ a ∈ F, a ∈ G) → FlP K (ovl B H G) vs Ps
  | _, _, _, _, .nil, .nil, _ => .nil
  | _, _, _, _, .pr (P := P) h t, .pr z, hF => .cons (P.up (ovl_ex hG) h) (flO_fz hG t z hF)
  | _, _, _, _, .ob (F1 := F1) h d t, .ob (P := P) w z, hF => .cons (P.up (ovl_sub (fun a ha => hF a (List.mem_append_left _ ha)) hG) (w _ _ _ _ _ h fun a ha => hG a (hF a (List.mem_append_left _ ha)))) (flO_fz hG t z fun a ha => hF a (List.mem_append_right _ ha))
theorem fz_ins {x : Str} {Ss : List (Str × Sl)} {Ps : List (Str × Mn)} (z : FzF Ss Ps) : FzM (insO x Ss) (insP x Ps) := fun K B H v F h hF => by
  obtain ⟨C, a, dx, vs, F', h1, h2, h3, h4, h5, h6⟩ := h
  exact ⟨C, a, dx, vs, h1, h2, by rw [ovl_in (by rw [h3]; exact List.mem_cons_self)]; exact h5, flO_fz hF h6 z fun b hb => by rw [h3]; exact List.mem_cons_of_mem _ hb⟩
section
variable {K : PySem.W.Frag} {B H B2 H2 : Hp} {σ : L2.St} {Γ : Ga} {Fs : Nat → List Addr} {W : Ow} {P : Mn}
theorem En.iceM {i : Nat} (E : En K B H σ Γ Fs) (hΓ : Γ[i]? = some (.ob W)) (hz : FzM W P) : En K (ovl B H (Fs i)) H σ (Γ.set i (.pr P)) (off Fs i []) := by
  obtain ⟨v, h1, h2⟩ := E.at_ i _ hΓ
  have e1 : Ex B (ovl B H (Fs i)) := ovl_ex fun a ha => (E.fre i a ha).1
  refine ⟨ovl_exH E.bh, by rw [List.length_set, E.len], fun j s hs => ?_, fun j b hb' => ?_, fun j k b h1 h2 => E.dis j k b (off_sub h1) (off_sub h2)⟩
  · by_cases e : j = i
    · subst e
      have hl : j < Γ.length := by
        by_cases hl : j < Γ.length
        · exact hl
        · rw [List.getElem?_eq_none (by omega)] at hΓ
          cases hΓ
      rw [List.getElem?_set_self hl] at hs
      cases hs
      exact ⟨v, h1, hz _ _ _ _ _ h2 fun a ha => (E.fre j a ha).1⟩
    · rw [List.getElem?_set_ne (Ne.symm e)] at hs
      rw [off_ne e]
      have := E.at_ j s hs
      cases s with
      | any => trivial
      | pr P =>
        obtain ⟨v, h1, h2⟩ := this
        exact ⟨v, h1, P.up e1 h2⟩
      | ob P =>
        obtain ⟨v, h1, h2⟩ := this
        exact ⟨v, h1, P.upB e1 h2⟩
  · have hj : j ≠ i := fun e => by
      rw [e, off_same] at hb'
      cases hb'
    rw [off_ne hj] at hb'
    refine ⟨?_, (E.fre j b hb').2⟩
    have ne : b ∉ Fs i := fun z => hj (E.dis j i b hb' z)
    rw [ovl_out ne]
    exact (E.fre j b hb').1
end
theorem flat_any {K : PySem.W.Frag} {B B' : Hp} {v : V} {d : D} (h : Dp K B v d) (hd : flatD d = true) : Dp K B' v d := by
  cases h with
  | non => exact .non
  | bl b => exact .bl b
  | int i => exact .int i
  | str y => exact .str y
  | _ => cases hd
theorem flats_any {K : PySem.W.Frag} {B B' : Hp} : ∀ {vs : List V} {ds : List D}, DpAll K B vs ds → ds.all flatD = true → DpAll K B' vs ds
  | _, _, .nil, _ => .nil
  | _, _, .cons h t, e => by
    rw [List.all_cons, Bool.and_eq_true] at e
    exact .cons (flat_any h e.1) (flats_any t e.2)
section
variable {X : Cx} {J : Jd} {N : Nd} {Γ Γ1 Γ2 : Ga} {e a b c tg iter : Expr} {es : List Expr} {st : Stmt} {sts rest body : List Stmt} {P : Mn} {W : Ow} {d : D} {ds : List D} {pos : Pos} {k : Bool}
theorem go_thF (i : Nat) (hΓ : Γ[i]? = some (.ob W)) (hz : FzM W P) (h : Go X (Γ.set i (.pr P)) e d) (hd : flatD d = true := by rfl) : Go X Γ e d := .mk fun σ B H Fs E Q q =>
  h σ _ H _ (E.iceM hΓ hz) Q fun v B2 H2 n r => q _ B H2 ⟨.refl _, E.bh.trans n.hh, n.hh, fun _ h _ => h⟩ (flat_any r hd)
theorem goT_thM (i : Nat) (hΓ : Γ[i]? = some (.ob W)) (hz : FzM W P) (h : GoT X (Γ.set i (.pr P)) e k) : GoT X Γ e k := .mk fun σ B H Fs E Q q =>
  h σ _ H _ (E.iceM hΓ hz) Q fun B2 H2 n => q B H2 ⟨.refl _, E.bh.trans n.hh, n.hh, fun _ h _ => h⟩
theorem goN_thM (i : Nat) (hΓ : Γ[i]? = some (.ob W)) (hz : FzM W P) (h : GoN X (Γ.set i (.pr P)) e ds) (hd : ds.all flatD = true) : GoN X Γ e ds := .mk fun σ B H Fs E Q q =>
  h σ _ H _ (E.iceM hΓ hz) Q fun p vs B2 H2 n hp hb hH hd2 => q p vs B H2 ⟨.refl _, E.bh.trans n.hh, n.hh, fun _ h _ => h⟩ hp (E.bh.none hp) hH (flats_any hd2 hd)
/-! ### fields -/
structure ClsOk (K : PySem.W.Frag) (x : Str) (fl : List Str) : Prop where
  cl : ∀ C, ClsAt K x C → Cls K C
  na : ∀ C f, ClsAt K x C → f ∈ fl → NoAttr K C f
theorem go_fld {x f : Str} {Ps : List (Str × Mn)} {fl : List Str} (O : ClsOk X.K x fl) (h : GoP X Γ e (insP x Ps)) (hf : Ps.lookup f = some P) (hm : f ∈ fl := by first | exact List.mem_cons_self | decide) (hb : attributeBase e f X.env (eval e X.env) = eval e X.env := by rfl) :
    GoP X Γ (.Attribute e f pos) P := .mk fun σ B H Fs E Q q =>
  toE (pe_fld sE hb) (h σ B H Fs E _ fun v B1 H1 n1 ⟨C, a, dx, vs, h1, h2, h3, h4⟩ => by
    obtain ⟨u, hu, hp⟩ := h4.get hf
    exact ⟨a, C, dx, vs, u, h2, n1.bh _ _ h3, O.cl C h1, O.na C f h1 hm, hu, q u B1 H1 n1 hp⟩)
/-! ### an expression that changes the thing of the slot i -/
structure GoM (X : Cx) (Γ : Ga) (e : Expr) (i : Nat) (W : Ow) (P : Mn) : Prop where
  run : ∀ σ B H Fs, En X.K B H σ Γ Fs → ∀ Q : VK, (∀ v v0 B2 H2 F2, Mu (Fs i) B H B2 H2 → P.p X.K B2 v → σ[i]? = some (some v0) → W.p X.K B2 H2 v0 F2 → (∀ a ∈ F2, B2 a = none ∧ (a ∈ Fs i ∨ H a = none)) → Q v H2) → wpE X e σ H Q
structure GoTM (X : Cx) (Γ : Ga) (e : Expr) (i : Nat) (W : Ow) (k : Bool) : Prop where
  run : ∀ σ B H Fs, En X.K B H σ Γ Fs → ∀ Q : Bool → Hp → Prop, (∀ v0 B2 H2 F2, Mu (Fs i) B H B2 H2 → σ[i]? = some (some v0) → W.p X.K B2 H2 v0 F2 → (∀ a ∈ F2, B2 a = none ∧ (a ∈ Fs i ∨ H a = none)) → Q k H2) → wpT X e σ H Q
theorem rs_exprM {i : Nat} (he : GoM X Γ e i W P) (hi : i < Γ.length) (h : N.nx (Γ.set i (.ob W))) (hs : swapsWith e none pos.line X.env = pure false := by rfl) : RnS X J N Γ (.Expr e pos) := .mk fun B0 σ B H Fs E j =>
  toS (ps_expr sE hs) (he.run σ B H Fs E _ fun v v0 B2 H2 F2 m r hσ hW hF => ⟨B2, _, _, E.mu m hi hσ hW hF, j.mu m fun a ha => (hF a ha).2, h⟩)
theorem rs_setM {i : Nat} (k : Nat) {x : Str} {p' : Pos} (he : GoM X Γ e i W P) (hi : i < Γ.length) (h : N.nx ((Γ.set i (.ob W)).set k (.pr P))) (hN : X.N.Nodup) (hk : X.N[k]? = some x := by rfl) (hx : Loc X.env.scope x := by first | exact .inl rfl | exact .inr rfl)
    (hs : swapsWith e (some (.Name x p')) pos.line X.env = pure false := by rfl) (hf : X.fn x = true ∨ X.env.scope.names.lookup x = some .local := by first | exact .inl rfl | exact .inr rfl) : RnS X J N Γ (.Assign [.Name x p'] e pos) := .mk fun B0 σ B H Fs E j =>
  toS (ps_set hN hk hx sE hs hf) (he.run σ B H Fs E _ fun v v0 B2 H2 F2 m r hσ hW hF => ⟨B2, _, _, (E.mu m hi hσ hW hF).setP k r, (j.mu m fun a ha => (hF a ha).2).sub fun _ _ z => off_sub z, h⟩)
theorem rs_ifM {i : Nat} {th el : List Stmt} (hc : GoTM X Γ c i W k) (hi : i < Γ.length) (h1 : k = true → Rn X J N (Γ.set i (.ob W)) th) (h2 : k = false → Rn X J N (Γ.set i (.ob W)) el) : RnS X J N Γ (.If c th el pos) := .mk fun B0 σ B H Fs E j =>
  toS (ps_if sT sSs sSs) (hc.run σ B H Fs E _ fun v0 B2 H2 F2 m hσ hW hF => by
    cases k with
    | true => exact iteT (h1 rfl B0 σ B2 H2 _ (E.mu m hi hσ hW hF) (j.mu m fun a ha => (hF a ha).2))
    | false => exact iteF (h2 rfl B0 σ B2 H2 _ (E.mu m hi hσ hW hF) (j.mu m fun a ha => (hF a ha).2)))
theorem goTM_is {i : Nat} {k' : Bool} (h : GoTM X Γ c i W k) (e : k = k') : GoTM X Γ c i W k' := e ▸ h
/-- e is not None -/
theorem goTM_notN {i : Nat} {j pos'} (h : GoM X Γ e i W (datP d)) (hm : behindInMarks .IsNot (.Constant .none j pos') = false := by first | exact nobehind _ (by decide) (by decide) | rfl) : GoTM X Γ (.Compare e [.IsNot] [.Constant .none j pos'] pos) i W (!isNonD d) := .mk fun σ B H Fs E Q q =>
  toT (pt_cmp (pc_notN sE) hm) (h.run σ B H Fs E _ fun v v0 B2 H2 F2 m r hσ hW hF => by
    have e1 : decide (v = V.non) = isNonD d := by
      have r : Dp X.K B2 v d := r
      cases r <;> rfl
    refine ⟨_, rfl, ?_⟩
    show Q (!decide (v = V.non)) H2
    rw [e1]
    exact q v0 B2 H2 F2 m hσ hW hF)
end
end PL

set_option maxHeartbeats 2000000
namespace PL
open PySem PySem.Spec PyProof.Rows L2
/-! ### promises -/
/-- the first argument is changed -/
def spW (K : PySem.W.Frag) (S : Ow → List Mn → Mn → Ow → Prop) : Sp := fun vs H Q _ => ∃ (W : Ow) (Ps : List Mn) (R : Mn) (W' : Ow) (B : Hp) (v0 : V) (us : List V) (F : List Addr), S W Ps R W' ∧ vs = v0 :: us ∧ Ex B H ∧ W.p K B H v0 F ∧ (∀ a ∈ F, B a = none) ∧ MnAll K B us Ps ∧
  ∀ v B2 H2 F2, Mu F B H B2 H2 → R.p K B2 v → W'.p K B2 H2 v0 F2 → (∀ a ∈ F2, B2 a = none ∧ (a ∈ F ∨ H a = none)) → Q v H2
/-- an error of the class x with the field f is raised, nothing is changed -/
def spEx (K : PySem.W.Frag) (S : List Mn → Str → Str → V → Prop) : Sp := fun vs H _ E => ∃ (Ps : List Mn) (x f : Str) (v : V) (B : Hp), S Ps x f v ∧ Ex B H ∧ MnAll K B vs Ps ∧
  ∀ C d H2, ClsAt K x C → Ex H H2 → H d = none → H2 d = some (.xd [(f, v)]) → E (.ref C) (some d) H2
def orSp (a b : Sp) : Sp := fun vs H Q E => a vs H Q E ∨ b vs H Q E
def noN : List Mn → Str → Str → V → Prop := fun _ _ _ _ => False
/-- the def st of the class own is its method m -/
structure Mtd (K : PySem.W.Frag) (own m qual : Str) (st : Stmt) (ps : List Str) : Prop where
  ex : ∃ C g fd, ClsAt K own C ∧ Cls K C ∧ Meth K C m g ∧ Fun K m qual st g fd ∧ Binds K fd ps []
/-- the method m of the class own keeps its promise -/
structure CalM (P : Program) (w : World) (K : PySem.W.Frag) (mg : Str → Option Value) (base : Heap) (CX : CXT) (own m : Str) (ps : List Str) (k : Nat) (sp : Sp) : Prop where
  ex : ∃ C g fd, ClsAt K own C ∧ Cls K C ∧ Meth K C m g ∧ FnOk P w K mg base CX k g fd ps sp ∧ Binds K fd ps []
/-- what stands at the name x keeps its promise -/
structure CalF (P : Program) (w : World) (K : PySem.W.Frag) (mg : Str → Option Value) (base : Heap) (CX : CXT) (x : Str) (ps : List Str) (k : Nat) (sp : Sp) : Prop where
  ex : ∃ f fd, FnOk P w K mg base CX k f fd ps sp ∧ mg x = some (.ref f) ∧ PySem.W.keepIn K (.ref f) = true ∧ Binds K fd ps []
theorem Cal.toF {P : Program} {w : World} {K : PySem.W.Frag} {mg : Str → Option Value} {base : Heap} {x : Str} {ps : List Str} {k : Nat} {S : List Mn → Mn → Prop} (h : Cal P w K mg base x ps k S) : CalF P w K mg base CX0 x ps k (spS K S) := ⟨h.ex⟩
def botM : Mn := ⟨fun _ _ _ => False, fun _ h => h⟩
/-! ### the entry with a thing that may be changed -/
def entryW (W : Ow) (Ps : List Mn) (n : Nat) : Ga := .ob W :: (Ps.map Sl.pr ++ List.replicate (n - 1 - Ps.length) .any)
theorem en_entryW {K : PySem.W.Frag} {B H : Hp} {v0 : V} {us : List V} {W : Ow} {Ps : List Mn} {L : List Str} {F : List Addr} (hB : Ex B H) (hW : W.p K B H v0 F) (hF : ∀ a ∈ F, B a = none) (h : MnAll K B us Ps) (hl : 0 < L.length) :
    En K B H (L2.start L (v0 :: us)) (entryW W Ps L.length) fun i => if i = 0 then F else [] := by
  obtain ⟨x, L', rfl⟩ : ∃ x L', L = x :: L' := by
    cases L with
    | nil => exact absurd hl (by simp)
    | cons x L' => exact ⟨x, L', rfl⟩
  have E := en_entry (L := L') hB h
  have e1 : L2.start (x :: L') (v0 :: us) = some v0 :: L2.start L' us := by
    unfold L2.start
    rw [List.map_cons, List.length_cons, List.length_cons, Nat.add_sub_add_right]
    rfl
  have e2 : entryW W Ps (x :: L').length = .ob W :: entry Ps L'.length := by
    unfold entryW entry
    rw [List.length_cons, Nat.add_sub_cancel]
  rw [e1, e2]
  refine ⟨hB, by rw [List.length_cons, List.length_cons, E.len], fun i s hs => ?_, fun i a ha => ?_, fun i j a h1 h2 => ?_⟩
  · cases i with
    | zero =>
      cases hs
      exact ⟨v0, rfl, hW⟩
    | succ i =>
      have := E.at_ i s hs
      rw [if_neg (Nat.succ_ne_zero i)]
      exact this
  · by_cases e : i = 0
    · rw [if_pos e] at ha
      exact ⟨hF a ha, W.dom hW a ha⟩
    · rw [if_neg e] at ha
      cases ha
  · by_cases e1 : i = 0
    · by_cases e2 : j = 0
      · rw [e1, e2]
      · rw [if_neg e2] at h2
        cases h2
    · rw [if_neg e1] at h1
      cases h1
section
variable {P : Program} {w : World} {K : PySem.W.Frag} {mg : Str → Option Value} {base : Heap}
/-- the ends of a def of data -/
theorem end_S {X : Cx} {H B : Hp} {R : Mn} {Q : VK} (hX : X.K = K) (q : ∀ v B2 H2, Nw B H B2 H2 → R.p K B2 v → Q v H2) {σ : L2.St} {sts : List Stmt} (h : wpSs X sts (({ nx := fun _ => ∀ K B, R.p K B .non, rt := R } : Nd).ends X ⟨H, [], []⟩ B) σ H) : wpSs X sts { nx := fun _ H' => Q .non H', rt := Q } σ H := by
  subst hX
  refine wpSs_mono h ?_ ?_ ?_ ?_
  · exact fun σ' H' ⟨B', Γ', Fs', e, j, n⟩ => q _ B' H' ⟨j.b0, e.bh, fun a o h => j.h0 a o h (by simp), fun a h1 h2 => by
      cases r : B' a with
      | none => rfl
      | some o => exact absurd (j.nb a (by rw [r]; exact fun z => nomatch z) h1) h2⟩ (n X.K B')
  · exact fun v H' ⟨σ', B', Γ', Fs', e, j, _, r⟩ => q v B' H' ⟨j.b0, e.bh, fun a o h => j.h0 a o h (by simp), fun a h1 h2 => by
      cases r : B' a with
      | none => rfl
      | some o => exact absurd (j.nb a (by rw [r]; exact fun z => nomatch z) h1) h2⟩ r
  · exact fun σ' H' ⟨B', Γ', Fs', e, j, n⟩ => n.elim
  · exact fun σ' H' ⟨B', Γ', Fs', e, j, n⟩ => n.elim
/-- what the end of a def asks that changes its first argument -/
abbrev ndW (R : Mn) (W' : Ow) (v0 : V) : Nd := { nx := fun Γ' => Γ'[0]? = some (.ob (pinO W' v0)) ∧ ∀ K B, R.p K B .non, rt := R, rG := fun Γ' => Γ'[0]? = some (.ob (pinO W' v0)) }
theorem end_W {X : Cx} {H B : Hp} {R : Mn} {W' : Ow} {v0 : V} {F : List Addr} {Q : VK} (hX : X.K = K) (q : ∀ v B2 H2 F2, Mu F B H B2 H2 → R.p K B2 v → W'.p K B2 H2 v0 F2 → (∀ a ∈ F2, B2 a = none ∧ (a ∈ F ∨ H a = none)) → Q v H2) {σ : L2.St} {sts : List Stmt}
    (h : wpSs X sts ((ndW R W' v0).ends X ⟨H, F, [0]⟩ B) σ H) : wpSs X sts { nx := fun _ H' => Q .non H', rt := Q } σ H := by
  subst hX
  have key : ∀ {v : V} {B' H' : Hp} {σ' : L2.St} {Γ' : Ga} {Fs' : Nat → List Addr}, En X.K B' H' σ' Γ' Fs' → Jn ⟨H, F, [0]⟩ B B' H' Fs' → Γ'[0]? = some (.ob (pinO W' v0)) → R.p X.K B' v → Q v H' := fun {v B' H' σ' Γ' Fs'} e j g r => by
    obtain ⟨u, h1, rfl, h2⟩ := e.at_ 0 _ g
    refine q v B' H' (Fs' 0) ⟨j.b0, e.bh, j.h0, j.h1, fun a h1 h2 => ?_⟩ r h2 fun a ha => ⟨(e.fre 0 a ha).1, ?_⟩
    · cases r : B' a with
      | none => rfl
      | some o => exact absurd (j.nb a (by rw [r]; exact fun z => nomatch z) h1) h2
    · rcases j.fm 0 a ha with z | z
      · exact .inr z
      · exact .inl z.1
  refine wpSs_mono h ?_ ?_ ?_ ?_
  · exact fun σ' H' ⟨B', Γ', Fs', e, j, g, n⟩ => key e j g (n X.K B')
  · exact fun v H' ⟨σ', B', Γ', Fs', e, j, g, r⟩ => key e j g r
  · exact fun σ' H' ⟨B', Γ', Fs', e, j, n⟩ => n.elim
  · exact fun σ' H' ⟨B', Γ', Fs', e, j, n⟩ => n.elim
theorem jn_entry {H B : Hp} : Jn ⟨H, [], []⟩ B B H fun _ => [] := ⟨.refl _, fun a h1 h2 => absurd h2 h1, fun a o h _ => h, fun a h => h, fun _ _ z => nomatch z⟩
theorem jn_entryW {H B : Hp} {F : List Addr} : Jn ⟨H, F, [0]⟩ B B H fun i => if i = 0 then F else [] := ⟨.refl _, fun a h1 h2 => absurd h2 h1, fun a o h _ => h, fun a h => h, fun i a ha => by
  by_cases e : i = 0
  · rw [if_pos e] at ha
    exact .inr ⟨ha, by rw [e]; exact List.mem_cons_self⟩
  · rw [if_neg e] at ha
    cases ha⟩
/-- what an error's way out asks -/
def Wish (K : PySem.W.Frag) (J : Jd) (E : XK) (x f : Str) (v : V) : Prop := ∀ C d H2, ClsAt K x C → Ex J.H H2 → J.H d = none → H2 d = some (.xd [(f, v)]) → E (.ref C) (some d) H2
/-! ### methods by their bodies -/
theorem mS_ok {own m qual : Str} {st : Stmt} {L ps : List Str} {k : Nat} {S : List Mn → Mn → Prop} (Mt : Mtd K own m qual st ps) (Sc : FnScope L ps (defScope st)) (hl : ∀ Ps R, S Ps R → Ps.length = ps.length)
    (body : ∀ Ps R, S Ps R → ∀ (f : Addr) (cdv : Value) (A : Around) (outer : List Env) (s : Shared) (H : Hp) (E : XK), Room k (A.deeper (envOfC qual (defScope st) s.heap.objs.size f cdv)) → ∀ J : Jd, J.S = [] →
      Rn (cxOf CX0 P w K mg base L qual (defScope st) f cdv A outer s H E).nox J { nx := fun _ => ∀ K B, R.p K B .non, rt := R } (entry Ps L.length) (defBody st)) : CalM P w K mg base CX0 own m ps (k + 1) (spS K S) := by
  obtain ⟨C, g, fd, h1, h2, h3, F, b⟩ := Mt.ex
  refine ⟨C, g, fd, h1, h2, h3, F.ok Sc (fun vs H Q E h => ?_) fun cdv A outer s H vs Q E hr h => ?_, b⟩
  · obtain ⟨Ps, R, B, hS, _, h, _⟩ := h
    rw [mn_len h, hl _ _ hS]
  · obtain ⟨Ps, R, B, hS, hB, hv, q⟩ := h
    exact ⟨_, sSs, end_S rfl q (body Ps R hS g cdv A outer s H E hr ⟨H, [], []⟩ rfl B (L2.start L vs) B H (fun _ => []) (en_entry hB hv) jn_entry)⟩
/-- a method that may raise, by two proofs: where it does not, where it does -/
theorem mX_ok {own m qual : Str} {st : Stmt} {L ps : List Str} {k : Nat} {S : List Mn → Mn → Prop} {S2 : List Mn → Str → Str → V → Prop} (Mt : Mtd K own m qual st ps) (Sc : FnScope L ps (defScope st)) (hl : ∀ Ps R, S Ps R → Ps.length = ps.length) (hl2 : ∀ Ps x f v, S2 Ps x f v → Ps.length = ps.length)
    (body : ∀ Ps R, S Ps R → ∀ (f : Addr) (cdv : Value) (A : Around) (outer : List Env) (s : Shared) (H : Hp) (E : XK), Room k (A.deeper (envOfC qual (defScope st) s.heap.objs.size f cdv)) → ∀ J : Jd, J.S = [] →
      Rn (cxOf (L2.CX P w) P w K mg base L qual (defScope st) f cdv A outer s H E).nox J { nx := fun _ => ∀ K B, R.p K B .non, rt := R } (entry Ps L.length) (defBody st))
    (body2 : ∀ Ps x fl v, S2 Ps x fl v → ∀ (f : Addr) (cdv : Value) (A : Around) (outer : List Env) (s : Shared) (H : Hp) (E : XK), Room k (A.deeper (envOfC qual (defScope st) s.heap.objs.size f cdv)) → ∀ J : Jd, J.S = [] → J.M = [] → Wish K J E x fl v →
      Rn (cxOf (L2.CX P w) P w K mg base L qual (defScope st) f cdv A outer s H E) J { nx := fun _ => False, rt := botM } (entry Ps L.length) (defBody st)) : CalM P w K mg base (L2.CX P w) own m ps (k + 1) (orSp (spS K S) (spEx K S2)) := by
  obtain ⟨C, g, fd, h1, h2, h3, F, b⟩ := Mt.ex
  refine ⟨C, g, fd, h1, h2, h3, F.okX Sc (fun vs H Q E h => ?_) fun cdv A outer s H vs Q E hr h => ?_, b⟩
  · rcases h with ⟨Ps, R, B, hS, _, h, _⟩ | ⟨Ps, x, f, v, B, hS, _, h, _⟩
    · rw [mn_len h, hl _ _ hS]
    · rw [mn_len h, hl2 _ _ _ _ hS]
  · rcases h with ⟨Ps, R, B, hS, hB, hv, q⟩ | ⟨Ps, x, fl, v, B, hS, hB, hv, q⟩
    · exact ⟨_, sSs.nox, end_S rfl q (body Ps R hS g cdv A outer s H E hr ⟨H, [], []⟩ rfl B (L2.start L vs) B H (fun _ => []) (en_entry hB hv) jn_entry)⟩
    · refine ⟨_, sSs, wpSs_mono (body2 Ps x fl v hS g cdv A outer s H E hr ⟨H, [], []⟩ rfl rfl q B (L2.start L vs) B H (fun _ => []) (en_entry hB hv) jn_entry) ?_ ?_ ?_ ?_⟩
      · exact fun σ' H' ⟨B', Γ', Fs', e, j, n⟩ => n.elim
      · exact fun v H' ⟨σ', B', Γ', Fs', e, j, _, r⟩ => (show False from r).elim
      · exact fun σ' H' ⟨B', Γ', Fs', e, j, n⟩ => n.elim
      · exact fun σ' H' ⟨B', Γ', Fs', e, j, n⟩ => n.elim
/-- a method that changes its object -/
theorem mW_ok {own m qual : Str} {st : Stmt} {L ps : List Str} {k : Nat} {S : Ow → List Mn → Mn → Ow → Prop} (Mt : Mtd K own m qual st ps) (Sc : FnScope L ps (defScope st)) (hl : ∀ W Ps R W', S W Ps R W' → Ps.length + 1 = ps.length) (hL : 0 < L.length)
    (body : ∀ W Ps R W', S W Ps R W' → ∀ (v0 : V) (f : Addr) (cdv : Value) (A : Around) (outer : List Env) (s : Shared) (H : Hp) (E : XK), Room k (A.deeper (envOfC qual (defScope st) s.heap.objs.size f cdv)) → ∀ J : Jd, J.S = [0] →
      Rn (cxOf CX0 P w K mg base L qual (defScope st) f cdv A outer s H E).nox J (ndW R W' v0) (entryW (pinO W v0) Ps L.length) (defBody st)) : CalM P w K mg base CX0 own m ps (k + 1) (spW K S) := by
  obtain ⟨C, g, fd, h1, h2, h3, F, b⟩ := Mt.ex
  refine ⟨C, g, fd, h1, h2, h3, F.ok Sc (fun vs H Q E h => ?_) fun cdv A outer s H vs Q E hr h => ?_, b⟩
  · obtain ⟨W, Ps, R, W', B, v0, us, F, hS, rfl, _, _, _, h, _⟩ := h
    rw [List.length_cons, mn_len h, hl _ _ _ _ hS]
  · obtain ⟨W, Ps, R, W', B, v0, us, F, hS, rfl, hB, hW, hF, hv, q⟩ := h
    exact ⟨_, sSs, end_W rfl q (body W Ps R W' hS v0 g cdv A outer s H E hr ⟨H, F, [0]⟩ rfl B (L2.start L (v0 :: us)) B H _ (en_entryW hB ⟨rfl, hW⟩ hF hv hL) jn_entryW)⟩
/-- a method that changes its object, or raises -/
theorem mWX_ok {own m qual : Str} {st : Stmt} {L ps : List Str} {k : Nat} {S : Ow → List Mn → Mn → Ow → Prop} {S2 : List Mn → Str → Str → V → Prop} (Mt : Mtd K own m qual st ps) (Sc : FnScope L ps (defScope st)) (hl : ∀ W Ps R W', S W Ps R W' → Ps.length + 1 = ps.length) (hl2 : ∀ Ps x f v, S2 Ps x f v → Ps.length = ps.length) (hL : 0 < L.length)
    (body : ∀ W Ps R W', S W Ps R W' → ∀ (v0 : V) (f : Addr) (cdv : Value) (A : Around) (outer : List Env) (s : Shared) (H : Hp) (E : XK), Room k (A.deeper (envOfC qual (defScope st) s.heap.objs.size f cdv)) → ∀ J : Jd, J.S = [0] →
      Rn (cxOf (L2.CX P w) P w K mg base L qual (defScope st) f cdv A outer s H E).nox J (ndW R W' v0) (entryW (pinO W v0) Ps L.length) (defBody st))
    (body2 : ∀ Ps x fl v, S2 Ps x fl v → ∀ (f : Addr) (cdv : Value) (A : Around) (outer : List Env) (s : Shared) (H : Hp) (E : XK), Room k (A.deeper (envOfC qual (defScope st) s.heap.objs.size f cdv)) → ∀ J : Jd, J.S = [] → J.M = [] → Wish K J E x fl v →
      Rn (cxOf (L2.CX P w) P w K mg base L qual (defScope st) f cdv A outer s H E) J { nx := fun _ => False, rt := botM } (entry Ps L.length) (defBody st)) : CalM P w K mg base (L2.CX P w) own m ps (k + 1) (orSp (spW K S) (spEx K S2)) := by
  obtain ⟨C, g, fd, h1, h2, h3, F, b⟩ := Mt.ex
  refine ⟨C, g, fd, h1, h2, h3, F.okX Sc (fun vs H Q E h => ?_) fun cdv A outer s H vs Q E hr h => ?_, b⟩
  · rcases h with ⟨W, Ps, R, W', B, v0, us, F, hS, rfl, _, _, _, h, _⟩ | ⟨Ps, x, f, v, B, hS, _, h, _⟩
    · rw [List.length_cons, mn_len h, hl _ _ _ _ hS]
    · rw [mn_len h, hl2 _ _ _ _ hS]
  · rcases h with ⟨W, Ps, R, W', B, v0, us, F, hS, rfl, hB, hW, hF, hv, q⟩ | ⟨Ps, x, fl, v, B, hS, hB, hv, q⟩
    · exact ⟨_, sSs.nox, end_W rfl q (body W Ps R W' hS v0 g cdv A outer s H E hr ⟨H, F, [0]⟩ rfl B (L2.start L (v0 :: us)) B H _ (en_entryW hB ⟨rfl, hW⟩ hF hv hL) jn_entryW)⟩
    · refine ⟨_, sSs, wpSs_mono (body2 Ps x fl v hS g cdv A outer s H E hr ⟨H, [], []⟩ rfl rfl q B (L2.start L vs) B H (fun _ => []) (en_entry hB hv) jn_entry) ?_ ?_ ?_ ?_⟩
      · exact fun σ' H' ⟨B', Γ', Fs', e, j, n⟩ => n.elim
      · exact fun v H' ⟨σ', B', Γ', Fs', e, j, _, r⟩ => (show False from r).elim
      · exact fun σ' H' ⟨B', Γ', Fs', e, j, n⟩ => n.elim
      · exact fun σ' H' ⟨B', Γ', Fs', e, j, n⟩ => n.elim
/-- a method that hands back a new thing -/
theorem mU_ok {own m qual : Str} {st : Stmt} {L ps : List Str} {k : Nat} {S : List Mn → Ow → Prop} (Mt : Mtd K own m qual st ps) (Sc : FnScope L ps (defScope st)) (hl : ∀ Ps R, S Ps R → Ps.length = ps.length)
    (body : ∀ Ps R, S Ps R → ∀ (f : Addr) (cdv : Value) (A : Around) (outer : List Env) (s : Shared) (H : Hp) (E : XK), Room k (A.deeper (envOfC qual (defScope st) s.heap.objs.size f cdv)) → ∀ J : Jd, J.S = [] →
      Rn (cxOf CX0 P w K mg base L qual (defScope st) f cdv A outer s H E).nox J { nx := fun _ => False, rt := datP .none, rn := some R } (entry Ps L.length) (defBody st)) : CalM P w K mg base CX0 own m ps (k + 1) (spSU K S) := by
  obtain ⟨C, g, fd, h1, h2, h3, F, b⟩ := Mt.ex
  refine ⟨C, g, fd, h1, h2, h3, F.ok Sc (fun vs H Q E h => ?_) fun cdv A outer s H vs Q E hr h => ?_, b⟩
  · obtain ⟨Ps, R, B, hS, _, h, _⟩ := h
    rw [mn_len h, hl _ _ hS]
  · obtain ⟨Ps, R, B, hS, hB, hv, q⟩ := h
    refine ⟨_, sSs, wpSs_mono (body Ps R hS g cdv A outer s H E hr ⟨H, [], []⟩ rfl B (L2.start L vs) B H (fun _ => []) (en_entry hB hv) jn_entry) ?_ ?_ ?_ ?_⟩
    · exact fun σ' H' ⟨B', Γ', Fs', e, j, n⟩ => n.elim
    · exact fun v H' ⟨σ', B', Γ', Fs', e, j, _, F, r1, r2, _⟩ => q v F B' H' ⟨j.b0, e.bh, fun a o h => j.h0 a o h (by simp), fun a h1 h2 => by
        cases r : B' a with
        | none => rfl
        | some o => exact absurd (j.nb a (by rw [r]; exact fun z => nomatch z) h1) h2⟩ r1 r2
    · exact fun σ' H' ⟨B', Γ', Fs', e, j, n⟩ => n.elim
    · exact fun σ' H' ⟨B', Γ', Fs', e, j, n⟩ => n.elim
/-- a def whose first argument is changed -/
theorem fW_ok {x : Str} {st : Stmt} {L ps : List Str} {k : Nat} {S : Ow → List Mn → Mn → Ow → Prop} (Df : Dfn K mg x st ps) (Sc : FnScope L ps (defScope st)) (hl : ∀ W Ps R W', S W Ps R W' → Ps.length + 1 = ps.length) (hL : 0 < L.length)
    (body : ∀ W Ps R W', S W Ps R W' → ∀ (v0 : V) (f : Addr) (cdv : Value) (A : Around) (outer : List Env) (s : Shared) (H : Hp) (E : XK), Room k (A.deeper (envOfC x (defScope st) s.heap.objs.size f cdv)) → ∀ J : Jd, J.S = [0] →
      Rn (cxOf CX0 P w K mg base L x (defScope st) f cdv A outer s H E).nox J (ndW R W' v0) (entryW (pinO W v0) Ps L.length) (defBody st)) : CalF P w K mg base CX0 x ps (k + 1) (spW K S) := by
  obtain ⟨f, fd, F, m, b⟩ := Df.ex
  refine ⟨f, fd, F.ok Sc (fun vs H Q E h => ?_) fun cdv A outer s H vs Q E hr h => ?_, m, F.kp, b⟩
  · obtain ⟨W, Ps, R, W', B, v0, us, F, hS, rfl, _, _, _, h, _⟩ := h
    rw [List.length_cons, mn_len h, hl _ _ _ _ hS]
  · obtain ⟨W, Ps, R, W', B, v0, us, F, hS, rfl, hB, hW, hF, hv, q⟩ := h
    exact ⟨_, sSs, end_W rfl q (body W Ps R W' hS v0 f cdv A outer s H E hr ⟨H, F, [0]⟩ rfl B (L2.start L (v0 :: us)) B H _ (en_entryW hB ⟨rfl, hW⟩ hF hv hL) jn_entryW)⟩
end
end PL

set_option maxHeartbeats 2000000
namespace PL
open PySem PySem.Spec PyProof.Rows L2
section
variable {X : Cx} {J : Jd} {N : Nd} {Γ : Ga} {o e : Expr} {es : List Expr} {st : Stmt} {sts rest body : List Stmt} {P R : Mn} {W W' : Ow} {d : D} {ds : List D} {pos apos p : Pos} {own m : Str} {ps : List Str} {j k : Nat} {pl : Sem Bool} {Ps : List (Str × Mn)} {Qs : List Mn} {CX : CXT}
theorem lookO {K : PySem.W.Frag} {B : Hp} {v : V} (h : (insP own Ps).p K B v) (hm : Ps.lookup m = none) : ∃ C a dx vs, ClsAt K own C ∧ v = .ref a ∧ B a = some (.ins C dx vs) ∧ vs.lookup m = none := by
  obtain ⟨C, a, dx, vs, h1, h2, h3, h4⟩ := h
  exact ⟨C, a, dx, vs, h1, h2, h3, h4.none hm⟩
/-! ### a method that changes nothing -/
theorem gx_meth {S : List Mn → Mn → Prop} (C : CalM X.prog X.w X.K X.mg X.base CX0 own m ps k (spS X.K S)) (hr : Room j X.A) (hk : k ≤ j) (ho : GoP X Γ o (insP own Ps)) (hm : Ps.lookup m = none) (ha : GoA X Γ (e :: es) Qs) (hS : S (insP own Ps :: Qs) R := by walk_at "pS")
    (hst : starEach (e :: es) X.env = (false, eval e X.env) :: starEach es X.env := by rfl) (hpl : (backTo pos (starEach es X.env)).any (·.1) = false := by rfl)
    (ht : eval (.Call (.Attribute o m apos) (e :: es) [] pos) X.env = (do
      let ov ← eval o X.env
      standAt apos.atName
      let (f, first) ← holding [ov] (getMethod ov m pl)
      callWith pos f first (backTo pos (starEach (e :: es) X.env)) (backToKw pos (keywordEach [] X.env))) := by rfl) : GoP X Γ (.Call (.Attribute o m apos) (e :: es) [] pos) R := .mk fun σ B H Fs E Q q => by
  obtain ⟨C, g, fd, h1, h2, h3, F, b⟩ := C.ex
  refine toE (pe_meth sE h2 h3 (F.mono hk) hr b .nil pass0 sA hst hpl ht) (ho σ B H Fs E _ fun v B1 H1 n1 r1 => ?_)
  obtain ⟨C', a, dx, vs, e1, rfl, e3, e4⟩ := lookO r1 hm
  cases h1.eq e1
  refine ⟨a, dx, vs, rfl, n1.bh _ _ e3, e4, ha σ B1 H1 Fs (E.nw n1) _ fun us B2 H2 n2 r2 => ?_⟩
  exact ⟨_, R, B2, hS, n2.bh, by rw [List.append_nil]; exact .cons ((insP own Ps).up n2.bb r1) r2, fun v B3 H3 n3 r3 => q v B3 H3 ((n1.trans n2).trans n3) r3⟩
theorem gx_meth0 {S : List Mn → Mn → Prop} (C : CalM X.prog X.w X.K X.mg X.base CX0 own m ps k (spS X.K S)) (hr : Room j X.A) (hk : k ≤ j) (ho : GoP X Γ o (insP own Ps)) (hm : Ps.lookup m = none) (hS : S [insP own Ps] R := by walk_at "pS")
    (ht : eval (.Call (.Attribute o m apos) [] [] pos) X.env = (do
      let ov ← eval o X.env
      standAt apos.atName
      let (f, first) ← holding [ov] (getMethod ov m pl)
      callWith pos f first (backTo pos (starEach [] X.env)) (backToKw pos (keywordEach [] X.env))) := by rfl) : GoP X Γ (.Call (.Attribute o m apos) [] [] pos) R := .mk fun σ B H Fs E Q q => by
  obtain ⟨C, g, fd, h1, h2, h3, F, b⟩ := C.ex
  refine toE (pe_meth0 sE h2 h3 (F.mono hk) hr b .nil pass0 ht) (ho σ B H Fs E _ fun v B1 H1 n1 r1 => ?_)
  obtain ⟨C', a, dx, vs, e1, rfl, e3, e4⟩ := lookO r1 hm
  cases h1.eq e1
  exact ⟨a, dx, vs, rfl, n1.bh _ _ e3, e4, _, R, B1, hS, n1.bh, .cons r1 .nil, fun v B3 H3 n3 r3 => q v B3 H3 (n1.trans n3) r3⟩
/-- .. that may raise, where it does not -/
theorem gx_methX {S : List Mn → Mn → Prop} {S2 : List Mn → Str → Str → V → Prop} (C : CalM X.prog X.w X.K X.mg X.base (L2.CX X.prog X.w) own m ps k (orSp (spS X.K S) (spEx X.K S2))) (hr : Room j X.A) (hk : k ≤ j) (ho : GoP X Γ o (insP own Ps)) (hm : Ps.lookup m = none) (ha : GoA X Γ (e :: es) Qs) (hS : S (insP own Ps :: Qs) R := by walk_at "pS")
    (hst : starEach (e :: es) X.env = (false, eval e X.env) :: starEach es X.env := by rfl) (hpl : (backTo pos (starEach es X.env)).any (·.1) = false := by rfl)
    (ht : eval (.Call (.Attribute o m apos) (e :: es) [] pos) X.env = (do
      let ov ← eval o X.env
      standAt apos.atName
      let (f, first) ← holding [ov] (getMethod ov m pl)
      callWith pos f first (backTo pos (starEach (e :: es) X.env)) (backToKw pos (keywordEach [] X.env))) := by rfl) : GoP X Γ (.Call (.Attribute o m apos) (e :: es) [] pos) R := .mk fun σ B H Fs E Q q => by
  obtain ⟨C, g, fd, h1, h2, h3, F, b⟩ := C.ex
  refine toE (pe_meth sE h2 h3 (F.mono hk) hr b .nil passL sA hst hpl ht) (ho σ B H Fs E _ fun v B1 H1 n1 r1 => ?_)
  obtain ⟨C', a, dx, vs, e1, rfl, e3, e4⟩ := lookO r1 hm
  cases h1.eq e1
  refine ⟨a, dx, vs, rfl, n1.bh _ _ e3, e4, ha σ B1 H1 Fs (E.nw n1) _ fun us B2 H2 n2 r2 => .inl ?_⟩
  exact ⟨_, R, B2, hS, n2.bh, by rw [List.append_nil]; exact .cons ((insP own Ps).up n2.bb r1) r2, fun v B3 H3 n3 r3 => q v B3 H3 ((n1.trans n2).trans n3) r3⟩
/-- .. that hands back a new thing -/
theorem goU_meth0 {S : List Mn → Ow → Prop} (C : CalM X.prog X.w X.K X.mg X.base CX0 own m ps k (spSU X.K S)) (hr : Room j X.A) (hk : k ≤ j) (ho : GoP X Γ o (insP own Ps)) (hm : Ps.lookup m = none) (hS : S [insP own Ps] W := by walk_at "pS")
    (ht : eval (.Call (.Attribute o m apos) [] [] pos) X.env = (do
      let ov ← eval o X.env
      standAt apos.atName
      let (f, first) ← holding [ov] (getMethod ov m pl)
      callWith pos f first (backTo pos (starEach [] X.env)) (backToKw pos (keywordEach [] X.env))) := by rfl) : GoU X Γ (.Call (.Attribute o m apos) [] [] pos) W := .mk fun σ B H Fs E Q q => by
  obtain ⟨C, g, fd, h1, h2, h3, F, b⟩ := C.ex
  refine toE (pe_meth0 sE h2 h3 (F.mono hk) hr b .nil pass0 ht) (ho σ B H Fs E _ fun v B1 H1 n1 r1 => ?_)
  obtain ⟨C', a, dx, vs, e1, rfl, e3, e4⟩ := lookO r1 hm
  cases h1.eq e1
  exact ⟨a, dx, vs, rfl, n1.bh _ _ e3, e4, _, W, B1, hS, n1.bh, .cons r1 .nil, fun v F B3 H3 n3 r3 r4 => q v F B3 H3 (n1.trans n3) r3 fun a ha => ⟨n1.hh.none (r4 a ha).1, (r4 a ha).2⟩⟩
/-! ### a method that changes its object -/
/-- W is an object of the class own that has no field m -/
def IsObj (own m : Str) (W : Ow) : Prop := ∀ K B H v F, W.p K B H v F → ∃ C a dx vs, ClsAt K own C ∧ v = .ref a ∧ H a = some (.ins C dx vs) ∧ vs.lookup m = none
theorem isObj_ins {Ss : List (Str × Sl)} (hm : Ss.lookup m = none) : IsObj own m (insO own Ss) := fun K B H v F h => by
  obtain ⟨C, a, dx, vs, F', h1, h2, h3, h4, h5, h6⟩ := h
  exact ⟨C, a, dx, vs, h1, h2, h5, h6.none hm⟩
theorem isObj_pin {v0 : V} (h : IsObj own m W) : IsObj own m (pinO W v0) := fun K B H v F hW => h K B H v F hW.2
/-- how the thing W of a slot stands to the thing V that a promise speaks of, and W' to V' -/
inductive Pin : Ow → Ow → Ow → Ow → Prop
  | same {W W' : Ow} : Pin W W' W W'
  | pin {W W' : Ow} {v0 : V} : Pin W W' (pinO W v0) (pinO W' v0)
theorem Pin.inn {V V' : Ow} (h : Pin V V' W W') {K : PySem.W.Frag} {B H : Hp} {v : L2.V} {F : List Addr} (hW : W.p K B H v F) : V.p K B H v F ∧ ∀ B' H' F', V'.p K B' H' v F' → W'.p K B' H' v F' := by
  cases h with
  | same => exact ⟨hW, fun _ _ _ z => z⟩
  | pin => exact ⟨hW.2, fun _ _ _ z => ⟨hW.1, z⟩⟩
theorem gm_meth (i : Nat) {V V' : Ow} {S : Ow → List Mn → Mn → Ow → Prop} {x : Str} {p' : Pos} (C : CalM X.prog X.w X.K X.mg X.base CX0 own m ps k (spW X.K S)) (hr : Room j X.A) (hk : k ≤ j) (hΓ : Γ[i]? = some (.ob W)) (hp : Pin V V' W W') (hO : IsObj own m V) (ha : GoA X Γ (e :: es) Qs) (hS : S V Qs R V' := by walk_at "pS")
    (hN : X.N[i]? = some x := by rfl) (hv : Vis X.env.scope x := by first | exact Or.inl rfl | exact Or.inr (Or.inl rfl) | exact Or.inr (Or.inr rfl)) (hd : (x == ("__debug__" : Str)) = false := by decide) (hcd : (x == ("__classdict__" : Str)) = false := by decide)
    (hst : starEach (e :: es) X.env = (false, eval e X.env) :: starEach es X.env := by rfl) (hpl : (backTo pos (starEach es X.env)).any (·.1) = false := by rfl)
    (ht : eval (.Call (.Attribute (.Name x p') m apos) (e :: es) [] pos) X.env = (do
      let ov ← eval (.Name x p') X.env
      standAt apos.atName
      let (f, first) ← holding [ov] (getMethod ov m pl)
      callWith pos f first (backTo pos (starEach (e :: es) X.env)) (backToKw pos (keywordEach [] X.env))) := by rfl) : GoM X Γ (.Call (.Attribute (.Name x p') m apos) (e :: es) [] pos) i W' R := .mk fun σ B H Fs E Q q => by
  obtain ⟨C, g, fd, h1, h2, h3, F, b⟩ := C.ex
  obtain ⟨v, e1, e2⟩ := E.at_ i _ hΓ
  obtain ⟨i1, i2⟩ := hp.inn e2
  obtain ⟨C', a, dx, vs, c1, rfl, c3, c4⟩ := hO _ _ _ _ _ i1
  cases h1.eq c1
  refine toE (pe_meth (pe_var hN hv hd hcd) h2 h3 (F.mono hk) hr b .nil pass0 sA hst hpl ht) ⟨_, e1, a, dx, vs, rfl, c3, c4, ha σ B H Fs E _ fun us B2 H2 n2 r2 => ?_⟩
  obtain ⟨v', e1', e2'⟩ := (E.nw n2).at_ i _ hΓ
  rw [e1] at e1'
  cases e1'
  exact ⟨V, Qs, R, V', B2, _, us, Fs i, hS, by rw [List.append_nil], n2.bh, (hp.inn e2').1, fun b hb => ((E.nw n2).fre i b hb).1, r2, fun v B3 H3 F3 m3 r3 w3 f3 => q v _ B3 H3 F3 (n2.thenMu m3) r3 e1 (i2 _ _ _ w3) fun b hb => ⟨(f3 b hb).1, (f3 b hb).2.imp id fun z => n2.hh.none z⟩⟩
theorem gm_meth0 (i : Nat) {V V' : Ow} {S : Ow → List Mn → Mn → Ow → Prop} {x : Str} {p' : Pos} (C : CalM X.prog X.w X.K X.mg X.base CX0 own m ps k (spW X.K S)) (hr : Room j X.A) (hk : k ≤ j) (hΓ : Γ[i]? = some (.ob W)) (hp : Pin V V' W W') (hO : IsObj own m V) (hS : S V [] R V' := by walk_at "pS")
    (hN : X.N[i]? = some x := by rfl) (hv : Vis X.env.scope x := by first | exact Or.inl rfl | exact Or.inr (Or.inl rfl) | exact Or.inr (Or.inr rfl)) (hd : (x == ("__debug__" : Str)) = false := by decide) (hcd : (x == ("__classdict__" : Str)) = false := by decide)
    (ht : eval (.Call (.Attribute (.Name x p') m apos) [] [] pos) X.env = (do
      let ov ← eval (.Name x p') X.env
      standAt apos.atName
      let (f, first) ← holding [ov] (getMethod ov m pl)
      callWith pos f first (backTo pos (starEach [] X.env)) (backToKw pos (keywordEach [] X.env))) := by rfl) : GoM X Γ (.Call (.Attribute (.Name x p') m apos) [] [] pos) i W' R := .mk fun σ B H Fs E Q q => by
  obtain ⟨C, g, fd, h1, h2, h3, F, b⟩ := C.ex
  obtain ⟨v, e1, e2⟩ := E.at_ i _ hΓ
  obtain ⟨i1, i2⟩ := hp.inn e2
  obtain ⟨C', a, dx, vs, c1, rfl, c3, c4⟩ := hO _ _ _ _ _ i1
  cases h1.eq c1
  refine toE (pe_meth0 (pe_var hN hv hd hcd) h2 h3 (F.mono hk) hr b .nil pass0 ht) ⟨_, e1, a, dx, vs, rfl, c3, c4, ?_⟩
  exact ⟨V, [], R, V', B, _, [], Fs i, hS, rfl, E.bh, i1, fun b hb => (E.fre i b hb).1, .nil, fun v B3 H3 F3 m3 r3 w3 f3 => q v _ B3 H3 F3 m3 r3 e1 (i2 _ _ _ w3) f3⟩
/-- .. that may raise, where it does not -/
theorem gm_methX (i : Nat) {V V' : Ow} {S : Ow → List Mn → Mn → Ow → Prop} {S2 : List Mn → Str → Str → L2.V → Prop} {x : Str} {p' : Pos} (C : CalM X.prog X.w X.K X.mg X.base (L2.CX X.prog X.w) own m ps k (orSp (spW X.K S) (spEx X.K S2))) (hr : Room j X.A) (hk : k ≤ j) (hΓ : Γ[i]? = some (.ob W)) (hp : Pin V V' W W') (hO : IsObj own m V) (ha : GoA X Γ (e :: es) Qs) (hS : S V Qs R V' := by walk_at "pS")
    (hN : X.N[i]? = some x := by rfl) (hv : Vis X.env.scope x := by first | exact Or.inl rfl | exact Or.inr (Or.inl rfl) | exact Or.inr (Or.inr rfl)) (hd : (x == ("__debug__" : Str)) = false := by decide) (hcd : (x == ("__classdict__" : Str)) = false := by decide)
    (hst : starEach (e :: es) X.env = (false, eval e X.env) :: starEach es X.env := by rfl) (hpl : (backTo pos (starEach es X.env)).any (·.1) = false := by rfl)
    (ht : eval (.Call (.Attribute (.Name x p') m apos) (e :: es) [] pos) X.env = (do
      let ov ← eval (.Name x p') X.env
      standAt apos.atName
      let (f, first) ← holding [ov] (getMethod ov m pl)
      callWith pos f first (backTo pos (starEach (e :: es) X.env)) (backToKw pos (keywordEach [] X.env))) := by rfl) : GoM X Γ (.Call (.Attribute (.Name x p') m apos) (e :: es) [] pos) i W' R := .mk fun σ B H Fs E Q q => by
  obtain ⟨C, g, fd, h1, h2, h3, F, b⟩ := C.ex
  obtain ⟨v, e1, e2⟩ := E.at_ i _ hΓ
  obtain ⟨i1, i2⟩ := hp.inn e2
  obtain ⟨C', a, dx, vs, c1, rfl, c3, c4⟩ := hO _ _ _ _ _ i1
  cases h1.eq c1
  refine toE (pe_meth (pe_var hN hv hd hcd) h2 h3 (F.mono hk) hr b .nil passL sA hst hpl ht) ⟨_, e1, a, dx, vs, rfl, c3, c4, ha σ B H Fs E _ fun us B2 H2 n2 r2 => .inl ?_⟩
  obtain ⟨v', e1', e2'⟩ := (E.nw n2).at_ i _ hΓ
  rw [e1] at e1'
  cases e1'
  exact ⟨V, Qs, R, V', B2, _, us, Fs i, hS, by rw [List.append_nil], n2.bh, (hp.inn e2').1, fun b hb => ((E.nw n2).fre i b hb).1, r2, fun v B3 H3 F3 m3 r3 w3 f3 => q v _ B3 H3 F3 (n2.thenMu m3) r3 e1 (i2 _ _ _ w3) fun b hb => ⟨(f3 b hb).1, (f3 b hb).2.imp id fun z => n2.hh.none z⟩⟩
/-- a def whose first argument is changed: f(x, e, ..) -/
theorem gm_call (i : Nat) {V V' : Ow} {S : Ow → List Mn → Mn → Ow → Prop} {x f' : Str} {p' : Pos} (C : CalF X.prog X.w X.K X.mg X.base CX0 f' ps k (spW X.K S)) (hr : Room j X.A) (hk : k ≤ j) (hΓ : Γ[i]? = some (.ob W)) (hp : Pin V V' W W') (ha : GoA X Γ es Qs) (hS : S V Qs R V' := by walk_at "pS")
    (hN : X.N[i]? = some x := by rfl) (hv : Vis X.env.scope x := by first | exact Or.inl rfl | exact Or.inr (Or.inl rfl) | exact Or.inr (Or.inr rfl)) (hd : (x == ("__debug__" : Str)) = false := by decide) (hcd : (x == ("__classdict__" : Str)) = false := by decide)
    (hg : Gl X f' := by rfl) (hdb : (f' == ("__debug__" : Str)) = false := by decide)
    (he : starEach (.Name x p' :: es) X.env = (false, eval (.Name x p') X.env) :: starEach es X.env := by rfl) (hpl : (backTo pos (starEach es X.env)).any (·.1) = false := by rfl) : GoM X Γ (.Call (.Name f' p) (.Name x p' :: es) [] pos) i W' R := .mk fun σ B H Fs E Q q => by
  obtain ⟨f, fd, F, m, kp, b⟩ := C.ex
  obtain ⟨v, e1, e2⟩ := E.at_ i _ hΓ
  obtain ⟨i1, i2⟩ := hp.inn e2
  refine toE (pe_call (F.mono hk) hr hg m kp b .nil pass0 (pa_cons (pe_var hN hv hd hcd) sA he) hdb he hpl) ⟨v, e1, ha σ B H Fs E _ fun us B2 H2 n2 r2 => ?_⟩
  obtain ⟨v', e1', e2'⟩ := (E.nw n2).at_ i _ hΓ
  rw [e1] at e1'
  cases e1'
  exact ⟨V, Qs, R, V', B2, _, us, Fs i, hS, by rw [List.append_nil], n2.bh, (hp.inn e2').1, fun b hb => ((E.nw n2).fre i b hb).1, r2, fun v B3 H3 F3 m3 r3 w3 f3 => q v _ B3 H3 F3 (n2.thenMu m3) r3 e1 (i2 _ _ _ w3) fun b hb => ⟨(f3 b hb).1, (f3 b hb).2.imp id fun z => n2.hh.none z⟩⟩
/-! ### a class is called -/
structure CalC (P : Program) (w : World) (K : PySem.W.Frag) (mg : Str → Option Value) (base : Heap) (own : Str) (ps : List Str) (k : Nat) (S : Ow → List Mn → Mn → Ow → Prop) : Prop where
  ex : ∃ C g fd, ClsAt K own C ∧ mg own = some (.ref C) ∧ Mk K C g ∧ FnOk P w K mg base CX0 k g fd ps (spW K S) ∧ Binds K fd ps []
theorem goU_make {S : Ow → List Mn → Mn → Ow → Prop} (C : CalC X.prog X.w X.K X.mg X.base own ps k S) (hr : Room (j + 1) X.A) (hk : k ≤ j) (ha : GoA X Γ (e :: es) Qs) (hS : S (insO own []) Qs (datP .none) W' := by walk_at "pS") (hg : Gl X own := by rfl)
    (hdb : (own == ("__debug__" : Str)) = false := by decide) (he : starEach (e :: es) X.env = (false, eval e X.env) :: starEach es X.env := by rfl) (hpl : (backTo pos (starEach es X.env)).any (·.1) = false := by rfl) : GoU X Γ (.Call (.Name own p) (e :: es) [] pos) W' := .mk fun σ B H Fs E Q q => by
  obtain ⟨C, g, fd, h1, h2, h3, F, b⟩ := C.ex
  refine toE (pe_make h3 (F.mono hk) hr hg h2 b .nil pass0 sA hdb he hpl) (ha σ B H Fs E _ fun us B1 H1 n1 r1 x dx nx ndx ne => ?_)
  have eH : Ex H1 (upd (upd H1 dx (.own x)) x (.ins C dx [])) := fun a o h => by
    rw [upd_ne (ne_of_none h nx), upd_ne (ne_of_none h ndx)]
    exact h
  have hn1 : ∀ a, (upd (upd H1 dx (.own x)) x (.ins C dx [])) a = none → H1 a = none := fun a z => eH.none z
  refine ⟨insO own [], Qs, datP .none, W', B1, .ref x, us, [x], hS, by rw [List.append_nil], n1.bh.trans eH, ⟨C, x, dx, [], [], h1, rfl, rfl, List.not_mem_nil, upd_same, .nil⟩, fun a ha => by rw [List.mem_singleton.mp ha]; exact n1.bh.none nx, r1, fun v B3 H3 F3 m3 r3 w3 f3 => ⟨dp_non r3, q _ F3 B3 H3 ⟨n1.bb.trans m3.bb, m3.bh, fun a o h => ?_, fun a z1 z2 => ?_⟩ w3 fun a ha => ⟨?_, (f3 a ha).1⟩⟩⟩
  · have h' := n1.hh a o h
    exact m3.hh a o (eH a o h') fun z => by
      rw [List.mem_singleton.mp z, nx] at h'
      cases h'
  · refine m3.nu a (n1.nu a z1 z2) fun z => z2 (n1.hh.none (hn1 a z))
  · rcases (f3 a ha).2 with z | z
    · rw [List.mem_singleton.mp z]
      exact n1.hh.none nx
    · exact n1.hh.none (hn1 a z)
/-! ### an expression that raises -/
/-- e raises an error of the class x, its field f is v: W of it is wanted -/
structure GoX (X : Cx) (W : WX) (Γ : Ga) (e : Expr) (x f : Str) (v : L2.V) : Prop where
  run : ∀ σ B H Fs, En X.K B H σ Γ Fs → (∀ C d H2, ClsAt X.K x C → Ex H H2 → H d = none → H2 d = some (.xd [(f, v)]) → W (.ref C) (some d) σ H2) → ∀ Q : VK, wpE X e σ H Q
structure GoXA (X : Cx) (W : WX) (Γ : Ga) (es : List Expr) (x f : Str) (v : L2.V) : Prop where
  run : ∀ σ B H Fs, En X.K B H σ Γ Fs → (∀ C d H2, ClsAt X.K x C → Ex H H2 → H d = none → H2 d = some (.xd [(f, v)]) → W (.ref C) (some d) σ H2) → ∀ Q : List L2.V → Hp → Prop, wpA X es σ H Q
variable {Wx : WX} {xn fn : Str} {fv : L2.V}
theorem goxa_here (he : GoX X Wx Γ e xn fn fv) (hs : starEach (e :: es) X.env = (false, eval e X.env) :: starEach es X.env := by rfl) : GoXA X Wx Γ (e :: es) xn fn fv := .mk fun σ B H Fs E hw Q =>
  toA (pa_cons sE (sA (es := es)) hs) (he.run σ B H Fs E hw _)
theorem goxa_next (he : GoP X Γ e P) (ht : GoXA X Wx Γ es xn fn fv) (hs : starEach (e :: es) X.env = (false, eval e X.env) :: starEach es X.env := by rfl) : GoXA X Wx Γ (e :: es) xn fn fv := .mk fun σ B H Fs E hw Q =>
  toA (pa_cons sE sA hs) (he σ B H Fs E _ fun v B1 H1 n1 r1 => ht.run σ B1 H1 Fs (E.nw n1) (fun C d H2 h1 h2 h3 h4 => hw C d H2 h1 (n1.hh.trans h2) (n1.hh.none h3) h4) _)
theorem gox_th (i : Nat) (hΓ : Γ[i]? = some (.ob W)) (hz : FzM W P) (h : GoX X Wx (Γ.set i (.pr P)) e xn fn fv) : GoX X Wx Γ e xn fn fv := .mk fun σ B H Fs E hw Q => h.run σ _ H _ (E.iceM hΓ hz) hw Q
/-- a def is called with an argument that raises -/
theorem gox_call {x : Str} {sp : Sp} (C : CalF X.prog X.w X.K X.mg X.base CX0 x ps k sp) (hr : Room j X.A) (hk : k ≤ j) (ha : GoXA X Wx Γ (e :: es) xn fn fv) (hg : Gl X x := by rfl) (hdb : (x == ("__debug__" : Str)) = false := by decide)
    (he : starEach (e :: es) X.env = (false, eval e X.env) :: starEach es X.env := by rfl) (hpl : (backTo pos (starEach es X.env)).any (·.1) = false := by rfl) : GoX X Wx Γ (.Call (.Name x p) (e :: es) [] pos) xn fn fv := .mk fun σ B H Fs E hw Q => by
  obtain ⟨f, fd, F, m, kp, b⟩ := C.ex
  exact toE (pe_call (F.mono hk) hr hg m kp b .nil pass0 sA hdb he hpl) (ha.run σ B H Fs E hw _)
/-- a method that raises -/
theorem gox_meth {sp : Sp} {S2 : List Mn → Str → Str → L2.V → Prop} (C : CalM X.prog X.w X.K X.mg X.base (L2.CX X.prog X.w) own m ps k (orSp sp (spEx X.K S2))) (tk : Takes X Wx) (hr : Room j X.A) (hk : k ≤ j) (ho : GoP X Γ o (insP own Ps)) (hm : Ps.lookup m = none) (ha : GoA X Γ (e :: es) Qs) (hS : S2 (insP own Ps :: Qs) xn fn fv := by walk_at "pS")
    (hst : starEach (e :: es) X.env = (false, eval e X.env) :: starEach es X.env := by rfl) (hpl : (backTo pos (starEach es X.env)).any (·.1) = false := by rfl)
    (ht : eval (.Call (.Attribute o m apos) (e :: es) [] pos) X.env = (do
      let ov ← eval o X.env
      standAt apos.atName
      let (f, first) ← holding [ov] (getMethod ov m pl)
      callWith pos f first (backTo pos (starEach (e :: es) X.env)) (backToKw pos (keywordEach [] X.env))) := by rfl) : GoX X Wx Γ (.Call (.Attribute o m apos) (e :: es) [] pos) xn fn fv := .mk fun σ B H Fs E hw Q => by
  obtain ⟨C, g, fd, h1, h2, h3, F, b⟩ := C.ex
  intro pins s I
  refine PySem.W.methodCall_KW (pl := pl) (thn ((sE (e := o)).run pins s σ H _ I (ho σ B H Fs E (fun v H1 => ∃ a dx vs, v = .ref a ∧ H1 a = some (.ins C dx vs) ∧ vs.lookup m = none ∧ wpA X (e :: es) σ H1 fun us H2 => orSp sp (spEx X.K S2) (v :: us) H2 Q fun cls d H' => Wx cls d σ H') fun v B1 H1 n1 r1 => ?_)) fun u s1 ⟨x, H1, I1, rx, a, dx, vs, ex, ea, l, q⟩ => ?_) ht
  · obtain ⟨C', a, dx, vs, e1, rfl, e3, e4⟩ := lookO r1 hm
    cases h1.eq e1
    refine ⟨a, dx, vs, rfl, n1.bh _ _ e3, e4, ha σ B1 H1 Fs (E.nw n1) _ fun us B2 H2 n2 r2 => .inr ?_⟩
    exact ⟨_, _, _, _, B2, hS, n2.bh, .cons ((insP own Ps).up n2.bb r1) r2, fun C d H3 g1 g2 g3 g4 => hw C d H3 g1 ((n1.hh.trans n2.hh).trans g2) ((n1.hh.trans n2.hh).none g3) g4⟩
  · subst ex
    obtain rfl : u = Value.ref a := rx
    refine getmeth_ok I1 ea h2 h3 l ?_
    refine PySem.W.callWith_K (first := [.ref a]) (h₀ := X.base) I.ok.mod.kin h3.kp (thn (q pos pins s1 I1) fun us s2 ⟨vs, H2, I2, r, q2⟩ => ⟨I2.kIn, ?_⟩) hst hpl
    exact run_fnS (E := WE Wx) (us := .ref a :: us) (vs := .ref a :: vs) (F.mono hk) hr b (passAt tk σ) I2 (.cons rfl r) q2
/-! ### statements that raise -/
theorem rs_retX (he : GoX X Wx Γ e xn fn fv) (hM : J.M = []) (hW : ∀ σ C d H2, ClsAt X.K xn C → Ex J.H H2 → J.H d = none → H2 d = some (.xd [(fn, fv)]) → Wx (.ref C) (some d) σ H2) : RnS X J N Γ (.Return (some e) pos) := .mk fun B0 σ B H Fs En j =>
  toS (ps_ret sE) (he.run σ B H Fs En (fun C d H2 h1 h2 h3 h4 => hW σ C d H2 h1 (fun a o h => h2 a o (j.h0 a o h (by rw [hM]; exact List.not_mem_nil))) (by
    cases q : J.H d with
    | none => rfl
    | some o => exact absurd h3 (j.h1 d (by rw [q]; exact fun z => nomatch z))) h4) _)
theorem rs_setX (i : Nat) {x : Str} {p' : Pos} (he : GoX X Wx Γ e xn fn fv) (hM : J.M = []) (hW : ∀ σ C d H2, ClsAt X.K xn C → Ex J.H H2 → J.H d = none → H2 d = some (.xd [(fn, fv)]) → Wx (.ref C) (some d) σ H2) (hN : X.N.Nodup) (hi : X.N[i]? = some x := by rfl) (hx : Loc X.env.scope x := by first | exact .inl rfl | exact .inr rfl)
    (hs : swapsWith e (some (.Name x p')) pos.line X.env = pure false := by rfl) (hf : X.fn x = true ∨ X.env.scope.names.lookup x = some .local := by first | exact .inl rfl | exact .inr rfl) : RnS X J N Γ (.Assign [.Name x p'] e pos) := .mk fun B0 σ B H Fs En j =>
  toS (ps_set hN hi hx sE hs hf) (he.run σ B H Fs En (fun C d H2 h1 h2 h3 h4 => hW σ C d H2 h1 (fun a o h => h2 a o (j.h0 a o h (by rw [hM]; exact List.not_mem_nil))) (by
    cases q : J.H d with
    | none => rfl
    | some o => exact absurd h3 (j.h1 d (by rw [q]; exact fun z => nomatch z))) h4) _)
/-! ### try -/
theorem rs_thru {h₀ : ExceptHandler} {hs : List ExceptHandler} (hb : Rn X.nox J N Γ body) : RnS X J N Γ (.Try body (h₀ :: hs) [] [] pos) := .mk fun B0 σ B H Fs E j =>
  toS (ps_try_thru0 (sSs (X := X.nox))) (hb.run B0 σ B H Fs E j)
/-- the error that a suite holds: at a, its dict at d -/
def errM (a d : Addr) (f : Str) (v : L2.V) : Mn := ⟨fun _ B w => w = .ref a ∧ B d = some (.xd [(f, v)]), fun e ⟨h1, h2⟩ => ⟨h1, e _ _ h2⟩⟩
theorem rs_try_ret {n : Str} {i : Nat} {b₀ : Stmt} {suite : List Stmt} {np rp pos' : Pos} (hs : X.stack = X.env :: X.outer) (hf : X.env.frame = some X.env.locals) (hN : X.N.Nodup) (hi : X.N[i]? = some n) (hln : X.env.kindOf n = some .local) (hc : ∃ C, ClsAt X.K xn C ∧ Names X xn (.ref C) ∧ PySem.W.exmOne X.K (.ref C) (.ref C) = some true) (tk : Takes X fun _ _ _ _ => False)
    (he : ∀ (W : WX) (pn : List (Addr × Obj)) (xe : Value → Shared → Prop), Takes (X.tr pn xe) W → GoX (X.tr pn xe) W Γ e xn fn fv)
    (hsu : ∀ (C a d : Addr) (oe : Obj) (pn : List (Addr × Obj)), ClsAt X.K xn C → Zc (.ref C) (some d) oe → (∃ vs, oe.data = .fields vs) → Rn (X.suite a ((a, oe) :: pn)) J { N with nx := fun _ => False, bk := fun _ => False, ct := fun _ => False } (Γ.set i (.pr (errM a d fn fv))) (b₀ :: suite)) :
    RnS X J N Γ (.Try [.Return (some e) rp] [.ExceptHandler (some (.Name xn np)) (some n) (b₀ :: suite) pos'] [] [] pos) := .mk fun B0 σ B H Fs E j => by
  obtain ⟨C, hC, nC, xC⟩ := hc
  refine toS (ps_try_as (tb := fun W => fun D σ' H' => ∀ pn xe, Takes (X.tr pn xe) W → wpSs (X.tr pn xe) [.Return (some e) rp] D σ' H')
    (ts := fun a cls d => fun D σ' H' => ∀ oe pn, Zc cls d oe → (∃ vs, oe.data = .fields vs) → wpSs (X.suite a ((a, oe) :: pn)) (b₀ :: suite) D σ' H') hs hf hN hi hln nC tk ?_ ?_) ?_
  · exact fun W pn xe tk' _ => ⟨fun pins s σ' H' D I h => h pn xe tk' pins s I⟩
  · exact fun a oe cls d pn hz hd => ⟨fun pins s σ' H' D I h => h oe pn hz hd pins s I⟩
  · intro pn xe tk'
    refine toSs (pss_one (ps_ret sE)) ((he _ pn xe tk').run σ B H Fs E (fun C' d H2 h1 h2 h3 h4 => ?_) _)
    cases hC.eq h1
    refine ⟨true, xC, fun _ a ha oe pn' hz hd => ?_, fun z => nomatch z⟩
    have nB : B d = none := E.bh.none h3
    have n2 : Nw B H (L2.upd B d (.xd [(fn, fv)])) H2 := ⟨Ex.new nB, fun b u z => by
      by_cases q : b = d
      · subst q
        rw [upd_same] at z
        rw [h4]
        exact z
      · rw [upd_ne q] at z
        exact h2 b u (E.bh b u z), h2, fun b z1 z2 => by
        have : b ≠ d := fun q => z2 (by rw [q]; exact h3)
        rw [upd_ne this]
        exact z1⟩
    have E2 := (E.nw n2).setP (P := errM a d fn fv) (v := .ref a) i ⟨rfl, upd_same⟩
    refine wpSs_mono ((hsu C a d oe pn' hC hz hd).run B0 _ _ H2 _ E2 ((j.nw n2).sub fun _ _ z => off_sub z)) ?_ ?_ ?_ ?_
    · exact fun σ' H' ⟨B', Γ', Fs', e, j, n⟩ => n.elim
    · exact fun v H' z => z
    · exact fun σ' H' ⟨B', Γ', Fs', e, j, n⟩ => n.elim
    · exact fun σ' H' ⟨B', Γ', Fs', e, j, n⟩ => n.elim
end
end PL

set_option maxHeartbeats 2000000
namespace PL
open PySem PySem.Spec PyProof.Rows L2
/-! ### fields of an object of our own -/
def putS (f : Str) (s : Sl) : List (Str × Sl) → List (Str × Sl)
  | [] => [(f, s)]
  | (g, t) :: r => if g = f then (g, s) :: r else (g, t) :: putS f s r
section
variable {K : PySem.W.Frag} {B H : Hp} {f : Str}
theorem FlO.len : ∀ {vs : List (Str × V)} {Ss : List (Str × Sl)} {F : List Addr}, FlO K B H vs Ss F → vs.length = Ss.length
  | _, _, _, .nil => rfl
  | _, _, _, .pr _ t => by rw [List.length_cons, List.length_cons, t.len]
  | _, _, _, .ob _ _ t => by rw [List.length_cons, List.length_cons, t.len]
theorem FlO.putP {v : V} {P : Mn} (h : P.p K B v) : ∀ {vs : List (Str × V)} {Ss : List (Str × Sl)} {F : List Addr}, FlO K B H vs Ss F → ∃ F', FlO K B H (putF f v vs) (putS f (.pr P) Ss) F' ∧ ∀ a ∈ F', a ∈ F
  | _, _, _, .nil => ⟨[], .pr h .nil, fun _ z => z⟩
  | _, _, F, .pr (f := g) (v := u) (P := P0) (vs := vs) (Ss := Ss) h0 t => by
    unfold putF putS
    by_cases q : g = f
    · rw [if_pos q, if_pos q]
      exact ⟨_, .pr h t, fun _ z => z⟩
    · rw [if_neg q, if_neg q]
      obtain ⟨F', h1, h2⟩ := t.putP h
      exact ⟨F', .pr h0 h1, h2⟩
  | _, _, _, .ob (f := g) (v := u) (W := W) (F1 := F1) (F := F) h0 d t => by
    unfold putF putS
    by_cases q : g = f
    · rw [if_pos q, if_pos q]
      exact ⟨_, .pr h t, fun _ z => List.mem_append_right _ z⟩
    · rw [if_neg q, if_neg q]
      obtain ⟨F', h1, h2⟩ := t.putP h
      exact ⟨F1 ++ F', .ob h0 (fun a ha z => d a ha (h2 a z)) h1, fun a z => by
        rcases List.mem_append.mp z with z | z
        · exact List.mem_append_left _ z
        · exact List.mem_append_right _ (h2 a z)⟩
theorem FlO.putO {v : V} {W : Ow} {G : List Addr} (h : W.p K B H v G) : ∀ {vs : List (Str × V)} {Ss : List (Str × Sl)} {F : List Addr}, FlO K B H vs Ss F → (∀ a ∈ G, a ∉ F) → ∃ F', FlO K B H (putF f v vs) (putS f (.ob W) Ss) F' ∧ ∀ a ∈ F', a ∈ G ∨ a ∈ F
  | _, _, _, .nil, _ => ⟨G ++ [], .ob h (fun _ _ z => nomatch z) .nil, fun a z => .inl (by simpa using z)⟩
  | _, _, F, .pr (f := g) h0 t, hd => by
    unfold putF putS
    by_cases q : g = f
    · rw [if_pos q, if_pos q]
      exact ⟨G ++ F, .ob h hd t, fun a z => List.mem_append.mp z⟩
    · rw [if_neg q, if_neg q]
      obtain ⟨F', h1, h2⟩ := t.putO h hd
      exact ⟨F', .pr h0 h1, h2⟩
  | _, _, _, .ob (f := g) (F1 := F1) (F := F) h0 d t, hd => by
    unfold putF putS
    by_cases q : g = f
    · rw [if_pos q, if_pos q]
      exact ⟨G ++ F, .ob h (fun a ha z => hd a ha (List.mem_append_right _ z)) t, fun a z => (List.mem_append.mp z).imp id fun z => List.mem_append_right _ z⟩
    · rw [if_neg q, if_neg q]
      obtain ⟨F', h1, h2⟩ := t.putO h fun a ha z => hd a ha (List.mem_append_right _ z)
      refine ⟨F1 ++ F', .ob h0 (fun a ha z => ?_) h1, fun a z => ?_⟩
      · rcases h2 a z with y | y
        · exact hd a y (List.mem_append_left _ ha)
        · exact d a ha y
      · rcases List.mem_append.mp z with z | z
        · exact .inr (List.mem_append_left _ z)
        · exact (h2 a z).imp id fun z => List.mem_append_right _ z
/-- a list that is a field -/
theorem FlO.lst {ds : List D} : ∀ {vs : List (Str × V)} {Ss : List (Str × Sl)} {F : List Addr}, FlO K B H vs Ss F → F.Nodup ∨ True → Ss.lookup f = some (.own ds) →
    ∃ p us, vs.lookup f = some (.ref p) ∧ p ∈ F ∧ H p = some (.lst us) ∧ DpAll K B us ds ∧ ∀ B' H', Ex B B' → (∀ a ∈ F, H' a = H a) → ∀ us' es, DpAll K B' us' es → FlO K B' (L2.upd H' p (.lst us')) vs (putS f (.own es) Ss) F
  | _, _, _, .nil, _, e => nomatch e
  | _, _, F, .pr (f := g) (v := u) (P := P0) (vs := vs) (Ss := Ss) h0 t, _, e => by
    by_cases q : g = f
    · subst q
      rw [List.lookup_cons, beq_self_eq_true] at e
      cases e
    · have q2 : (f == g) = false := by simpa using fun z : f = g => q z.symm
      rw [List.lookup_cons, q2] at e
      obtain ⟨p, us, h1, h2, h3, h4, h5⟩ := t.lst (.inr trivial) e
      refine ⟨p, us, by rw [List.lookup_cons, q2]; exact h1, h2, h3, h4, fun B' H' hB hH us' es hu => ?_⟩
      unfold putS
      rw [if_neg q]
      exact .pr (P0.up hB h0) (h5 B' H' hB hH us' es hu)
  | _, _, _, .ob (f := g) (v := u) (W := W) (F1 := F1) (vs := vs) (Ss := Ss) (F := F) h0 d t, _, e => by
    by_cases q : g = f
    · subst q
      rw [List.lookup_cons, beq_self_eq_true] at e
      cases e
      obtain ⟨p, us, rfl, e2, e3, e4⟩ := h0
      refine ⟨p, us, by rw [List.lookup_cons, beq_self_eq_true], List.mem_append_left _ (by rw [e2]; exact List.mem_cons_self), e3, e4, fun B' H' hB hH us' es hu => ?_⟩
      unfold putS
      rw [if_pos rfl]
      refine .ob ⟨p, us', rfl, e2, upd_same, hu⟩ d (FlO.loc (fun a ha => ?_) (t.upB hB))
      have np : a ≠ p := fun z => d p (by rw [e2]; exact List.mem_cons_self) (z ▸ ha)
      rw [upd_ne np]
      exact hH a (List.mem_append_right _ ha)
    · have q2 : (f == g) = false := by simpa using fun z : f = g => q z.symm
      rw [List.lookup_cons, q2] at e
      obtain ⟨p, us, h1, h2, h3, h4, h5⟩ := t.lst (.inr trivial) e
      refine ⟨p, us, by rw [List.lookup_cons, q2]; exact h1, List.mem_append_right _ h2, h3, h4, fun B' H' hB hH us' es hu => ?_⟩
      unfold putS
      rw [if_neg q]
      refine .ob (W.loc (fun a ha => ?_) (W.upB hB h0)) d (h5 B' H' hB (fun a ha => hH a (List.mem_append_right _ ha)) us' es hu)
      have np : a ≠ p := fun z => d a ha (z ▸ h2)
      rw [upd_ne np]
      exact hH a (List.mem_append_left _ ha)
end
section
variable {X : Cx} {J : Jd} {N : Nd} {Γ : Ga} {a e : Expr} {es : List Expr} {st : Stmt} {sts rest body : List Stmt} {P R : Mn} {W W' : Ow} {d : D} {ds : List D} {pos apos p : Pos} {own f : Str} {j k : Nat} {Ss : List (Str × Sl)} {fl : List Str}
/-- x.f = e, x an object of our own -/
theorem rs_fld (i : Nat) {x : Str} {p' q : Pos} {Ss' : List (Str × Sl)} (O : ClsOk X.K own fl) (he : GoP X Γ e P) (hΓ : Γ[i]? = some (.ob W)) (hp : Pin (insO own Ss) (insO own Ss') W W') (h : N.nx (Γ.set i (.ob W'))) (hS : putS f (.pr P) Ss = Ss' := by repeat (first | rfl | (unfold putS; first | rw [if_neg (by decide +kernel)] | rw [if_pos rfl]))) (hi : i < Γ.length := by first | decide | exact of_decide_eq_true rfl | (simp only [List.length_set, List.length_cons, List.length_nil]; decide)) (hl : Ss.length < 900 := by first | decide | exact of_decide_eq_true rfl | (simp only [List.length_set, List.length_cons, List.length_nil]; decide)) (hm : f ∈ fl := by first | exact List.mem_cons_self | decide)
    (hN : X.N[i]? = some x := by rfl) (hv : Vis X.env.scope x := by first | exact Or.inl rfl | exact Or.inr (Or.inl rfl) | exact Or.inr (Or.inr rfl)) (hd : (x == ("__debug__" : Str)) = false := by decide) (hcd : (x == ("__classdict__" : Str)) = false := by decide)
    (hs : swapsWith e (some (.Attribute (.Name x p') f q)) pos.line X.env = pure false := by rfl) : RnS X J N Γ (.Assign [.Attribute (.Name x p') f q] e pos) := .mk fun B0 σ B H Fs E j' =>
  toS (ps_fld (pe_var hN hv hd hcd) sE hs) (he σ B H Fs E _ fun v B2 H2 n r => by
    subst hS
    obtain ⟨u, h1, h2⟩ := (E.nw n).at_ i _ hΓ
    obtain ⟨i1, i2⟩ := hp.inn h2
    obtain ⟨C, a, dx, vs, F', c1, rfl, c3, c4, c5, c6⟩ := i1
    obtain ⟨F2, g1, g2⟩ := c6.putP (f := f) r
    have m : Mu (Fs i) B2 H2 B2 (upd H2 a (.ins C dx (putF f v vs))) := ⟨.refl _, fun b o z => by
      have nb : b ≠ a := fun q => by
        have := ((E.nw n).fre i a (by rw [c3]; exact List.mem_cons_self)).1
        rw [q, this] at z
        cases z
      rw [upd_ne nb]
      exact n.bh b o z, fun b o z hF => by
      rw [upd_ne (fun q => hF (by rw [q, c3]; exact List.mem_cons_self))]
      exact z, fun b z q => by
      by_cases y : b = a
      · rw [y, upd_same] at q
        cases q
      · rw [upd_ne y] at q
        exact z q, fun _ z _ => z⟩
    have na : a ∉ F2 := fun z => c4 (g2 a z)
    refine ⟨_, h1, a, C, dx, vs, rfl, c5, O.cl C c1, O.na C f c1 hm, by rw [c6.len]; omega, B2, _, _, (E.nw n).mu m hi h1 (F2 := a :: F2) (i2 _ _ _ ⟨C, a, dx, _, F2, c1, rfl, rfl, na, upd_same, FlO.loc (fun b hb => upd_ne fun z => na (z ▸ hb)) g1⟩) (fun b hb => ?_), (j'.nw n).mu m (fun b hb => ?_), h⟩
    · have hb2 : b ∈ Fs i := by
        rw [c3]
        rcases List.mem_cons.mp hb with rfl | hb
        · exact List.mem_cons_self
        · exact List.mem_cons_of_mem _ (g2 b hb)
      exact ⟨((E.nw n).fre i b hb2).1, .inl hb2⟩
    · rw [c3]
      rcases List.mem_cons.mp hb with rfl | hb
      · exact .inl List.mem_cons_self
      · exact .inl (List.mem_cons_of_mem _ (g2 b hb)))
/-- x.f = e, e a new list -/
theorem rs_fldN (i : Nat) {x : Str} {p' q : Pos} {Ss' : List (Str × Sl)} (O : ClsOk X.K own fl) (he : GoN X Γ e ds) (hΓ : Γ[i]? = some (.ob W)) (hp : Pin (insO own Ss) (insO own Ss') W W') (h : N.nx (Γ.set i (.ob W'))) (hS : putS f (.own ds) Ss = Ss' := by repeat (first | rfl | (unfold putS; first | rw [if_neg (by decide +kernel)] | rw [if_pos rfl]))) (hi : i < Γ.length := by first | decide | exact of_decide_eq_true rfl | (simp only [List.length_set, List.length_cons, List.length_nil]; decide)) (hl : Ss.length < 900 := by first | decide | exact of_decide_eq_true rfl | (simp only [List.length_set, List.length_cons, List.length_nil]; decide)) (hm : f ∈ fl := by first | exact List.mem_cons_self | decide)
    (hN : X.N[i]? = some x := by rfl) (hv : Vis X.env.scope x := by first | exact Or.inl rfl | exact Or.inr (Or.inl rfl) | exact Or.inr (Or.inr rfl)) (hd : (x == ("__debug__" : Str)) = false := by decide) (hcd : (x == ("__classdict__" : Str)) = false := by decide)
    (hs : swapsWith e (some (.Attribute (.Name x p') f q)) pos.line X.env = pure false := by rfl) : RnS X J N Γ (.Assign [.Attribute (.Name x p') f q] e pos) := .mk fun B0 σ B H Fs E j' =>
  toS (ps_fld (pe_var hN hv hd hcd) sE hs) (he σ B H Fs E _ fun l us B2 H2 n hp0 hb0 hH hds => by
    subst hS
    obtain ⟨u, h1, h2⟩ := (E.nw n).at_ i _ hΓ
    obtain ⟨i1, i2⟩ := hp.inn h2
    obtain ⟨C, a, dx, vs, F', c1, rfl, c3, c4, c5, c6⟩ := i1
    have nl : ∀ k b, b ∈ Fs k → b ≠ l := fun k b hb z => (E.fre k b hb).2 (by rw [z]; exact hp0)
    have nla : l ≠ a := fun z => nl i a (by rw [c3]; exact List.mem_cons_self) z.symm
    obtain ⟨F2, g1, g2⟩ := c6.putO (f := f) (W := lstO ds) (G := [l]) ⟨l, us, rfl, rfl, hH, hds⟩ (fun b hb z => nl i b (by rw [c3]; exact List.mem_cons_of_mem _ z) (List.mem_singleton.mp hb))
    have m : Mu (Fs i) B2 H2 B2 (upd H2 a (.ins C dx (putF f (.ref l) vs))) := ⟨.refl _, fun b o z => by
      have nb : b ≠ a := fun q => by
        have := ((E.nw n).fre i a (by rw [c3]; exact List.mem_cons_self)).1
        rw [q, this] at z
        cases z
      rw [upd_ne nb]
      exact n.bh b o z, fun b o z hF => by
      rw [upd_ne (fun q => hF (by rw [q, c3]; exact List.mem_cons_self))]
      exact z, fun b z q => by
      by_cases y : b = a
      · rw [y, upd_same] at q
        cases q
      · rw [upd_ne y] at q
        exact z q, fun _ z _ => z⟩
    have na : a ∉ F2 := fun z => by
      rcases g2 a z with y | y
      · exact nla (List.mem_singleton.mp y).symm
      · exact c4 y
    have mm : Mu (Fs i) B H B2 (upd H2 a (.ins C dx (putF f (.ref l) vs))) := n.thenMu m
    have hFF : ∀ b ∈ a :: F2, b ∈ Fs i ∨ b = l := fun b hb => by
      rw [c3]
      rcases List.mem_cons.mp hb with rfl | hb
      · exact .inl List.mem_cons_self
      · rcases g2 b hb with y | y
        · exact .inr (List.mem_singleton.mp y)
        · exact .inl (List.mem_cons_of_mem _ y)
    refine ⟨_, h1, a, C, dx, vs, rfl, c5, O.cl C c1, O.na C f c1 hm, by rw [c6.len]; omega, B2, _, _, E.mu mm hi h1 (F2 := a :: F2) (i2 _ _ _ ⟨C, a, dx, _, F2, c1, rfl, rfl, na, upd_same, FlO.loc (fun b hb => upd_ne fun z => na (z ▸ hb)) g1⟩) (fun b hb => ?_), j'.mu mm (fun b hb => ?_), h⟩
    · rcases hFF b hb with y | rfl
      · exact ⟨((E.nw n).fre i b y).1, .inl y⟩
      · exact ⟨hb0, .inr hp0⟩
    · rcases hFF b hb with y | rfl
      · exact .inl y
      · exact .inr hp0)
/-- x.f, a list within the object of the slot i -/
theorem gol_fld (i : Nat) {x : Str} {p' : Pos} {Wf : List D → Ow} (O : ClsOk X.K own fl) (hΓ : Γ[i]? = some (.ob W)) {Sf : List D → List (Str × Sl)} (hp : ∀ es, Pin (insO own Ss) (insO own (Sf es)) W (Wf es)) (hf : Ss.lookup f = some (.own ds) := by rfl) (hS : ∀ es, putS f (.own es) Ss = Sf es := by intro es; repeat (first | rfl | (unfold putS; first | rw [if_neg (by decide +kernel)] | rw [if_pos rfl]))) (hm : f ∈ fl := by first | exact List.mem_cons_self | decide)
    (hN : X.N[i]? = some x := by rfl) (hv : Vis X.env.scope x := by first | exact Or.inl rfl | exact Or.inr (Or.inl rfl) | exact Or.inr (Or.inr rfl)) (hd : (x == ("__debug__" : Str)) = false := by decide) (hcd : (x == ("__classdict__" : Str)) = false := by decide)
    (hb : attributeBase (.Name x p') f X.env (eval (.Name x p') X.env) = eval (.Name x p') X.env := by rfl) : GoL X Γ (.Attribute (.Name x p') f pos) i ds Wf := .mk fun σ B H Fs E Q q => by
  obtain ⟨u, h1, h2⟩ := E.at_ i _ hΓ
  obtain rfl : Sf = fun es => putS f (.own es) Ss := funext fun es => (hS es).symm
  obtain ⟨i1, _⟩ := (hp ds).inn h2
  obtain ⟨C, a, dx, vs, F', c1, rfl, c3, c4, c5, c6⟩ := i1
  obtain ⟨l, us, g1, g2, g3, g4, g5⟩ := c6.lst (.inr trivial) hf
  have nla : a ≠ l := fun z => c4 (z ▸ g2)
  refine toE (pe_fld (pe_var hN hv hd hcd) hb) ⟨_, h1, a, C, dx, vs, _, rfl, c5, O.cl C c1, O.na C f c1 hm, g1, q l us _ B H (.same E.bh) h1 (by rw [c3]; exact List.mem_cons_of_mem _ g2) g3 g4 fun B' H' hB hH us' es hu => ?_⟩
  refine ((hp es).inn h2).2 _ _ _ ⟨C, a, dx, vs, F', c1, rfl, c3, c4, ?_, g5 B' H' hB (fun b hb => hH b (by rw [c3]; exact List.mem_cons_of_mem _ hb)) us' es hu⟩
  rw [upd_ne nla, hH a (by rw [c3]; exact List.mem_cons_self)]
  exact c5
/-! ### what a suite asks of its error -/
structure IsiC (K : PySem.W.Frag) (C : Addr) : Prop where
  hcl : (PySem.W.clsIn K C).isSome = true
  hga : PySem.W.findIn K (.ref C) "__getattribute__" = some (some (.builtin "BaseException.__getattribute__"))
  hgt : PySem.W.findIn K (.ref C) "__getattr__" = some none
  hsub : PySem.W.subIn K (.ref C) (.type "BaseException") = some true
  ha : PySem.W.findIn K (.ref C) "__class__" = some (some (.builtin "object.__class__"))
  hn : PySem.W.specialIn K (.builtin "object.__class__") "__get__" = some (some (.builtin "getset_descriptor.__get__"))
  htk : PySem.W.takesIn K (.builtin "object.__class__") = some true
  hm : PySem.W.mroIn K C (.type "object") = some true
variable {A D0 C CF : Addr} {oe : Obj} {pn : List (Addr × Obj)} {fv : V}
def rIsE2 (D0 A CF : Addr) (r : Bool) : List V → Hp → VK → Prop := fun xs H Q => (∃ fs, H D0 = some (.xd fs)) ∧ xs = [.ref A, .ref CF] ∧ Q (.bl r) H
theorem call_isE2 {r : Bool} (I0 : IsiC X.K C) (hz : Zc (.ref C) (some D0) oe) (hf : ∃ vs, oe.data = .fields vs) (hk : PySem.W.kitOne X.K (.ref C) (.ref CF) = some r) : CallR (X.suite A ((A, oe) :: pn)) (.builtin "isinstance") (rIsE2 D0 A CF r) := by
  intro pins s σ H xs us Q I r0 h
  obtain ⟨⟨fs, hd⟩, rfl, q⟩ := h
  cases r0 with
  | cons rx rr =>
    cases rr with
    | cons rt rr =>
      cases rr
      cases rx
      cases rt
      obtain ⟨hget, _⟩ := I.pin (A, oe) (List.mem_append.mpr (.inl List.mem_cons_self))
      obtain ⟨vs, hv⟩ := hf
      have hx : ObjOk X.prog X.w H s.heap D0 (.xd fs) := I.hok D0 _ hd
      obtain ⟨mA, hns, _⟩ := hx
      obtain ⟨od, ho, _⟩ := lookIn_ns hns
      have J : PySem.W.InstAt s.heap A oe C (some od) := ⟨hget, hz.1, by unfold PySem.W.notCls; rw [hv] <;> rfl, by rw [hz.2]; exact ho⟩
      exact PySem.W.kia_one (PySem.W.kitx_exc I0.hcl I0.hga I0.hgt I0.hsub I0.ha I0.hn I0.htk I0.hm) I.kIn J hk (fun z => nomatch z) fun tk => ⟨.bl r, H, I.kept (t' := tk) fun _ _ z => z, rfl, q⟩
def refP (a : Addr) : Mn := ⟨fun _ _ v => v = .ref a, fun _ h => h⟩
theorem go_glob {x : Str} {c : Addr} (hm : X.mg x = some (.ref c)) (hg : Gl X x := by rfl) (hd : (x == ("__debug__" : Str)) = false := by decide) : GoP X Γ (.Name x pos) (refP c) := .mk fun σ B H Fs E Q q =>
  toE (pe_glob (v := .ref c) hg hm rfl hd) (q _ B H (.same E.bh) rfl)
theorem go_isE {x : Str} {r : Bool} {p2 : Pos} (I0 : IsiC X.K C) (hz : Zc (.ref C) (some D0) oe) (hf : ∃ vs, oe.data = .fields vs) (hk : PySem.W.kitOne X.K (.ref C) (.ref CF) = some r) (he : GoP (X.suite A ((A, oe) :: pn)) Γ a (errM A D0 f fv)) (hmi : X.mg "isinstance" = none) (hm : X.mg x = some (.ref CF))
    (hgi : Gl X "isinstance" := by rfl) (hg : Gl X x := by rfl) (hd : (x == ("__debug__" : Str)) = false := by decide) (he1 : starEach [a, .Name x p2] X.env = (false, eval a X.env) :: starEach [.Name x p2] X.env := by rfl) (he2 : starEach [.Name x p2] X.env = (false, eval (.Name x p2) X.env) :: starEach [] X.env := by rfl) :
    Go (X.suite A ((A, oe) :: pn)) Γ (.Call (.Name "isinstance" p) [a, .Name x p2] [] pos) (.bool r) :=
  go_callB (X := X.suite A ((A, oe) :: pn)) (call_isE2 I0 hz hf hk) hgi hmi PyProof.Rows.boot_isinstance (goA_cons he (goA_cons (go_glob (X := X.suite A ((A, oe) :: pn)) hm hg hd) goA_nil he2) he1) (fun vs B H hB rr Q q => by
    obtain ⟨v, w, rfl, h, h2⟩ := mn2 rr
    obtain ⟨rfl, h3⟩ := h
    have h2 : w = .ref CF := h2
    subst h2
    exact ⟨⟨_, hB _ _ h3⟩, rfl, q _ B H (.same hB) (Dp.bl _)⟩) (by decide) (by decide) he1 (by rw [he2]; rfl)
/-- the field of the error that a suite holds -/
theorem go_errf (T : XfC X.K C) (hno : PySem.W.findIn X.K (.ref C) f = some none) (hz : Zc (.ref C) (some D0) oe) (hf : ∃ vs, oe.data = .fields vs) (he : GoP (X.suite A ((A, oe) :: pn)) Γ a (errM A D0 f fv)) (hv : ∀ K B, Dp K B fv d)
    (hb : attributeBase a f X.env (eval a X.env) = eval a X.env := by rfl) : Go (X.suite A ((A, oe) :: pn)) Γ (.Attribute a f pos) d := .mk fun σ B H Fs E Q q =>
  toE (pe_xf T hno hz hf sE hb) (he σ B H Fs E _ fun v B1 H1 n1 ⟨h1, h2⟩ => ⟨h1, rfl, D0, _, fv, rfl, n1.bh _ _ h2, by rw [List.lookup_cons, beq_self_eq_true], q _ B1 H1 n1 (hv _ _)⟩)
end
end PL
namespace PL
open PySem PySem.Spec PyProof.Rows L2
/-- the __init__ of the class own is st -/
structure MtdI (K : PySem.W.Frag) (mg : Str → Option Value) (own qual : Str) (st : Stmt) (ps : List Str) : Prop where
  ex : ∃ C g fd, ClsAt K own C ∧ mg own = some (.ref C) ∧ Mk K C g ∧ Fun K "__init__" qual st g fd ∧ Binds K fd ps []
theorem mI_ok {P : Program} {w : World} {K : PySem.W.Frag} {mg : Str → Option Value} {base : Heap} {own qual : Str} {st : Stmt} {L ps : List Str} {k : Nat} {S : Ow → List Mn → Mn → Ow → Prop} (Mt : MtdI K mg own qual st ps) (Sc : FnScope L ps (defScope st)) (hl : ∀ W Ps R W', S W Ps R W' → Ps.length + 1 = ps.length) (hL : 0 < L.length)
    (body : ∀ W Ps R W', S W Ps R W' → ∀ (v0 : V) (f : Addr) (cdv : Value) (A : Around) (outer : List Env) (s : Shared) (H : Hp) (E : XK), Room k (A.deeper (envOfC qual (defScope st) s.heap.objs.size f cdv)) → ∀ J : Jd, J.S = [0] →
      Rn (cxOf CX0 P w K mg base L qual (defScope st) f cdv A outer s H E).nox J (ndW R W' v0) (entryW (pinO W v0) Ps L.length) (defBody st)) : CalC P w K mg base own ps (k + 1) S := by
  obtain ⟨C, g, fd, h1, h2, h3, F, b⟩ := Mt.ex
  refine ⟨C, g, fd, h1, h2, h3, F.ok Sc (fun vs H Q E h => ?_) fun cdv A outer s H vs Q E hr h => ?_, b⟩
  · obtain ⟨W, Ps, R, W', B, v0, us, F, hS, rfl, _, _, _, h, _⟩ := h
    rw [List.length_cons, mn_len h, hl _ _ _ _ hS]
  · obtain ⟨W, Ps, R, W', B, v0, us, F, hS, rfl, hB, hW, hF, hv, q⟩ := h
    exact ⟨_, sSs, end_W rfl q (body W Ps R W' hS v0 g cdv A outer s H E hr ⟨H, F, [0]⟩ rfl B (L2.start L (v0 :: us)) B H _ (en_entryW hB ⟨rfl, hW⟩ hF hv hL) jn_entryW)⟩
end PL

set_option maxHeartbeats 2000000
namespace PL
open PySem PySem.Spec PyProof.Rows L2
section
variable {X : Cx} {J : Jd} {N : Nd} {Γ : Ga} {tg iter : Expr} {P : Mn} {W : Ow} {pos : Pos}
/-- name = [..], a thing of our own read on the way: the items are flat -/
theorem rs_lcT (t : Nat) (hΓ : Γ[t]? = some (.ob W)) (hz0 : FzM W P) (i : Nat) {x' : Str} {p' lpos : Pos} {elt : Expr} {ifs : List Expr} {scope : Scope} {α : Type} {xs : List α} {enc : α → D} {q : α → Bool} {f : α → D} (own : List (Str × Nat)) (hc : X.calm = true) (hN : X.N.Nodup) (hi : GoI X (Γ.set t (.pr P)) tg iter (xs.map enc))
    (body : ∀ (k : Nat) x, xs[k]? = some x → ∃ Γ' ts, (Blk X scope fun X' => GoG X' (wipeG (Γ.set t (.pr P)) (own.map (·.2))) tg (enc x) Γ' ts) ∧ (Blk X scope fun X' => GoTs X' Γ' ifs (q x)) ∧ (q x = true → Blk X scope fun X' => Go X' Γ' elt (f x)) ∧ (∀ t ∈ ts, t ∈ own.map (·.2)))
    (ok : blkC X.N X.env.scope scope own = true) (hsw : swapsWith (.ListComp elt [⟨tg, iter, ifs, 0⟩] scope lpos) (some (.Name x' p')) pos.line X.env = pure true) (hfl : ((xs.filter q).map f).all flatD = true) (h : N.nx (Γ.set i (.dat (.list ((xs.filter q).map f))))) (hz : xs.length < 1000000 := by walk_at "pside") (hx : X.N[i]? = some x' := by rfl) (hyl : X.env.scope.names.lookup x' = some .local := by rfl) (hs : ∀ x, foldedSetIterable iter X.env x = pure x := by intro _; rfl) :
    RnS X J N Γ (.Assign [.Name x' p'] (.ListComp elt [⟨tg, iter, ifs, 0⟩] scope lpos) pos) := .mk fun B0 σ B H Fs E j =>
  toS (ps_setLc (own := own) hc hN hx hyl hsw sI (blkOk_by ok) (fun s H C cl fp => ⟨fun pins s' σ H v u Q I r h => (h s _ C cl fp) pins s' u I r⟩) (fun s H C cl fp => ⟨fun pins s' σ H Q I h => (h s _ C cl fp) pins s' I⟩) (fun s H C cl fp => ⟨fun pins s' σ H Q I h => (h s _ C cl fp) pins s' I⟩) hs)
    (lc_run q f hi (ltZ hz) (fun k x hx => let ⟨Γ', ts, h1, h2, h3, h4⟩ := body k x hx; ⟨Γ', ts, h4, h1, h2, h3⟩) (E.iceM hΓ hz0) (fun x H1 => gName i x σ H1 (N.ends X J B0).nx) fun l us B2 H2 n hl hb hH hd => by
      have n0 : Nw B H B H2 := ⟨.refl _, E.bh.trans n.hh, n.hh, fun _ h _ => h⟩
      obtain ⟨e1, e2⟩ := Nw.ice n0.bh (E.bh.none hl) hH
      have n2 : Nw B H (upd B l (.lst us)) H2 := ⟨e1, e2, n.hh, fun a h1 h2 => by
        have : a ≠ l := fun z => h2 (by rw [z]; exact hl)
        rw [upd_ne this]
        exact h1⟩
      exact ⟨_, _, _, (E.nw n2).setP (P := datP (.list ((xs.filter q).map f))) i (show Dp _ _ _ _ from .lst (.of upd_same) (flats_any hd hfl)), (j.nw n2).sub fun _ _ z => off_sub z, h⟩)
theorem rs_lcTM (t : Nat) (hΓ : Γ[t]? = some (.ob W)) (hz0 : FzM W P) (i : Nat) {x' : Str} {p' lpos : Pos} {elt : Expr} {scope : Scope} {α : Type} {xs : List α} {enc : α → D} {f : α → D} (own : List (Str × Nat)) (hc : X.calm = true) (hN : X.N.Nodup) (hi : GoI X (Γ.set t (.pr P)) tg iter (xs.map enc))
    (body : ∀ (k : Nat) x, xs[k]? = some x → ∃ Γ' ts, (Blk X scope fun X' => GoG X' (wipeG (Γ.set t (.pr P)) (own.map (·.2))) tg (enc x) Γ' ts) ∧ (Blk X scope fun X' => Go X' Γ' elt (f x)) ∧ (∀ t ∈ ts, t ∈ own.map (·.2)))
    (ok : blkC X.N X.env.scope scope own = true) (hsw : swapsWith (.ListComp elt [⟨tg, iter, [], 0⟩] scope lpos) (some (.Name x' p')) pos.line X.env = pure true) (hfl : (xs.map f).all flatD = true) (h : N.nx (Γ.set i (.dat (.list (xs.map f))))) (hz : xs.length < 1000000 := by walk_at "pside") (hx : X.N[i]? = some x' := by rfl) (hyl : X.env.scope.names.lookup x' = some .local := by rfl) (hs : ∀ x, foldedSetIterable iter X.env x = pure x := by intro _; rfl) :
    RnS X J N Γ (.Assign [.Name x' p'] (.ListComp elt [⟨tg, iter, [], 0⟩] scope lpos) pos) :=
  rs_lcT t hΓ hz0 i (q := fun _ => true) own hc hN hi (fun k x hx => let ⟨Γ', ts, h1, h2, h4⟩ := body k x hx; ⟨Γ', ts, h1, fun _ _ _ _ _ => goTs_nil, fun _ => h2, h4⟩) ok hsw (by rw [List.filter_eq_self.mpr fun _ _ => rfl]; exact hfl) (by rw [List.filter_eq_self.mpr fun _ _ => rfl]; exact h) hz hx hyl hs
/-- .. the new list is our own -/
theorem rs_lcTO (t : Nat) (hΓ : Γ[t]? = some (.ob W)) (hz0 : FzM W P) (i : Nat) {x' : Str} {p' lpos : Pos} {elt : Expr} {ifs : List Expr} {scope : Scope} {α : Type} {xs : List α} {enc : α → D} {q : α → Bool} {f : α → D} (own : List (Str × Nat)) (hc : X.calm = true) (hN : X.N.Nodup) (hi : GoI X (Γ.set t (.pr P)) tg iter (xs.map enc))
    (body : ∀ (k : Nat) x, xs[k]? = some x → ∃ Γ' ts, (Blk X scope fun X' => GoG X' (wipeG (Γ.set t (.pr P)) (own.map (·.2))) tg (enc x) Γ' ts) ∧ (Blk X scope fun X' => GoTs X' Γ' ifs (q x)) ∧ (q x = true → Blk X scope fun X' => Go X' Γ' elt (f x)) ∧ (∀ t ∈ ts, t ∈ own.map (·.2)))
    (ok : blkC X.N X.env.scope scope own = true) (hsw : swapsWith (.ListComp elt [⟨tg, iter, ifs, 0⟩] scope lpos) (some (.Name x' p')) pos.line X.env = pure true) (hfl : ((xs.filter q).map f).all flatD = true) (h : N.nx (Γ.set i (.own ((xs.filter q).map f)))) (hz : xs.length < 1000000 := by walk_at "pside") (hx : X.N[i]? = some x' := by rfl) (hyl : X.env.scope.names.lookup x' = some .local := by rfl) (hs : ∀ x, foldedSetIterable iter X.env x = pure x := by intro _; rfl) :
    RnS X J N Γ (.Assign [.Name x' p'] (.ListComp elt [⟨tg, iter, ifs, 0⟩] scope lpos) pos) := .mk fun B0 σ B H Fs E j =>
  toS (ps_setLc (own := own) hc hN hx hyl hsw sI (blkOk_by ok) (fun s H C cl fp => ⟨fun pins s' σ H v u Q I r h => (h s _ C cl fp) pins s' u I r⟩) (fun s H C cl fp => ⟨fun pins s' σ H Q I h => (h s _ C cl fp) pins s' I⟩) (fun s H C cl fp => ⟨fun pins s' σ H Q I h => (h s _ C cl fp) pins s' I⟩) hs)
    (lc_run q f hi (ltZ hz) (fun k x hx => let ⟨Γ', ts, h1, h2, h3, h4⟩ := body k x hx; ⟨Γ', ts, h4, h1, h2, h3⟩) (E.iceM hΓ hz0) (fun x H1 => gName i x σ H1 (N.ends X J B0).nx) fun l us B2 H2 n hl hb hH hd => by
      have n0 : Nw B H B H2 := ⟨.refl _, E.bh.trans n.hh, n.hh, fun _ h _ => h⟩
      exact ⟨B, _, _, (E.nw n0).setO (P := lstO ((xs.filter q).map f)) (F := [l]) i ⟨l, us, rfl, rfl, hH, flats_any hd hfl⟩ (fun a ha => by rw [List.mem_singleton.mp ha]; exact E.bh.none hl)
        (fun k a ha hm => (E.fre k a ha).2 (by rw [List.mem_singleton.mp hm]; exact hl)), (j.nw n0).lay fun a ha => by
          rw [List.mem_singleton.mp ha]
          cases q : J.H l with
          | none => rfl
          | some o => exact absurd hl (j.h1 l (by rw [q]; exact fun z => nomatch z)), h⟩)
theorem rs_lcTMO (t : Nat) (hΓ : Γ[t]? = some (.ob W)) (hz0 : FzM W P) (i : Nat) {x' : Str} {p' lpos : Pos} {elt : Expr} {scope : Scope} {α : Type} {xs : List α} {enc : α → D} {f : α → D} (own : List (Str × Nat)) (hc : X.calm = true) (hN : X.N.Nodup) (hi : GoI X (Γ.set t (.pr P)) tg iter (xs.map enc))
    (body : ∀ (k : Nat) x, xs[k]? = some x → ∃ Γ' ts, (Blk X scope fun X' => GoG X' (wipeG (Γ.set t (.pr P)) (own.map (·.2))) tg (enc x) Γ' ts) ∧ (Blk X scope fun X' => Go X' Γ' elt (f x)) ∧ (∀ t ∈ ts, t ∈ own.map (·.2)))
    (ok : blkC X.N X.env.scope scope own = true) (hsw : swapsWith (.ListComp elt [⟨tg, iter, [], 0⟩] scope lpos) (some (.Name x' p')) pos.line X.env = pure true) (hfl : (xs.map f).all flatD = true) (h : N.nx (Γ.set i (.own (xs.map f)))) (hz : xs.length < 1000000 := by walk_at "pside") (hx : X.N[i]? = some x' := by rfl) (hyl : X.env.scope.names.lookup x' = some .local := by rfl) (hs : ∀ x, foldedSetIterable iter X.env x = pure x := by intro _; rfl) :
    RnS X J N Γ (.Assign [.Name x' p'] (.ListComp elt [⟨tg, iter, [], 0⟩] scope lpos) pos) :=
  rs_lcTO t hΓ hz0 i (q := fun _ => true) own hc hN hi (fun k x hx => let ⟨Γ', ts, h1, h2, h4⟩ := body k x hx; ⟨Γ', ts, h1, fun _ _ _ _ _ => goTs_nil, fun _ => h2, h4⟩) ok hsw (by rw [List.filter_eq_self.mpr fun _ _ => rfl]; exact hfl) (by rw [List.filter_eq_self.mpr fun _ _ => rfl]; exact h) hz hx hyl hs
end
end PL

set_option maxHeartbeats 2000000
namespace PL
open PySem PySem.Spec PyProof.Rows L2
theorem Mu.trans {F F1 : List Addr} {B H B1 H1 B2 H2 : Hp} (m : Mu F B H B1 H1) (m2 : Mu F1 B1 H1 B2 H2) (hF : ∀ a ∈ F1, a ∈ F ∨ H a = none) : Mu F B H B2 H2 :=
  ⟨m.bb.trans m2.bb, m2.bh, (fun a o h hf => m2.hh a o (m.hh a o h hf) (fun z => (hF a z).elim hf (fun q => by rw [q] at h; exact nomatch h))), (fun a h => m2.hd a (m.hd a h)), (fun a h1 h2 => m2.nu a (m.nu a h1 h2) (m.hd a h2))⟩
theorem keepW {K : PySem.W.Frag} {W : Ow} {B H B2 H2 : Hp} {v : V} {F : List Addr} (hW : W.p K B H v F) (n : Nw B H B2 H2) : W.p K B2 H2 v F := W.loc (fun a ha => by
  cases q : H a with
  | none => exact absurd q (W.dom hW a ha)
  | some o => exact n.hh a o q) (W.upB n.bb hW)
section
variable {X : Cx} {J : Jd} {N : Nd} {Γ : Ga} {a b e : Expr} {es rest : List Expr} {P : Mn} {W W1 W2 : Ow} {x y d : D} {ds : List D} {pos : Pos} {i : Nat} {c k l : Bool} {op : CmpOp}
theorem rs_retM (he : GoM X Γ e i W N.rt) (hi : i < Γ.length) (hG : N.rG (Γ.set i (.ob W)) := by exact rfl) (hn : N.rn = none := by rfl) : RnS X J N Γ (.Return (some e) pos) := .mk fun B0 σ B H Fs E j =>
  toS (ps_ret sE) (he.run σ B H Fs E _ fun v v0 B2 H2 F2 m r hσ hW hF => ⟨σ, B2, _, _, E.mu m hi hσ hW hF, j.mu m fun a ha => (hF a ha).2, hG, by rw [hn]; exact r⟩)
theorem gm_imp {P' : Mn} (h : GoM X Γ e i W P) (hp : ∀ K B v, P.p K B v → P'.p K B v) : GoM X Γ e i W P' := .mk fun σ B H Fs E Q q => h.run σ B H Fs E Q fun v v0 B2 H2 F2 m r => q v v0 B2 H2 F2 m (hp _ _ _ r)
theorem gm_is {d' : D} (h : GoM X Γ e i W (datP d)) (he : d = d') : GoM X Γ e i W (datP d') := he ▸ h
theorem gm_ixT {j : Int} (ha : GoM X Γ a i W (datP (.tuple ds))) (hi : i < Γ.length) (hb : Go X (Γ.set i (.ob W)) b (.int j)) (hd : atI ds j = some d) (hs : PlainIx b := by exact fun _ _ => rfl) : GoM X Γ (.Subscript a b pos) i W (datP d) := .mk fun σ B H Fs E Q q =>
  toE (pe_ix ix_tup sE sE hs) (ha.run σ B H Fs E _ fun v v0 B1 H1 F1 m1 r1 h1 w1 f1 => hb σ B1 H1 _ (E.mu m1 hi h1 w1 f1) _ fun w B2 H2 n2 r2 => by
    obtain ⟨p, vs, e1, e2, e3⟩ := dp_tup (dpUp n2.bb r1)
    obtain ⟨u, e4, e5⟩ := dps_atI e3 hd
    refine ⟨p, vs, j, u, e1, dp_int r2, n2.bh.st e2, e4, q u v0 B2 H2 F1 (m1.thenNw n2) e5 h1 (keepW w1 n2) fun b hb => ⟨n2.nu b (f1 b hb).1 (W.dom w1 b hb), (f1 b hb).2⟩⟩)
theorem goTM_cmp {r : V → V → Hp → VK → Prop} (ho : OpR X (compareOp op) r) (ha : GoM X Γ a i W (datP x)) (hi : i < Γ.length) (hb : Go X (Γ.set i (.ob W)) b y) (hr : ∀ v w B H, Ex B H → Dp X.K B v x → Dp X.K B w y → ∀ Q : VK, Q (.bl c) H → r v w H Q)
    (hm : behindInMarks op b = false := by first | exact nobehind _ (by decide) (by decide) | rfl) : GoTM X Γ (.Compare a [op] [b] pos) i W c := .mk fun σ B H Fs E Q q =>
  toT (pt_cmp (pc_op ho sE sE) hm) (ha.run σ B H Fs E _ fun v v0 B1 H1 F1 m1 r1 h1 w1 f1 => hb σ B1 H1 _ (E.mu m1 hi h1 w1 f1) _ fun w B2 H2 n2 r2 =>
    hr v w B2 H2 n2.bh (dpUp n2.bb r1) r2 _ ⟨c, rfl, q v0 B2 H2 F1 (m1.thenNw n2) h1 (keepW w1 n2) fun b hb => ⟨n2.nu b (f1 b hb).1 (W.dom w1 b hb), (f1 b hb).2⟩⟩)
theorem goTM_neD (hu : UOk X) (ha : GoM X Γ a i W (datP x)) (hi : i < Γ.length) (hb : Go X (Γ.set i (.ob W)) b y) (h1 : SeqAt.shaped x = true) (h2 : SeqAt.shaped y = true) (hm : behindInMarks .NotEq b = false := by first | exact nobehind _ (by decide) (by decide) | rfl) : GoTM X Γ (.Compare a [.NotEq] [b] pos) i W (!PyData.eqv x y) :=
  goTM_cmp (op_neD hu.u64) ha hi hb (fun v w B H hB r1 r2 Q q => ⟨x, y, dpUp hB r1, dpUp hB r2, h1, h2, q⟩) hm
theorem gm_cmp {r : V → V → Hp → VK → Prop} (ho : OpR X (compareOp op) r) (ha : GoM X Γ a i W (datP x)) (hi : i < Γ.length) (hb : Go X (Γ.set i (.ob W)) b y) (hr : ∀ v w B H, Ex B H → Dp X.K B v x → Dp X.K B w y → ∀ Q : VK, Q (.bl c) H → r v w H Q)
    (hm : behindInMarks op b = false := by first | exact nobehind _ (by decide) (by decide) | rfl) : GoM X Γ (.Compare a [op] [b] pos) i W (datP (.bool c)) := .mk fun σ B H Fs E Q q =>
  toE (pe_cmp (pc_op ho sE sE) hm) (ha.run σ B H Fs E _ fun v v0 B1 H1 F1 m1 r1 h1 w1 f1 => hb σ B1 H1 _ (E.mu m1 hi h1 w1 f1) _ fun w B2 H2 n2 r2 =>
    hr v w B2 H2 n2.bh (dpUp n2.bb r1) r2 _ (q _ v0 B2 H2 F1 (m1.thenNw n2) (Dp.bl c) h1 (keepW w1 n2) fun b hb => ⟨n2.nu b (f1 b hb).1 (W.dom w1 b hb), (f1 b hb).2⟩))
theorem gm_eqD (hu : UOk X) (ha : GoM X Γ a i W (datP x)) (hi : i < Γ.length) (hb : Go X (Γ.set i (.ob W)) b y) (h1 : SeqAt.shaped x = true) (h2 : SeqAt.shaped y = true) (hm : behindInMarks .Eq b = false := by first | exact nobehind _ (by decide) (by decide) | rfl) : GoM X Γ (.Compare a [.Eq] [b] pos) i W (datP (.bool (PyData.eqv x y))) :=
  gm_cmp (op_eqD hu.u64) ha hi hb (fun v w B H hB r1 r2 Q q => ⟨x, y, dpUp hB r1, dpUp hB r2, h1, h2, q⟩) hm
/-! ### a row of tests, some of them change the thing of the slot i -/
structure GoWM (X : Cx) (Γ : Ga) (e : Expr) (i : Nat) (W : Ow) (k : Bool) : Prop where
  run : ∀ σ B H Fs, En X.K B H σ Γ Fs → ∀ Q : Bool → Hp → Prop, (∀ v0 B2 H2 F2, Mu (Fs i) B H B2 H2 → σ[i]? = some (some v0) → W.p X.K B2 H2 v0 F2 → (∀ a ∈ F2, B2 a = none ∧ (a ∈ Fs i ∨ H a = none)) → Q k H2) → wpW X e σ H Q
theorem goWM_T (h : GoWM X Γ e i W k) : GoTM X Γ e i W k := .mk fun σ B H Fs E Q q pins s I => h.run σ B H Fs E Q q (eval e X.env) pins s I
theorem goWM_or1 (h : GoTM X Γ a i W k) : GoWM X Γ (.BoolOp .Or [a] pos) i W k := .mk fun σ B H Fs E Q q => toW (pw_or1 sT) (h.run σ B H Fs E _ q)
theorem goWM_orP (h : GoT X Γ a false) (h2 : GoWM X Γ (.BoolOp .Or (b :: rest) pos) i W l) : GoWM X Γ (.BoolOp .Or (a :: b :: rest) pos) i W l := .mk fun σ B H Fs E Q q =>
  toW (pw_or sT sW) (h σ B H Fs E _ fun B1 H1 n1 => iteF (h2.run σ B1 H1 Fs (E.nw n1) _ fun v0 B2 H2 F2 m hσ hW hF => q v0 B2 H2 F2 (n1.thenMu m) hσ hW fun b hb => ⟨(hF b hb).1, (hF b hb).2.imp id fun z => n1.hh.none z⟩))
theorem goWM_orM (h : GoTM X Γ a i W1 false) (hi : i < Γ.length) (h2 : GoWM X (Γ.set i (.ob W1)) (.BoolOp .Or (b :: rest) pos) i W l) : GoWM X Γ (.BoolOp .Or (a :: b :: rest) pos) i W l := .mk fun σ B H Fs E Q q =>
  toW (pw_or sT sW) (h.run σ B H Fs E _ fun v0 B1 H1 F1 m1 hσ hW hF => iteF (h2.run σ B1 H1 _ (E.mu m1 hi hσ hW hF) _ fun v1 B2 H2 F2 m2 hσ2 hW2 hF2 => by
    rw [off_same] at m2 hF2
    exact q v1 B2 H2 F2 (m1.trans m2 fun b hb => (hF b hb).2) hσ2 hW2 fun b hb => ⟨(hF2 b hb).1, by
      rcases (hF2 b hb).2 with z | z
      · exact (hF b z).2
      · right
        cases w : H b with
        | none => rfl
        | some o => exact absurd z (m1.hd b (by rw [w]; exact fun z => nomatch z))⟩))
end
end PL

set_option maxHeartbeats 2000000
namespace PL
open PySem PySem.Spec PyProof.Rows L2
/-- what isinstance(x, own class) asks of the top -/
structure IsiT (K : PySem.W.Frag) (mg : Str → Option Value) (own : Str) : Prop where
  ex : ∃ C, ClsAt K own C ∧ mg own = some (.ref C) ∧ Cls K C ∧ PySem.W.findIn K (.ref C) "__class__" = some (some (.builtin "object.__class__")) ∧ PySem.W.specialIn K (.builtin "object.__class__") "__get__" = some (some (.builtin "getset_descriptor.__get__")) ∧
    PySem.W.takesIn K (.builtin "object.__class__") = some true ∧ PySem.W.mroIn K C (.type "object") = some true ∧ PySem.W.kitOne K (.ref C) (.ref C) = some true
section
variable {X : Cx} {J : Jd} {N : Nd} {Γ : Ga} {a : Expr} {pos : Pos}
theorem go_isO {own : Str} {Ps : List (Str × Mn)} {p p2 : Pos} (T : IsiT X.K X.mg own) (he : GoP X Γ a (insP own Ps)) (hmi : X.mg "isinstance" = none)
    (hgi : Gl X "isinstance" := by rfl) (hg : Gl X own := by rfl) (hd : (own == ("__debug__" : Str)) = false := by decide) (he1 : starEach [a, .Name own p2] X.env = (false, eval a X.env) :: starEach [.Name own p2] X.env := by rfl) (he2 : starEach [.Name own p2] X.env = (false, eval (.Name own p2) X.env) :: starEach [] X.env := by rfl) :
    Go X Γ (.Call (.Name "isinstance" p) [a, .Name own p2] [] pos) (.bool true) := by
  obtain ⟨C, hC, hm, cl, h1, h2, h3, h4, h5⟩ := T.ex
  exact go_callB call_isi hgi hmi PyProof.Rows.boot_isinstance (goA_cons he (goA_cons (go_glob hm hg hd) goA_nil he2) he1) (fun vs B H hB rr Q q => by
    obtain ⟨v, w, rfl, h, h6⟩ := mn2 rr
    obtain ⟨C', a', dx, fs, e1, rfl, e3, _⟩ := h
    have h6 : w = .ref C := h6
    subst h6
    cases hC.eq e1
    exact ⟨_, .ref C, _, _, true, rfl, .own C, .base (.ins (hB _ _ e3) cl h1 h2 h3 h4), h5, q _ B H (.same hB) (Dp.bl _)⟩) (by decide) (by decide) he1 (by rw [he2]; rfl)
end
/-! ### own things whose parts are plain -/
def AnyB (W : Ow) : Prop := ∀ (K : PySem.W.Frag) (B B' H : Hp) (v : V) (F : List Addr), W.p K B H v F → W.p K B' H v F
inductive FlatSs : List (Str × Sl) → Prop
  | nil : FlatSs []
  | pr {f : Str} {d : D} {Ss : List (Str × Sl)} : flatD d = true → FlatSs Ss → FlatSs ((f, .dat d) :: Ss)
  | ob {f : Str} {W : Ow} {Ss : List (Str × Sl)} : AnyB W → FlatSs Ss → FlatSs ((f, .ob W) :: Ss)
theorem anyB_lst {ds : List D} (h : ds.all flatD = true) : AnyB (lstO ds) := fun K B B' H v F ⟨a, vs, h1, h2, h3, h4⟩ => ⟨a, vs, h1, h2, h3, flats_any h4 h⟩
theorem FlatSs.any {Ss : List (Str × Sl)} (h : FlatSs Ss) : ∀ {K : PySem.W.Frag} {B B' H : Hp} {vs : List (Str × V)} {F : List Addr}, FlO K B H vs Ss F → FlO K B' H vs Ss F := by
  induction h with
  | nil => intro K B B' H vs F z; cases z; exact .nil
  | pr hd _ ih => intro K B B' H vs F z; cases z with | pr z t => exact .pr (flat_any z hd) (ih t)
  | ob hd _ ih => intro K B B' H vs F z; cases z with | ob z hn t => exact .ob (hd _ _ _ _ _ _ z) hn (ih t)
theorem anyB_ins {x : Str} {Ss : List (Str × Sl)} (h : FlatSs Ss) : AnyB (insO x Ss) := fun K B B' H v F ⟨C, a, dx, vs, F', h1, h2, h3, h4, h5, h6⟩ => ⟨C, a, dx, vs, F', h1, h2, h3, h4, h5, h.any h6⟩
section
variable {X : Cx} {Γ : Ga} {e : Expr} {W R : Ow} {P : Mn}
theorem goU_thM (i : Nat) (hΓ : Γ[i]? = some (.ob W)) (hz : FzM W P) (h : GoU X (Γ.set i (.pr P)) e R) (hR : AnyB R) : GoU X Γ e R := .mk fun σ B H Fs E Q q =>
  h σ _ H _ (E.iceM hΓ hz) Q fun v F B2 H2 n hv hF => q v F B H2 ⟨.refl _, E.bh.trans n.hh, n.hh, fun _ h _ => h⟩ (hR _ _ _ _ _ _ hv) fun a ha => ⟨(hF a ha).1, E.bh.none (hF a ha).1⟩
end
end PL

set_option maxHeartbeats 2000000
namespace PL
open PySem PySem.Spec PyProof.Rows L2
/-! ### a second name of a list within a list of our own -/
/-- such a list whose k-th list stands elsewhere: at p, in the slot of the second name -/
def llH (dss : List (List D)) (k : Nat) (c0 : Addr) : Ow where
  p := fun K B H v F => ∃ a ps, v = .ref a ∧ F = a :: ps.filter (fun b => decide (b ≠ c0)) ∧ H a = some (.lst (ps.map .ref)) ∧ (a :: ps).Nodup ∧ ps[k]? = some c0 ∧ LLs K B (L2.upd H c0 (.lst [])) ps (dss.set k [])
  upB := fun {K B B' H v F} e h => by
    obtain ⟨a, ps, h1, h2, h3, h4, h5, h6⟩ := h
    exact ⟨a, ps, h1, h2, h3, h4, h5, h6.mono e fun _ _ => rfl⟩
  loc := fun {K B H H' v F} e h => by
    obtain ⟨a, ps, h1, h2, h3, h4, h5, h6⟩ := h
    refine ⟨a, ps, h1, h2, (e a (by rw [h2]; exact List.mem_cons_self)).trans h3, h4, h5, h6.mono (.refl _) fun b hb => ?_⟩
    by_cases q : b = c0
    · rw [q, upd_same, upd_same]
    · rw [upd_ne q, upd_ne q]
      exact e b (by rw [h2]; exact List.mem_cons_of_mem _ (List.mem_filter.mpr ⟨hb, decide_eq_true q⟩))
  dom := fun {K B H v F} h b hb => by
    obtain ⟨a, ps, h1, h2, h3, h4, h5, h6⟩ := h
    rw [h2] at hb
    rcases List.mem_cons.mp hb with e | e
    · rw [e, h3]
      exact fun z => nomatch z
    · obtain ⟨e1, e2⟩ := List.mem_filter.mp e
      have := h6.dom b e1
      rwa [upd_ne (of_decide_eq_true e2)] at this
section
variable {K : PySem.W.Frag} {B H : Hp} {σ : L2.St} {Γ : Ga} {Fs : Nat → List Addr} {W : Ow}
theorem En.shrink {i : Nat} {F : List Addr} {v : V} (E : En K B H σ Γ Fs) (hi : i < Γ.length) (hσ : σ[i]? = some (some v)) (hW : W.p K B H v F) (hF : ∀ a ∈ F, a ∈ Fs i) : En K B H σ (Γ.set i (.ob W)) (off Fs i F) :=
  E.mu (Nw.same E.bh).mu hi hσ hW fun a ha => ⟨(E.fre i a (hF a ha)).1, .inl (hF a ha)⟩
end
section
variable {X : Cx} {J : Jd} {N : Nd} {Γ : Ga} {e : Expr} {sts : List Stmt} {pos : Pos} {ds es : List D} {dss : List (List D)}
theorem rs_focus (i j : Nat) {x d : Str} {k : Nat} {p1 p2 p3 : Pos} (hΓ : Γ[i]? = some (.ob (llO dss))) (he : Go X Γ e (.int ((k : Nat) : Int))) (hk : dss[k]? = some ds) (hij : i ≠ j) (hi : i ∉ J.S)
    (h : ∀ p, N.nx ((Γ.set i (.ob (llH dss k p))).set j (.ob (pinO (lstO ds) (.ref p))))) (hN : X.N.Nodup) (hj : X.N[j]? = some x := by rfl) (hx : Loc X.env.scope x := by first | exact .inl rfl | exact .inr rfl)
    (hN2 : X.N[i]? = some d := by rfl) (hv : Vis X.env.scope d := by first | exact Or.inl rfl | exact Or.inr (Or.inl rfl) | exact Or.inr (Or.inr rfl)) (hd : (d == ("__debug__" : Str)) = false := by decide) (hcd : (d == ("__classdict__" : Str)) = false := by decide) (hix : PlainIx e := by exact fun _ _ => rfl)
    (hs : swapsWith (.Subscript (.Name d p2) e p3) (some (.Name x p1)) pos.line X.env = pure false := by rfl) (hf : X.fn x = true ∨ X.env.scope.names.lookup x = some .local := by first | exact .inl rfl | exact .inr rfl) : RnS X J N Γ (.Assign [.Name x p1] (.Subscript (.Name d p2) e p3) pos) := .mk fun B0 σ B H Fs E jn => by
  obtain ⟨v, h1, a, ps, e1, e2, e3, e4, e5⟩ := E.at_ i _ hΓ
  subst e1
  obtain ⟨p, us, f1, f2, f3⟩ := e5.get hk
  have hp : p ∈ ps := List.mem_of_getElem? f1
  rw [e2] at e4
  have np : p ≠ a := fun z => (List.nodup_cons.mp e4).1 (z ▸ hp)
  have hil := (List.getElem?_eq_some_iff.mp hΓ).1
  have pF : p ∈ Fs i := by rw [e2]; exact List.mem_cons_of_mem _ hp
  refine toS (ps_set hN hj hx (pe_ix ix_list (pe_var hN2 hv hd hcd) sE hix) hs hf) ⟨_, h1, he σ B H Fs E _ fun w B2 H2 n r => ?_⟩
  have sm : ∀ b ∈ Fs i, H2 b = H b := fun b hb => by
    cases q : H b with
    | none => exact absurd q (E.fre i b hb).2
    | some o => exact n.hh b o q
  have E2 := E.nw n
  have ll2 : LLs X.K B2 H2 ps dss := e5.mono n.bb fun b hb => sm b (by rw [e2]; exact List.mem_cons_of_mem _ hb)
  refine ⟨a, ps.map .ref, (k : Nat), .ref p, rfl, dp_int r, .of (n.hh _ _ e3), atI_nat (by rw [List.getElem?_map, f1]; rfl), B2, _, off (off Fs i (a :: ps.filter fun b => decide (b ≠ p))) j [p], ?_, ?_, h p⟩
  · refine (E2.shrink hil h1 (W := llH dss k p) ⟨a, ps, rfl, rfl, (sm a (by rw [e2]; exact List.mem_cons_self)).trans e3, e4, f1, ?_⟩ (fun b hb => ?_)).setO j (P := pinO (lstO ds) (.ref p)) ⟨rfl, p, us, rfl, rfl, (sm p pF).trans f2, dpsUp n.bb f3⟩ (fun b hb => ?_) (fun m b hb hm => ?_)
    · exact ll2.set .nil (List.nodup_cons.mp e4).2 f1
    · rw [e2]
      rcases List.mem_cons.mp hb with z | z
      · rw [z]; exact List.mem_cons_self
      · exact List.mem_cons_of_mem _ (List.mem_filter.mp z).1
    · rw [List.mem_singleton.mp hb]
      exact (E2.fre i p pF).1
    · rw [List.mem_singleton.mp hm] at hb
      by_cases q : m = i
      · subst q
        rw [off_same] at hb
        rcases List.mem_cons.mp hb with z | z
        · exact np z
        · exact of_decide_eq_true (List.mem_filter.mp z).2 rfl
      · rw [off_ne q] at hb
        exact q (E.dis m i p hb pF)
  · refine ⟨(jn.nw n).b0, (jn.nw n).nb, (jn.nw n).h0, (jn.nw n).h1, fun m b hb => ?_⟩
    have old : ∀ c ∈ Fs i, J.H c = none := fun c hc => by
      rcases jn.fm i c hc with z | z
      · exact z
      · exact absurd z.2 hi
    by_cases q : m = j
    · subst q
      rw [off_same] at hb
      rw [List.mem_singleton.mp hb]
      exact .inl (old p pF)
    · rw [off_ne q] at hb
      by_cases q2 : m = i
      · subst q2
        rw [off_same] at hb
        refine .inl (old b ?_)
        rw [e2]
        rcases List.mem_cons.mp hb with z | z
        · rw [z]; exact List.mem_cons_self
        · exact List.mem_cons_of_mem _ (List.mem_filter.mp z).1
      · rw [off_ne q2] at hb
        exact jn.fm m b hb
theorem rn_unfocus (i j : Nat) {k : Nat} {p : Addr} (hΓi : Γ[i]? = some (.ob (llH dss k p))) (hΓj : Γ[j]? = some (.ob (pinO (lstO es) (.ref p)))) (hij : i ≠ j) (hS : J.S = [])
    (h : Rn X J N ((Γ.set i (.ob (llO (dss.set k es)))).set j .any) sts) : Rn X J N Γ sts := .mk fun B0 σ B H Fs E jn => by
  obtain ⟨v, h1, a, ps, e1, e2, e3, e4, e5, e6⟩ := E.at_ i _ hΓi
  subst e1
  obtain ⟨v2, g1, g2, b, us, g3, g4, g5, g6⟩ := E.at_ j _ hΓj
  subst g2
  cases g3
  have hp : p ∈ ps := List.mem_of_getElem? e5
  have hil := (List.getElem?_eq_some_iff.mp hΓi).1
  have orig : ∀ m c, c ∈ off (off Fs i (a :: ps)) j [] m → (m = i ∧ (c ∈ Fs i ∨ c ∈ Fs j)) ∨ (m ≠ i ∧ m ≠ j ∧ c ∈ Fs m) := fun m c hc => by
    by_cases q : m = j
    · subst q
      rw [off_same] at hc
      cases hc
    · rw [off_ne q] at hc
      by_cases q2 : m = i
      · subst q2
        rw [off_same] at hc
        refine .inl ⟨rfl, ?_⟩
        rcases List.mem_cons.mp hc with z | z
        · left; rw [z, e2]; exact List.mem_cons_self
        · by_cases w : c = p
          · right; rw [w, g4]; exact List.mem_cons_self
          · left; rw [e2]; exact List.mem_cons_of_mem _ (List.mem_filter.mpr ⟨z, decide_eq_true w⟩)
      · rw [off_ne q2] at hc
        exact .inr ⟨q2, q, hc⟩
  have ll : LLs X.K B H ps (dss.set k es) := by
    have := e6.set g6 (List.nodup_cons.mp e4).2 e5
    rw [List.set_set] at this
    refine this.mono (.refl _) fun c _ => ?_
    by_cases w : c = p
    · rw [w, upd_same]; exact g5
    · rw [upd_ne w, upd_ne w]
  refine h B0 σ B H (off (off Fs i (a :: ps)) j []) ⟨E.bh, by rw [List.length_set, List.length_set]; exact E.len, fun m s hs => ?_, fun m c hc => ?_, fun m1 m2 c h1 h2 => ?_⟩ ⟨jn.b0, jn.nb, jn.h0, jn.h1, fun m c hc => ?_⟩
  · by_cases q : j = m
    · subst q
      by_cases w : j < (Γ.set i (.ob (llO (dss.set k es)))).length
      · rw [List.getElem?_set_self w] at hs
        cases hs
        trivial
      · rw [List.getElem?_eq_none (by rw [List.length_set]; omega)] at hs
        cases hs
    · rw [List.getElem?_set_ne q] at hs
      rw [off_ne (Ne.symm q)]
      by_cases q2 : i = m
      · subst q2
        rw [List.getElem?_set_self hil] at hs
        cases hs
        rw [off_same]
        exact ⟨_, h1, a, ps, rfl, rfl, e3, e4, ll⟩
      · rw [List.getElem?_set_ne q2] at hs
        rw [off_ne (Ne.symm q2)]
        exact E.at_ m s hs
  · rcases orig m c hc with ⟨_, z | z⟩ | ⟨_, _, z⟩
    · exact E.fre i c z
    · exact E.fre j c z
    · exact E.fre m c z
  · rcases orig m1 c h1 with ⟨r1, z1⟩ | ⟨r1, s1, z1⟩ <;> rcases orig m2 c h2 with ⟨r2, z2⟩ | ⟨r2, s2, z2⟩
    · rw [r1, r2]
    · rcases z1 with z1 | z1
      · exact absurd (E.dis m2 i c z2 z1) r2
      · exact absurd (E.dis m2 j c z2 z1) s2
    · rcases z2 with z2 | z2
      · exact absurd (E.dis m1 i c z1 z2) r1
      · exact absurd (E.dis m1 j c z1 z2) s1
    · exact E.dis m1 m2 c z1 z2
  · have nS : ∀ n, n ∉ J.S := fun n z => by rw [hS] at z; cases z
    have old : ∀ n c, c ∈ Fs n → J.H c = none := fun n c hc => by
      rcases jn.fm n c hc with z | z
      · exact z
      · exact absurd z.2 (nS n)
    rcases orig m c hc with ⟨_, z | z⟩ | ⟨_, _, z⟩
    · exact .inl (old i c z)
    · exact .inl (old j c z)
    · exact .inl (old m c z)
theorem rn_to {Γ' : Ga} (e : Γ = Γ') (h : Rn X J N Γ' sts) : Rn X J N Γ sts := e ▸ h
theorem gol_nameP (i : Nat) {x : Str} {v0 : V} (hΓ : Γ[i]? = some (.ob (pinO (lstO ds) v0)) := by rfl) (hN : X.N[i]? = some x := by rfl) (hv : Vis X.env.scope x := by first | exact Or.inl rfl | exact Or.inr (Or.inl rfl) | exact Or.inr (Or.inr rfl))
    (hd : (x == ("__debug__" : Str)) = false := by decide) (hcd : (x == ("__classdict__" : Str)) = false := by decide) : GoL X Γ (.Name x pos) i ds fun es => pinO (lstO es) v0 := .mk fun σ B H Fs E Q q => by
  obtain ⟨v, h1, h0, a, vs, h2, h3, h4, h5⟩ := E.at_ i _ hΓ
  subst h2
  subst h0
  exact toE (pe_var hN hv hd hcd) ⟨_, h1, q a vs _ B H (.same E.bh) h1 (by rw [h3]; exact List.mem_cons_self) h4 h5 fun B' H' _ _ us es hu => ⟨rfl, a, us, rfl, h3, upd_same, hu⟩⟩
end
/-! ### a list of new lists by a comprehension -/
section
variable {X : Cx} {Γ : Ga} {tg iter elt : Expr} {pos : Pos}
theorem LLs.snoc {K : PySem.W.Frag} {B H : Hp} {p : Addr} {us : List V} {ds : List D} (h1 : H p = some (.lst us)) (h2 : DpAll K B us ds) : ∀ {ps : List Addr} {dss : List (List D)}, LLs K B H ps dss → LLs K B H (ps ++ [p]) (dss ++ [ds])
  | _, _, .nil => .cons h1 h2 .nil
  | _, _, .cons a b t => .cons a b (LLs.snoc h1 h2 t)
theorem LLs.len {K : PySem.W.Frag} {B H : Hp} : ∀ {ps : List Addr} {dss : List (List D)}, LLs K B H ps dss → ps.length = dss.length
  | _, _, .nil => rfl
  | _, _, .cons _ _ t => congrArg (· + 1) t.len
theorem lc_runU {scope : Scope} {vs : List Nat} {α : Type} {xs : List α} {enc : α → D} (f : α → List D) (hi : GoI X Γ tg iter (xs.map enc)) (hz : xs.length < sizeLine)
    (body : ∀ (k : Nat) x, xs[k]? = some x → ∃ Γ' ts, (∀ t ∈ ts, t ∈ vs) ∧ (Blk X scope fun X' => GoG X' (wipeG Γ vs) tg (enc x) Γ' ts) ∧ (Blk X scope fun X' => GoN X' Γ' elt (f x)))
    {σ B H Fs} (E : En X.K B H σ Γ Fs) (Q : VK)
    (q : ∀ l ps B2 H2, Nw B H B2 H2 → H l = none → B2 l = none → H2 l = some (.lst (ps.map .ref)) → (l :: ps).Nodup → (∀ a ∈ ps, H a = none ∧ B2 a = none) → LLs X.K B2 H2 ps (xs.map f) → Q (.ref l) H2) : lcRd X scope tg [] elt iter vs σ H Q := by
  refine hi σ B H Fs E _ fun I B1 H1 n1 it => ?_
  intro Dl hDl
  have E1 := E.nw n1
  have hl : (xs.map enc).length = xs.length := List.length_map _
  refine ⟨fun i m H' => m = xs.length - i ∧ i ≤ xs.length ∧ ∃ B' ps, Nw B1 H1 B' H' ∧ B' Dl = none ∧ H' Dl = some (.lst (ps.map .ref)) ∧ (Dl :: ps).Nodup ∧ (∀ a ∈ ps, H1 a = none ∧ B' a = none) ∧ LLs X.K B' H' ps ((xs.take i).map f),
    ⟨xs.length, by omega, Nat.zero_le _, B1, [], .lay n1.bh hDl, n1.bh.none hDl, upd_same, by simp, (fun _ z => nomatch z), by rw [List.take_zero]; exact .nil⟩, ?_⟩
  rintro i m H' ⟨rfl, hi', B', ps, n', hb, hH, nd, hps, hd⟩
  have nDl : ∀ {j : Nat}, Dl ∉ Fs j := fun {j} ha => (E1.fre j Dl ha).2 hDl
  by_cases hlt : i < xs.length
  · refine .inr ⟨it.go i H' (by rw [hl]; exact hlt) (n'.bb.trans n'.bh), fun H' => i + 1 ≤ xs.length ∧ ∃ B' ps, Nw B1 H1 B' H' ∧ B' Dl = none ∧ H' Dl = some (.lst (ps.map .ref)) ∧ (Dl :: ps).Nodup ∧ (∀ a ∈ ps, H1 a = none ∧ B' a = none) ∧ LLs X.K B' H' ps ((xs.take (i + 1)).map f), fun H' pp => ⟨xs.length - (i + 1), by omega, rfl, pp⟩, fun x H'' y => ?_⟩
    have ge : (xs.map enc)[i]? = some (enc xs[i]) := by
      rw [List.getElem?_map, List.getElem?_eq_getElem hlt]
      rfl
    obtain ⟨B2, n2, r2⟩ := it.yld i H' x H'' B' _ ge n'.bb n'.bh y
    obtain ⟨Γ', ts, hts, hg, he⟩ := body i xs[i] (List.getElem?_eq_getElem hlt)
    have E2 : En X.K B2 H'' (wipe σ vs) (wipeG Γ vs) Fs := ((E1.nw n').nw n2).wipe vs
    have acl : (ps.map V.ref).length ≤ xs.length := by
      rw [List.length_map, hd.len, List.length_map, List.length_take]
      omega
    have eT : xs.take (i + 1) = xs.take i ++ [xs[i]] := by rw [List.take_succ_eq_append_getElem hlt]
    intro s0 H0 C0 cl0 fp0
    refine hg s0 H0 C0 cl0 fp0 (wipe σ vs) B2 H'' Fs x E2 r2 _ fun σ2 F2 E3 sb hw => ⟨(hw vs hts).trans (wipe_wipe vs), ?_⟩
    intro s1 H1' C1 cl1 fp1
    have ht : Blk X scope fun X' => GoTs X' Γ' [] true := fun _ _ _ _ _ => goTs_nil
    refine ht s1 H1' C1 cl1 fp1 σ2 B2 H'' F2 E3 _ fun B4 H4 n4 => ?_
    have dk : B4 Dl = none := n4.nu Dl (n2.nu Dl hb (by rw [hH]; exact fun z => nomatch z)) (by rw [n2.hh Dl _ hH]; exact fun z => nomatch z)
    have dH : H4 Dl = some (.lst (ps.map .ref)) := n4.hh Dl _ (n2.hh Dl _ hH)
    have nAll := (n'.trans n2).trans n4
    refine iteT ?_
    intro s2 H2' C2 cl2 fp2
    refine he s2 H2' C2 cl2 fp2 σ2 B4 H4 F2 (E3.nw n4) _ fun p' us' B5 H5 n5 hp5 hb5 hH5 hd5 => ?_
    have d5 : B5 Dl = none := n5.nu Dl dk (by rw [dH]; exact fun z => nomatch z)
    have dH5 : H5 Dl = some (.lst (ps.map .ref)) := n5.hh Dl _ dH
    have n6 := nAll.trans n5
    have npD : p' ≠ Dl := fun z => by
      rw [z, dH] at hp5
      cases hp5
    have hdd := hd.mono (n2.bb.trans n4.bb |>.trans n5.bb) (H' := H5) fun b hbm => by
      cases w : H' b with
      | none => exact absurd w (hd.dom b hbm)
      | some o => exact n5.hh b o (n4.hh b o (n2.hh b o w))
    have nips : p' ∉ ps := fun z => by
      have h1 := hd.dom p' z
      cases w : H' p' with
      | none => exact h1 w
      | some o =>
        rw [n4.hh p' o (n2.hh p' o w)] at hp5
        cases hp5
    refine ⟨ps.map .ref, dH5, Nat.lt_of_le_of_lt acl hz, hlt, B5, ps ++ [p'], ⟨n6.bb, fun a u e => ?_, fun a u e => ?_, n6.nu⟩, d5, ?_, ?_, fun a ha => ?_, ?_⟩
    · rw [upd_ne (ne_of_none e d5)]
      exact n6.bh a u e
    · rw [upd_ne (ne_of_none e hDl)]
      exact n6.hh a u e
    · rw [upd_same, List.map_append]
      rfl
    · rw [← List.cons_append]
      refine List.nodup_append.mpr ⟨nd, by simp, fun a ha b hb z => ?_⟩
      rw [List.mem_singleton.mp hb] at z
      rcases List.mem_cons.mp ha with w | w
      · exact npD (z.symm.trans w)
      · exact nips (z ▸ w)
    · rcases List.mem_append.mp ha with z | z
      · exact ⟨(hps a z).1, n5.nu a (n4.nu a (n2.nu a (hps a z).2 (hd.dom a z)) (by have h1 := hd.dom a z; cases w : H' a with | none => exact absurd w h1 | some o => rw [n2.hh a o w]; exact fun z => nomatch z)) (by have h1 := hd.dom a z; cases w : H' a with | none => exact absurd w h1 | some o => rw [n4.hh a o (n2.hh a o w)]; exact fun z => nomatch z)⟩
      · rw [List.mem_singleton.mp z]
        exact ⟨nAll.hh.none hp5, hb5⟩
    · rw [eT, List.map_append]
      refine (LLs.snoc (ps := ps) hH5 hd5 hdd).mono (.refl _) fun b hbm => upd_ne fun z => ?_
      rcases List.mem_append.mp hbm with w | w
      · exact (List.nodup_cons.mp nd).1 (z ▸ w)
      · exact npD ((List.mem_singleton.mp w).symm.trans z)
  · have e : i = xs.length := by omega
    subst e
    rw [List.take_length] at hd
    exact .inl ⟨by rw [← hl]; exact it.stop H' (n'.bb.trans n'.bh), q Dl ps B' H' (n1.trans n') (n1.hh.none hDl) hb hH nd (fun a ha => ⟨n1.hh.none (hps a ha).1, (hps a ha).2⟩) hd⟩
theorem goU_lc {scope : Scope} {α : Type} {xs : List α} {enc : α → D} {f : α → List D} (own : List (Str × Nat)) (hc : X.calm = true) (hN : X.N.Nodup) (hi : GoI X Γ tg iter (xs.map enc))
    (body : ∀ (k : Nat) x, xs[k]? = some x → ∃ Γ' ts, (Blk X scope fun X' => GoG X' (wipeG Γ (own.map (·.2))) tg (enc x) Γ' ts) ∧ (Blk X scope fun X' => GoN X' Γ' elt (f x)) ∧ (∀ t ∈ ts, t ∈ own.map (·.2)))
    (ok : blkC X.N X.env.scope scope own = true) (hz : xs.length < 1000000 := by walk_at "pside") (hs : ∀ x, foldedSetIterable iter X.env x = pure x := by intro _; rfl) :
    GoU X Γ (.ListComp elt [⟨tg, iter, [], 0⟩] scope pos) (llO (xs.map f)) := .mk fun σ B H Fs E Q q =>
  toE (pe_lc (own := own) hc hN sI (blkOk_by ok) (fun s H C cl fp => ⟨fun pins s' σ H v u Q I r h => (h s _ C cl fp) pins s' u I r⟩) (fun s H C cl fp => ⟨fun pins s' σ H Q I h => (h s _ C cl fp) pins s' I⟩) (fun s H C cl fp => ⟨fun pins s' σ H Q I h => (h s _ C cl fp) pins s' I⟩) hs)
    (lc_runU f hi (ltZ hz) (fun k x hx => let ⟨Γ', ts, h1, h2, h4⟩ := body k x hx; ⟨Γ', ts, h4, h1, h2⟩) E Q fun l ps B2 H2 n hl0 hb hH nd hps ll => q _ (l :: ps) B2 H2 n ⟨l, ps, rfl, rfl, hH, nd, ll⟩ fun a ha => by
      rcases List.mem_cons.mp ha with z | z
      · rw [z]
        exact ⟨hl0, hb⟩
      · exact hps a z)
end
end PL

set_option maxHeartbeats 2000000
namespace PL
open PySem PySem.Spec PyProof.Rows L2
section
variable {X : Cx} {J : Jd} {N : Nd} {Γ : Ga} {tg iter : Expr} {pos : Pos}
/-- name = [new list for ..] -/
theorem rs_lcU (i : Nat) {x' : Str} {p' lpos : Pos} {elt : Expr} {scope : Scope} {α : Type} {xs : List α} {enc : α → D} {f : α → List D} (own : List (Str × Nat)) (hc : X.calm = true) (hN : X.N.Nodup) (hi : GoI X Γ tg iter (xs.map enc))
    (body : ∀ (k : Nat) x, xs[k]? = some x → ∃ Γ' ts, (Blk X scope fun X' => GoG X' (wipeG Γ (own.map (·.2))) tg (enc x) Γ' ts) ∧ (Blk X scope fun X' => GoN X' Γ' elt (f x)) ∧ (∀ t ∈ ts, t ∈ own.map (·.2)))
    (ok : blkC X.N X.env.scope scope own = true) (hsw : swapsWith (.ListComp elt [⟨tg, iter, [], 0⟩] scope lpos) (some (.Name x' p')) pos.line X.env = pure true) (h : N.nx (Γ.set i (.ob (llO (xs.map f))))) (hz : xs.length < 1000000 := by walk_at "pside") (hx : X.N[i]? = some x' := by rfl) (hyl : X.env.scope.names.lookup x' = some .local := by rfl) (hs : ∀ x, foldedSetIterable iter X.env x = pure x := by intro _; rfl) :
    RnS X J N Γ (.Assign [.Name x' p'] (.ListComp elt [⟨tg, iter, [], 0⟩] scope lpos) pos) := .mk fun B0 σ B H Fs E j =>
  toS (ps_setLc (own := own) hc hN hx hyl hsw sI (blkOk_by ok) (fun s H C cl fp => ⟨fun pins s' σ H v u Q I r h => (h s _ C cl fp) pins s' u I r⟩) (fun s H C cl fp => ⟨fun pins s' σ H Q I h => (h s _ C cl fp) pins s' I⟩) (fun s H C cl fp => ⟨fun pins s' σ H Q I h => (h s _ C cl fp) pins s' I⟩) hs)
    (lc_runU f hi (ltZ hz) (fun k x hx => let ⟨Γ', ts, h1, h2, h4⟩ := body k x hx; ⟨Γ', ts, h4, h1, h2⟩) E (fun x H1 => gName i x σ H1 (N.ends X J B0).nx) fun l ps B2 H2 n hl hb hH nd hps ll => by
      have hF : ∀ a ∈ l :: ps, H a = none ∧ B2 a = none := fun a ha => by
        rcases List.mem_cons.mp ha with z | z
        · rw [z]
          exact ⟨hl, hb⟩
        · exact hps a z
      exact ⟨B2, _, _, (E.nw n).setO (P := llO (xs.map f)) (F := l :: ps) i ⟨l, ps, rfl, rfl, hH, nd, ll⟩ (fun a ha => (hF a ha).2) (fun k a ha hm => (E.fre k a ha).2 (hF a hm).1), (j.nw n).lay fun a ha => by
        cases q : J.H a with
        | none => rfl
        | some o => exact absurd (hF a ha).1 (j.h1 a (by rw [q]; exact fun z => nomatch z)), h⟩)
end
/-! ### a op b op c -/
section
variable {X : Cx} {Γ : Ga} {a b c : Expr} {pos : Pos}
theorem go_chainI {op op' : CmpOp} {g g' : Int → Int → Bool} {i j k : Int} (ho : OpR X (compareOp op) (rI0 fun i j => .bl (g i j))) (ho' : OpR X (compareOp op') (rI0 fun i j => .bl (g' i j))) (ha : Go X Γ a (.int i)) (hb : Go X Γ b (.int j)) (hc : Go X Γ c (.int k))
    (hm : lastMarks [op, op'] [b, c] = false := by with_unfolding_all rfl) : Go X Γ (.Compare a [op, op'] [b, c] pos) (.bool (g i j && g' j k)) := .mk fun σ B H Fs E Q q => by
  refine toE (pe_chain ho ho' sE sE sE hm) (ha σ B H Fs E _ fun v B1 H1 n1 r1 => hb σ B1 H1 Fs (E.nw n1) _ fun w B2 H2 n2 r2 => ⟨i, j, dp_int (dpUp n2.bb r1), dp_int r2, g i j, rfl, ?_⟩)
  cases h : g i j with
  | false =>
    rw [h] at q
    exact iteF (q _ B2 H2 (n1.trans n2) (Dp.bl _))
  | true =>
    rw [h] at q
    exact iteT (hc σ B2 H2 Fs ((E.nw n1).nw n2) _ fun u B3 H3 n3 r3 => ⟨j, k, dp_int (dpUp n3.bb r2), dp_int r3, q _ B3 H3 ((n1.trans n2).trans n3) (Dp.bl _)⟩)
theorem go_chainIT {op op' : CmpOp} {g g' : Int → Int → Bool} {i j k : Int} (ho : OpR X (compareOp op) (rI0 fun i j => .bl (g i j))) (ho' : OpR X (compareOp op') (rI0 fun i j => .bl (g' i j))) (ha : Go X Γ a (.int i)) (hb : Go X Γ b (.int j)) (hc : Go X Γ c (.int k))
    (hm : lastMarks [op, op'] [b, c] = false := by with_unfolding_all rfl) : GoT X Γ (.Compare a [op, op'] [b, c] pos) (g i j && g' j k) := .mk fun σ B H Fs E Q q => by
  refine toT (pt_chain ho ho' sE sE sE hm) (ha σ B H Fs E _ fun v B1 H1 n1 r1 => hb σ B1 H1 Fs (E.nw n1) _ fun w B2 H2 n2 r2 => ⟨i, j, dp_int (dpUp n2.bb r1), dp_int r2, g i j, rfl, ?_⟩)
  cases h : g i j with
  | false =>
    rw [h] at q
    exact iteF ⟨_, rfl, q B2 H2 (n1.trans n2)⟩
  | true =>
    rw [h] at q
    exact iteT (hc σ B2 H2 Fs ((E.nw n1).nw n2) _ fun u B3 H3 n3 r3 => ⟨j, k, dp_int (dpUp n3.bb r2), dp_int r3, _, rfl, q B3 H3 ((n1.trans n2).trans n3)⟩)
end
end PL

set_option maxHeartbeats 2000000
namespace PL
open PySem PySem.Spec PyProof.Rows L2
/-! ### a dict of our own: from ints to ints -/
def dcO (n : Nat) (g : Int → Option Int) : Ow where
  p := fun K B H v F => ∃ (a : Addr) (kvs : List (Key × V)), v = .ref a ∧ F = [a] ∧ H a = some (.dK kvs) ∧ kvs.length ≤ n ∧ ∀ k : Int, valV kvs (Sum.inl k : Key) = (g k).map V.int
  upB := fun _ h => h
  loc := fun e ⟨a, kvs, h1, h2, h3, h4, h5⟩ => ⟨a, kvs, h1, h2, (e a (by rw [h2]; exact List.mem_cons_self)).trans h3, h4, h5⟩
  dom := fun ⟨a, kvs, h1, h2, h3, h4, h5⟩ b hb => by
    rw [h2] at hb
    rw [List.mem_singleton.mp hb, h3]
    exact fun z => nomatch z
theorem putK_le (c : List (Key × V)) (k : Key) (x : V) : (putK c k x).length ≤ c.length + 1 := by
  unfold putK
  split
  · rw [List.length_map]
    omega
  · rw [List.length_append]
    exact Nat.le_refl _
section
variable {X : Cx} {J : Jd} {N : Nd} {Γ : Ga} {e f : Expr} {pos apos cpos : Pos} {n : Nat} {g : Int → Option Int} {k z : Int}
theorem goU_dict : GoU X Γ (.Dict [] [] pos) (dcO 0 fun _ => none) := .mk fun σ B H Fs E Q q =>
  toE pe_dnewK fun p hp => q _ [p] B _ (.lay E.bh hp) ⟨p, [], rfl, rfl, upd_same, Nat.le_refl _, fun _ => rfl⟩ fun a ha => by
    rw [List.mem_singleton.mp ha]
    exact ⟨hp, E.bh.none hp⟩
/-- x.get(k, d) -/
theorem go_dget2 (i : Nat) {x : Str} {p' : Pos} (hu : UOk X) (hΓ : Γ[i]? = some (.ob (dcO n g))) (hk : Go X Γ e (.int k)) (hd : Go X Γ f (.int z)) (hN : X.N[i]? = some x := by rfl) (hv : Vis X.env.scope x := by first | exact Or.inl rfl | exact Or.inr (Or.inl rfl) | exact Or.inr (Or.inr rfl))
    (hdb : (x == ("__debug__" : Str)) = false := by decide) (hcd : (x == ("__classdict__" : Str)) = false := by decide)
    (m1 : attributeBase (.Name x p') "get" X.env (eval (.Name x p') X.env) = eval (.Name x p') X.env := by rfl)
    (m2 : ((backTo cpos (starEach [e, f] X.env)).all (fun x => !x.1) && (backToKw cpos (keywordEach [] X.env)).all (fun x => x.1.isSome)
    && decide (([e, f] : List Expr).length + ([] : List Keyword).length + (if ([] : List Keyword).isEmpty then 0 else 1) < 30)) = true := by rfl)
    (m3 : (apos.endLine == cpos.line) = true := by rfl) (m4 : backTo cpos (starEach [e, f] X.env) = [(false, eval e X.env), (false, eval f X.env)] := by rfl) :
    Go X Γ (.Call (.Attribute (.Name x p') "get" apos) [e, f] [] cpos) (.int ((g k).getD z)) := .mk fun σ B H Fs E Q q => by
  obtain ⟨v, h1, a, kvs, rfl, h3, h4, h5, h6⟩ := E.at_ i _ hΓ
  refine toE (pe_dget2 (by have := hu.u65; omega) (pe_var hN hv hdb hcd) sE sE ⟨m1, m2, m3, m4⟩) ⟨_, h1, a, rfl, .inl ⟨kvs, .of h4⟩, hk σ B H Fs E _ fun v1 B1 H1 n1 r1 => hd σ B1 H1 Fs (E.nw n1) _ fun v2 B2 H2 n2 r2 => ?_⟩
  have n := n1.trans n2
  rw [dp_int r1, dp_int r2]
  refine ⟨_, DGet.k (k := Sum.inl k) (n.hh _ _ h4), ?_⟩
  rw [h6]
  generalize g k = o at q ⊢
  cases o with
  | none => exact q _ B2 H2 n (Dp.int _)
  | some u => exact q _ B2 H2 n (Dp.int _)
/-- x[k] = e -/
theorem rs_dput (i : Nat) {n0 : Nat} {x : Str} {p' q' : Pos} (hu : UOk X) (hΓ : Γ[i]? = some (.ob (dcO n0 g))) (he : Go X Γ f (.int z)) (hk : Go X Γ e (.int k)) (hl : n0 < 1000) (h : N.nx (Γ.set i (.ob (dcO (n0 + 1) fun j => if j = k then some z else g j)))) (hi : i < Γ.length) (hN : X.N[i]? = some x := by rfl) (hv : Vis X.env.scope x := by first | exact Or.inl rfl | exact Or.inr (Or.inl rfl) | exact Or.inr (Or.inr rfl))
    (hdb : (x == ("__debug__" : Str)) = false := by decide) (hcd : (x == ("__classdict__" : Str)) = false := by decide) (hs : swapsWith f (some (.Subscript (.Name x p') e q')) pos.line X.env = pure false := by rfl) : RnS X J N Γ (.Assign [.Subscript (.Name x p') e q'] f pos) := .mk fun B0 σ B H Fs E j =>
  toS (ps_dput (by have := hu.u65; omega) (pe_var hN hv hdb hcd) sE sE hs) (he σ B H Fs E _ fun v1 B1 H1 n1 r1 => by
    obtain ⟨v, h1, a, kvs, rfl, h3, h4, h5, h6⟩ := (E.nw n1).at_ i _ hΓ
    refine ⟨_, h1, hk σ B1 H1 Fs (E.nw n1) _ fun v2 B2 H2 n2 r2 => ?_⟩
    have n := n1.trans n2
    rw [dp_int r1, dp_int r2]
    have ea : H2 a = some (.dK kvs) := n2.hh _ _ h4
    have m : Mu (Fs i) B2 H2 B2 (upd H2 a (.dK (putK kvs (Sum.inl k : Key) (.int z)))) := ⟨.refl _, fun b o y => by
      have nb : b ≠ a := fun q => by
        have := ((E.nw n).fre i a (by rw [h3]; exact List.mem_cons_self)).1
        rw [q, this] at y
        cases y
      rw [upd_ne nb]
      exact n.bh b o y, fun b o y hF => by
      rw [upd_ne (fun q => hF (by rw [q, h3]; exact List.mem_cons_self))]
      exact y, fun b y q => by
      by_cases w : b = a
      · rw [w, upd_same] at q
        cases q
      · rw [upd_ne w] at q
        exact y q, fun _ y _ => y⟩
    refine ⟨a, _, rfl, DPut.k (k := Sum.inl k) ea (Nat.lt_of_le_of_lt h5 (Nat.lt_of_lt_of_le hl (by decide))), B2, _, _, (E.nw n).mu (W := dcO (n0 + 1) fun j => if j = k then some z else g j) m hi h1 (F2 := [a]) ⟨a, _, rfl, rfl, upd_same, Nat.le_trans (putK_le _ _ _) (Nat.succ_le_succ h5), fun j => ?_⟩ (fun b hb => ?_), (j.nw n).mu m (fun b hb => ?_), h⟩
    · show valV _ _ = Option.map V.int (if j = k then some z else g j)
      rw [valV_put, h6]
      by_cases w : j = k
      · rw [if_pos (by rw [w]), if_pos w]
        rfl
      · rw [if_neg (fun y => w (Sum.inl.inj y)), if_neg w]
    · rw [List.mem_singleton.mp hb]
      have ha : a ∈ Fs i := by rw [h3]; exact List.mem_cons_self
      exact ⟨((E.nw n).fre i a ha).1, .inl ha⟩
    · rw [List.mem_singleton.mp hb]
      exact .inl (by rw [h3]; exact List.mem_cons_self))
end
end PL

set_option maxHeartbeats 2000000
namespace PL
open PySem PySem.Spec PyProof.Rows L2
/-! ### a for over a list of our own that stays -/
section
variable {K : PySem.W.Frag} {B H : Hp} {σ : L2.St} {Γ : Ga} {Fs : Nat → List Addr} {W : Ow}
theorem En.pin {i : Nat} {v : V} (E : En K B H σ Γ Fs) (hΓ : Γ[i]? = some (.ob W)) (hσ : σ[i]? = some (some v)) : En K B H σ (Γ.set i (.ob (pinO W v))) Fs := ⟨E.bh, by rw [List.length_set]; exact E.len, fun j s hs => by
  by_cases e : i = j
  · subst e
    rw [List.getElem?_set_self (List.getElem?_eq_some_iff.mp hΓ).1] at hs
    cases hs
    obtain ⟨u, h1, h2⟩ := E.at_ i _ hΓ
    rw [hσ] at h1
    cases h1
    exact ⟨v, hσ, rfl, h2⟩
  · rw [List.getElem?_set_ne e] at hs
    exact E.at_ j s hs, E.fre, E.dis⟩
end
section
variable {X : Cx} {J : Jd} {N : Nd} {Γ : Ga} {tg e e1 e2 e3 b : Expr} {body sts : List Stmt} {ds ds2 : List D} {dss : List (List D)} {pos p2 : Pos}
theorem rs_forO (i0 : Nat) {x : Str} {p' : Pos} (Iv : V → Nat → Ga → Prop) (hΓ : Γ[i0]? = some (.own ds)) (h0 : ∀ v0, Iv v0 0 (Γ.set i0 (.ob (pinO (lstO ds) v0)))) (hO : ∀ v0 k Γ', Iv v0 k Γ' → Γ'[i0]? = some (.ob (pinO (lstO ds) v0)))
    (hb : ∀ v0 k d Γ', ds[k]? = some d → Iv v0 k Γ' → ∃ Γ2 ts, GoG X Γ' tg d Γ2 ts ∧ Rn X J { N with nx := Iv v0 (k + 1), ct := Iv v0 (k + 1), bk := N.nx } Γ2 body) (hd : ∀ v0 Γ', Iv v0 ds.length Γ' → N.nx Γ')
    (hc : X.calm = true) (hN : X.N[i0]? = some x := by rfl) (hv : Vis X.env.scope x := by first | exact Or.inl rfl | exact Or.inr (Or.inl rfl) | exact Or.inr (Or.inr rfl)) (hdb : (x == ("__debug__" : Str)) = false := by decide) (hcd : (x == ("__classdict__" : Str)) = false := by decide)
    (hp : PassesOwn (model X.prog X.w) X.A X.env X.xe := by exact PassesOwn.never) (hs : ∀ y, foldedSetIterable (.Name x p') X.env y = pure y := by intro _; rfl) : RnS X J N Γ (.For tg (.Name x p') body [] pos) := .mk fun B0 σ B H Fs E j => by
  obtain ⟨v, h1, a, vs, rfl, h3, h4, h5⟩ := E.at_ i0 _ hΓ
  refine toS (ps_for hp hc (pi_list (pe_var hN hv hdb hcd)) sG sSs hs) ⟨_, h1, a, rfl, ⟨vs, .of h4⟩, ?_⟩
  refine ⟨fun i m σ' H' => m = ds.length - i ∧ i ≤ ds.length ∧ ∃ B' Γ' Fs', Ex B B' ∧ En X.K B' H' σ' Γ' Fs' ∧ Jn J B0 B' H' Fs' ∧ Iv (.ref a) i Γ', ⟨ds.length, by omega, Nat.zero_le _, B, _, Fs, .refl _, E.pin hΓ h1, j, h0 _⟩, ?_⟩
  rintro i m σ' H' ⟨rfl, hi, B', Γ', Fs', q1, E', j', v⟩
  obtain ⟨u, g1, g2, a2, vs2, g3, g4, g5, g6⟩ := E'.at_ i0 _ (hO _ _ _ v)
  subst g3
  cases g2
  by_cases hlt : i < ds.length
  · obtain ⟨w, k1, k2⟩ := dps_get g6 (List.getElem?_eq_getElem hlt)
    refine .inr ⟨⟨vs2, w, .of g5, k1⟩, fun σ' H' => ∃ B' Γ' Fs', Ex B B' ∧ En X.K B' H' σ' Γ' Fs' ∧ Jn J B0 B' H' Fs' ∧ Iv (.ref a) (i + 1) Γ', fun σ' H' p => ⟨ds.length - (i + 1), by omega, rfl, hlt, p⟩, fun x H'' y => ?_⟩
    obtain ⟨f1, y⟩ := y
    subst f1
    obtain ⟨d', f3, f4⟩ := dps_getv g6 (y vs2 (.of g5))
    obtain ⟨Γ2, ts, g, rb⟩ := hb _ i _ Γ' f3 v
    refine g σ' B' _ Fs' x E' f4 _ fun σ2 F2 E2 sb _ => ?_
    have j2 : Jn J B0 B' _ F2 := j'.sub sb
    refine wpSs_mono (rb B' σ2 B' _ F2 E2 j2.fresh) ?_ ?_ ?_ ?_
    · exact fun σ3 H3 ⟨B3, Γ3, F3, p1, p2, p3⟩ => ⟨B3, Γ3, F3, q1.trans p2.b0, p1, j2.trans p2, p3⟩
    · exact fun v H3 ⟨σ3, B3, Γ3, F3, p1, p2, p3⟩ => ⟨σ3, B3, Γ3, F3, p1, j2.trans p2, p3⟩
    · exact fun σ3 H3 ⟨B3, Γ3, F3, p1, p2, p3⟩ => ⟨B3, Γ3, F3, p1, j2.trans p2, p3⟩
    · exact fun σ3 H3 ⟨B3, Γ3, F3, p1, p2, p3⟩ => ⟨B3, Γ3, F3, q1.trans p2.b0, p1, j2.trans p2, p3⟩
  · have z : i = ds.length := by omega
    subst z
    exact .inl ⟨⟨vs2, .of g5, by rw [dps_len g6]; exact Nat.le_refl _⟩, B', Γ', Fs', E', j', hd _ Γ' v⟩
/-! ### a tuple of lists of our own -/
def tlO (dss : List (List D)) : Ow where
  p := fun K B H v F => ∃ a ps, v = .ref a ∧ F = a :: ps ∧ H a = some (.tup (ps.map .ref)) ∧ F.Nodup ∧ LLs K B H ps dss
  upB := fun e ⟨a, ps, h1, h2, h3, h4, h5⟩ => ⟨a, ps, h1, h2, h3, h4, h5.mono e fun _ _ => rfl⟩
  loc := fun e ⟨a, ps, h1, h2, h3, h4, h5⟩ => ⟨a, ps, h1, h2, (e a (by rw [h2]; exact List.mem_cons_self)).trans h3, h4, h5.mono (.refl _) fun b hb => e b (by rw [h2]; exact List.mem_cons_of_mem _ hb)⟩
  dom := fun ⟨a, ps, h1, h2, h3, h4, h5⟩ b hb => by
    rw [h2] at hb
    rcases List.mem_cons.mp hb with e | e
    · rw [e, h3]
      exact fun z => nomatch z
    · exact h5.dom b e
theorem fz_tl (dss : List (List D)) : Fz (tlO dss) (.tuple (dss.map .list)) := fun K B H v F h hF => by
  obtain ⟨a, ps, rfl, h2, h3, h4, h5⟩ := h
  exact .tup (.of (by rw [ovl_in (by rw [h2]; exact List.mem_cons_self)]; exact h3)) (h5.dps (ovl_ex hF) fun b hb => ovl_in (by rw [h2]; exact List.mem_cons_of_mem _ hb))
theorem gol_ixT (i : Nat) {x : Str} {k : Nat} {j p2 p3} (hk : dss[k]? = some ds) (hΓ : Γ[i]? = some (.ob (tlO dss)) := by rfl) (hN : X.N[i]? = some x := by rfl) (hv : Vis X.env.scope x := by first | exact Or.inl rfl | exact Or.inr (Or.inl rfl) | exact Or.inr (Or.inr rfl))
    (hd : (x == ("__debug__" : Str)) = false := by decide) (hcd : (x == ("__classdict__" : Str)) = false := by decide) : GoL X Γ (.Subscript (.Name x p2) (.Constant (.int (k : Nat)) j p3) pos) i ds fun es => tlO (dss.set k es) := .mk fun σ B H Fs E Q q => by
  obtain ⟨v, h1, a, ps, e1, e2, e3, e4, e5⟩ := E.at_ i _ hΓ
  subst e1
  obtain ⟨p, us, f1, f2, f3⟩ := e5.get hk
  have hp : p ∈ ps := List.mem_of_getElem? f1
  have np : p ≠ a := fun z => by
    rw [e2] at e4
    exact (List.nodup_cons.mp e4).1 (z ▸ hp)
  refine toE (pe_ix ix_tup (pe_var hN hv hd hcd) pe_int fun _ _ => rfl) ⟨_, h1, a, ps.map .ref, (k : Nat), .ref p, rfl, rfl, .of e3, atI_nat (by rw [List.getElem?_map, f1]; rfl), ?_⟩
  refine q p us _ B H (.same E.bh) h1 (by rw [e2]; exact List.mem_cons_of_mem _ hp) f2 f3 fun B' H' hB hH us es hu => ⟨a, ps, rfl, e2, ?_, e4, ?_⟩
  · rw [upd_ne (Ne.symm np), hH a (by rw [e2]; exact List.mem_cons_self)]
    exact e3
  · rw [e2] at e4
    exact (e5.mono hB fun b hb => hH b (by rw [e2]; exact List.mem_cons_of_mem _ hb)).set hu (List.nodup_cons.mp e4).2 f1
theorem goN_is {ds' : List D} (h : GoN X Γ e ds) (e' : ds = ds') : GoN X Γ e ds' := e' ▸ h
/-- handed back: (a name of a list of our own, a new list) -/
theorem rs_retTL (i : Nat) {x : Str} {p' : Pos} {j0} {v0 : V} (hΓ : Γ[i]? = some (.ob (pinO (lstO ds) v0))) (he : GoN X Γ e ds2) (hn : N.rn = some (tlO [ds, ds2])) (hi : i ∉ J.S) (hN : X.N[i]? = some x := by rfl) (hv : Vis X.env.scope x := by first | exact Or.inl rfl | exact Or.inr (Or.inl rfl) | exact Or.inr (Or.inr rfl))
    (hd : (x == ("__debug__" : Str)) = false := by decide) (hcd : (x == ("__classdict__" : Str)) = false := by decide) (hG : N.rG Γ := by exact rfl) (hs1 : starEach [.Name x p', e] X.env = (false, eval (.Name x p') X.env) :: starEach [e] X.env := by rfl) (hs2 : starEach [e] X.env = (false, eval e X.env) :: starEach [] X.env := by rfl) :
    RnS X J N Γ (.Return (some (.Tuple [.Name x p', e] j0 p2)) pos) := .mk fun B0 σ B H Fs E j => by
  obtain ⟨v, h1, h0, a, vs, h2, h3, h4, h5⟩ := E.at_ i _ hΓ
  subst h2
  refine toS (ps_ret (pe_tup (pa_cons (pe_var hN hv hd hcd) (pa_cons sE pa_nil hs2) hs1))) ⟨_, h1, he σ B H Fs E _ fun p us B1 H1 n1 hp hbp hH hds => ?_⟩
  refine ⟨by show 2 ≤ _; decide, fun t ht => ?_⟩
  have aF : a ∈ Fs i := by rw [h3]; exact List.mem_cons_self
  have e1 : H1 a = some (.lst vs) := n1.hh _ _ h4
  have ap : a ≠ p := fun z => by rw [z, hp] at h4; cases h4
  have at_ : a ≠ t := fun z => by rw [z, ht] at e1; cases e1
  have pt : p ≠ t := fun z => by rw [z, ht] at hH; cases hH
  have n2 : Nw B1 H1 B1 (upd H1 t (.tup [.ref a, .ref p])) := .lay n1.bh ht
  have n := n1.trans n2
  refine ⟨σ, B1, Γ, Fs, E.nw n, j.nw n, hG, ?_⟩
  rw [hn]
  have fresh : ∀ b, H b = none → J.H b = none := fun b hb => by
    cases q : J.H b with
    | none => rfl
    | some o => exact absurd hb (j.h1 b (by rw [q]; exact fun z => nomatch z))
  refine ⟨[t, a, p], ⟨t, [a, p], rfl, rfl, upd_same, ?_, .cons ((upd_ne at_).trans e1) (dpsUp n1.bb h5) (.cons ((upd_ne pt).trans hH) hds .nil)⟩, fun b hb => ?_, fun m hm b hb hbm => ?_⟩
  · simp only [List.nodup_cons, List.mem_cons, List.not_mem_nil, or_false, not_or, not_false_eq_true, List.nodup_nil, and_true]
    exact ⟨⟨Ne.symm at_, Ne.symm pt⟩, ap⟩
  · rcases List.mem_cons.mp hb with z | hb
    · rw [z]
      exact ⟨fresh t (n1.hh.none ht), n1.bh.none ht⟩
    · rcases List.mem_cons.mp hb with z | hb
      · rw [z]
        refine ⟨?_, ((E.nw n1).fre i a aF).1⟩
        rcases j.fm i a aF with z | z
        · exact z
        · exact absurd z.2 hi
      · rw [List.mem_singleton.mp hb]
        exact ⟨fresh p hp, hbp⟩
  · rcases List.mem_cons.mp hb with z | hb
    · rw [z] at hbm
      exact ((E.nw n1).fre m t hbm).2 ht
    · rcases List.mem_cons.mp hb with z | hb
      · rw [z] at hbm
        exact hi (E.dis m i a hbm aF ▸ hm)
      · rw [List.mem_singleton.mp hb] at hbm
        exact (E.fre m p hbm).2 hp
end
/-! ### a method that changes its object and hands back a new thing -/
def spWU (K : PySem.W.Frag) (S : Ow → List Mn → Ow → Ow → Prop) : Sp := fun vs H Q _ => ∃ (W : Ow) (Ps : List Mn) (R W' : Ow) (B : Hp) (v0 : V) (us : List V) (F : List Addr), S W Ps R W' ∧ vs = v0 :: us ∧ Ex B H ∧ W.p K B H v0 F ∧ (∀ a ∈ F, B a = none) ∧ MnAll K B us Ps ∧
  ∀ v B2 H2 F2 F3, Mu F B H B2 H2 → R.p K B2 H2 v F3 → W'.p K B2 H2 v0 F2 → (∀ a ∈ F2, B2 a = none ∧ (a ∈ F ∨ H a = none)) → (∀ a ∈ F3, H a = none ∧ B2 a = none ∧ a ∉ F2) → Q v H2
abbrev ndWU (R W' : Ow) (v0 : V) : Nd := { nx := fun _ => False, rt := datP .none, rG := fun Γ' => Γ'[0]? = some (.ob (pinO W' v0)), rn := some R }
section
variable {P : Program} {w : World} {K : PySem.W.Frag} {mg : Str → Option Value} {base : Heap}
theorem mWU_ok {own m qual : Str} {st : Stmt} {L ps : List Str} {k : Nat} {S : Ow → List Mn → Ow → Ow → Prop} (Mt : Mtd K own m qual st ps) (Sc : FnScope L ps (defScope st)) (hl : ∀ W Ps R W', S W Ps R W' → Ps.length + 1 = ps.length) (hL : 0 < L.length)
    (body : ∀ W Ps R W', S W Ps R W' → ∀ (v0 : V) (f : Addr) (cdv : Value) (A : Around) (outer : List Env) (s : Shared) (H : Hp) (E : XK), Room k (A.deeper (envOfC qual (defScope st) s.heap.objs.size f cdv)) → ∀ J : Jd, J.S = [0] →
      Rn (cxOf CX0 P w K mg base L qual (defScope st) f cdv A outer s H E).nox J (ndWU R W' v0) (entryW (pinO W v0) Ps L.length) (defBody st)) : CalM P w K mg base CX0 own m ps (k + 1) (spWU K S) := by
  obtain ⟨C, g, fd, h1, h2, h3, F, b⟩ := Mt.ex
  refine ⟨C, g, fd, h1, h2, h3, F.ok Sc (fun vs H Q E h => ?_) fun cdv A outer s H vs Q E hr h => ?_, b⟩
  · obtain ⟨W, Ps, R, W', B, v0, us, F, hS, rfl, _, _, _, h, _⟩ := h
    rw [List.length_cons, mn_len h, hl _ _ _ _ hS]
  · obtain ⟨W, Ps, R, W', B, v0, us, F, hS, rfl, hB, hW, hF, hv, q⟩ := h
    refine ⟨_, sSs, wpSs_mono (body W Ps R W' hS v0 g cdv A outer s H E hr ⟨H, F, [0]⟩ rfl B (L2.start L (v0 :: us)) B H _ (en_entryW hB ⟨rfl, hW⟩ hF hv hL) jn_entryW) ?_ ?_ ?_ ?_⟩
    · exact fun σ' H' ⟨B', Γ', Fs', e, j, n⟩ => n.elim
    · exact fun v H' ⟨σ', B', Γ', Fs', e, j, g, F3, r1, r2, r3⟩ => by
        obtain ⟨u, h1, rfl, h2⟩ := e.at_ 0 _ g
        refine q v B' H' (Fs' 0) F3 ⟨j.b0, e.bh, j.h0, j.h1, fun a h1 h2 => ?_⟩ r1 h2 (fun a ha => ⟨(e.fre 0 a ha).1, ?_⟩) fun a ha => ⟨(r2 a ha).1, (r2 a ha).2, r3 0 List.mem_cons_self a ha⟩
        · cases r : B' a with
          | none => rfl
          | some o => exact absurd (j.nb a (by rw [r]; exact fun z => nomatch z) h1) h2
        · rcases j.fm 0 a ha with z | z
          · exact .inr z
          · exact .inl z.1
    · exact fun σ' H' ⟨B', Γ', Fs', e, j, n⟩ => n.elim
    · exact fun σ' H' ⟨B', Γ', Fs', e, j, n⟩ => n.elim
end
/-- e changes the thing of the slot i and gives a new thing R -/
structure GoMU (X : Cx) (Γ : Ga) (e : Expr) (i : Nat) (W R : Ow) : Prop where
  run : ∀ σ B H Fs, En X.K B H σ Γ Fs → ∀ Q : VK, (∀ v v0 B2 H2 F2 F3, Mu (Fs i) B H B2 H2 → R.p X.K B2 H2 v F3 → σ[i]? = some (some v0) → W.p X.K B2 H2 v0 F2 → (∀ a ∈ F2, B2 a = none ∧ (a ∈ Fs i ∨ H a = none)) → (∀ a ∈ F3, H a = none ∧ B2 a = none ∧ a ∉ F2) → Q v H2) → wpE X e σ H Q
section
variable {X : Cx} {J : Jd} {N : Nd} {Γ : Ga} {e : Expr} {es : List Expr} {W W' R : Ow} {pos apos : Pos} {own m : Str} {ps : List Str} {k j : Nat} {pl : Sem Bool} {d : D}
theorem gmu_meth0 (i : Nat) {V V' : Ow} {S : Ow → List Mn → Ow → Ow → Prop} {x : Str} {p' : Pos} (C : CalM X.prog X.w X.K X.mg X.base CX0 own m ps k (spWU X.K S)) (hr : Room j X.A) (hk : k ≤ j) (hΓ : Γ[i]? = some (.ob W)) (hp : Pin V V' W W') (hO : IsObj own m V) (hS : S V [] R V' := by walk_at "pS")
    (hN : X.N[i]? = some x := by rfl) (hv : Vis X.env.scope x := by first | exact Or.inl rfl | exact Or.inr (Or.inl rfl) | exact Or.inr (Or.inr rfl)) (hd : (x == ("__debug__" : Str)) = false := by decide) (hcd : (x == ("__classdict__" : Str)) = false := by decide)
    (ht : eval (.Call (.Attribute (.Name x p') m apos) [] [] pos) X.env = (do
      let ov ← eval (.Name x p') X.env
      standAt apos.atName
      let (f, first) ← holding [ov] (getMethod ov m pl)
      callWith pos f first (backTo pos (starEach [] X.env)) (backToKw pos (keywordEach [] X.env))) := by rfl) : GoMU X Γ (.Call (.Attribute (.Name x p') m apos) [] [] pos) i W' R := .mk fun σ B H Fs E Q q => by
  obtain ⟨C, g, fd, h1, h2, h3, F, b⟩ := C.ex
  obtain ⟨v, e1, e2⟩ := E.at_ i _ hΓ
  obtain ⟨i1, i2⟩ := hp.inn e2
  obtain ⟨C', a, dx, vs, c1, rfl, c3, c4⟩ := hO _ _ _ _ _ i1
  cases h1.eq c1
  refine toE (pe_meth0 (pe_var hN hv hd hcd) h2 h3 (F.mono hk) hr b .nil pass0 ht) ⟨_, e1, a, dx, vs, rfl, c3, c4, ?_⟩
  exact ⟨V, [], R, V', B, _, [], Fs i, hS, rfl, E.bh, i1, fun b hb => (E.fre i b hb).1, .nil, fun v B3 H3 F3 F4 m3 r3 w3 f3 f4 => q v _ B3 H3 F3 F4 m3 r3 e1 (i2 _ _ _ w3) f3 f4⟩
/-- what it gives is not changed any more -/
theorem gm_of_U {i : Nat} (h : GoMU X Γ e i W R) (hz : Fz R d) : GoM X Γ e i W (datP d) := .mk fun σ B H Fs E Q q => h.run σ B H Fs E Q fun v v0 B2 H2 F2 F3 m r hσ hW hF hF3 => by
  have e1 : Ex B2 (ovl B2 H2 F3) := ovl_ex fun a ha => (hF3 a ha).2.1
  refine q v v0 (ovl B2 H2 F3) H2 F2 ⟨m.bb.trans e1, fun a o ha => ?_, m.hh, m.hd, fun a h1 h2 => ?_⟩ (hz _ _ _ _ _ r fun a ha => (hF3 a ha).2.1) hσ (W.upB e1 hW) fun a ha => ⟨?_, (hF a ha).2⟩
  · by_cases w : a ∈ F3
    · rwa [ovl_in w] at ha
    · rw [ovl_out w] at ha
      exact m.bh a o ha
  · rw [ovl_out fun z => h2 (hF3 a z).1]
    exact m.nu a h1 h2
  · rw [ovl_out fun z => (hF3 a z).2.2 ha]
    exact (hF a ha).1
/-- name = such a call -/
theorem rs_setMU {i : Nat} (k : Nat) {x : Str} {p' : Pos} (he : GoMU X Γ e i W R) (hi : i < Γ.length) (hik : i ≠ k) (h : N.nx ((Γ.set i (.ob W)).set k (.ob R))) (hN : X.N.Nodup) (hk : X.N[k]? = some x := by rfl) (hx : Loc X.env.scope x := by first | exact .inl rfl | exact .inr rfl)
    (hs : swapsWith e (some (.Name x p')) pos.line X.env = pure false := by rfl) (hf : X.fn x = true ∨ X.env.scope.names.lookup x = some .local := by first | exact .inl rfl | exact .inr rfl) : RnS X J N Γ (.Assign [.Name x p'] e pos) := .mk fun B0 σ B H Fs E j =>
  toS (ps_set hN hk hx sE hs hf) (he.run σ B H Fs E _ fun v v0 B2 H2 F2 F3 m r hσ hW hF hF3 => ⟨B2, _, _, (E.mu m hi hσ hW hF).setO (P := R) (F := F3) k r (fun a ha => (hF3 a ha).2.1) (fun q a ha hm => by
    by_cases w : q = i
    · subst w
      rw [off_same] at ha
      exact (hF3 a hm).2.2 ha
    · rw [off_ne w] at ha
      exact (E.fre q a ha).2 (hF3 a hm).1), (j.mu m fun a ha => (hF a ha).2).lay fun a ha => by
    cases q : J.H a with
    | none => rfl
    | some o => exact absurd (hF3 a ha).1 (j.h1 a (by rw [q]; exact fun z => nomatch z)), h⟩)
end
/-! ### {'a': .., 'b': .., 'c': ..}[x] -/
section
variable {X : Cx} {Γ : Ga} {e1 e2 e3 b : Expr} {pos : Pos} {d1 d2 d3 d : D}
theorem lay_nw {B H H1 : Hp} {B1 : Hp} {p : Addr} {o u : HO} (hp : H p = none) (hB : Ex B H) (n : Nw B (upd H p o) B1 H1) : Nw B H B1 (upd H1 p u) := by
  have b1 : B1 p = none := n.nu p (hB.none hp) (by rw [upd_same]; exact fun z => nomatch z)
  refine ⟨n.bb, fun a z h => ?_, fun a z h => ?_, fun a h1 h2 => ?_⟩
  · rw [upd_ne (ne_of_none h b1)]
    exact n.bh a z h
  · have := ne_of_none h hp
    rw [upd_ne this]
    exact n.hh a z (by rw [upd_ne this]; exact h)
  · refine n.nu a h1 ?_
    by_cases w : a = p
    · rw [w, upd_same]
      exact fun z => nomatch z
    · rw [upd_ne w]
      exact h2
theorem go_dic3 {k1 k2 k3 s : Str} {i1 i2 i3 : Nat} {p1 p2 p3 p4 : Pos} (hu : UOk X) (pk : V → V → V → V) (h1 : Go X Γ e1 d1) (h2 : Go X Γ e2 d2) (h3 : Go X Γ e3 d3) (hb : Go X Γ b (.str s))
    (hv : ∀ w1 w2 w3 : V, valV (mergeK [] [((Sum.inr k1 : Key), w1), (Sum.inr k2, w2), (Sum.inr k3, w3)]) (Sum.inr s) = some (pk w1 w2 w3)) (hd : ∀ (K : PySem.W.Frag) (B : Hp) (w1 w2 w3 : V), Dp K B w1 d1 → Dp K B w2 d2 → Dp K B w3 d3 → Dp K B (pk w1 w2 w3) d)
    (hs : NoSl b := by exact fun _ _ => rfl) : Go X Γ (.Subscript (.Dict [some (.Constant (.str k1) i1 p1), some (.Constant (.str k2) i2 p2), some (.Constant (.str k3) i3 p3)] [e1, e2, e3] p4) b pos) d := .mk fun σ B H Fs E Q q => by
  refine toE (pe_dget (by have := hu.u65; omega) (pe_disp (pps_cons sE sE (pps_cons sE sE (pps_cons sE sE pps_nil))) rfl rfl (fun z => nomatch z) (by show 3 ≤ 15; decide)) sE hs) fun p hp => ?_
  have n0 : Nw B H B (upd H p (.dK [])) := .lay E.bh hp
  refine (go_str (Γ := Γ)) σ B _ Fs (E.nw n0) _ fun a1 B1 H1 m1 r1 => h1 σ B1 H1 Fs ((E.nw n0).nw m1) _ fun w1 B2 H2 m2 t1 => (go_str (Γ := Γ)) σ B2 H2 Fs (((E.nw n0).nw m1).nw m2) _ fun a2 B3 H3 m3 r2 => h2 σ B3 H3 Fs ((((E.nw n0).nw m1).nw m2).nw m3) _ fun w2 B4 H4 m4 t2 =>
    (go_str (Γ := Γ)) σ B4 H4 Fs (((((E.nw n0).nw m1).nw m2).nw m3).nw m4) _ fun a3 B5 H5 m5 r3 => h3 σ B5 H5 Fs ((((((E.nw n0).nw m1).nw m2).nw m3).nw m4).nw m5) _ fun w3 B6 H6 m6 t3 => ?_
  have n6 := (((((m1.trans m2).trans m3).trans m4).trans m5).trans m6)
  refine ⟨n6.hh _ _ upd_same, [((Sum.inr k1 : Key), w1), (Sum.inr k2, w2), (Sum.inr k3, w3)], ?_, by show 3 ≤ 15; decide, ?_⟩
  · rw [dp_str r1, dp_str r2, dp_str r3]
    rfl
  have n7 := lay_nw (u := .dK (mergeK [] [((Sum.inr k1 : Key), w1), (Sum.inr k2, w2), (Sum.inr k3, w3)])) hp E.bh n6
  refine hb σ B6 _ Fs (E.nw n7) _ fun y B8 H8 m8 r8 => ?_
  rw [dp_str r8]
  have g := DGet.k (k := (Sum.inr s : Key)) (m8.hh _ _ (upd_same (H := H6) (a := p) (o := .dK (mergeK [] [((Sum.inr k1 : Key), w1), (Sum.inr k2, w2), (Sum.inr k3, w3)]))))
  rw [hv] at g
  exact ⟨p, _, rfl, g, q _ B8 H8 (n7.trans m8) (hd _ _ _ _ _ (dpUp (((((m3.trans m4).trans m5).trans m6).bb).trans m8.bb) t1) (dpUp ((m5.trans m6).bb.trans m8.bb) t2) (dpUp m8.bb t3))⟩
end
/-! ### list(range(n)) -/
section
variable {X : Cx} {Γ : Ga} {a : Expr} {p p1 pos pos1 : Pos}
theorem goN_listRg {n : Nat} (hc : X.calm = true) (hml : X.mg "list" = none) (hmr : X.mg "range" = none) (ha : Go X Γ a (.int ((n : Nat) : Int))) (hn : n ≤ 1000000) (hgl : Gl X "list" := by rfl) (hgr : Gl X "range" := by rfl)
    (na : starEach [a] X.env = (false, eval a X.env) :: starEach [] X.env := by rfl) (nb : starEach [.Call (.Name "range" p1) [a] [] pos1] X.env = (false, eval (.Call (.Name "range" p1) [a] [] pos1) X.env) :: starEach [] X.env := by rfl) :
    GoN X Γ (.Call (.Name "list" p) [.Call (.Name "range" p1) [a] [] pos1] [] pos) ((List.range n).map fun i : Nat => PyData.int ((i : Nat) : Int)) := .mk fun σ B H Fs E Q q =>
  toE (pe_listRg hc hgl hml (prg_1 hgr hmr sE na) nb) (ha σ B H Fs E _ fun v B1 H1 n1 r => ⟨((n : Nat) : Int), dp_int r, RgOk.of_le (by omega) (by omega) (by omega) (by omega), fun q' hq => q q' (rgV 0 ((n : Nat) : Int)) B1 _ (n1.trans (.lay n1.bh hq)) (n1.hh.none hq) (n1.bh.none hq) upd_same (by
    have e1 : rgV 0 ((n : Nat) : Int) = ((List.range n).map fun i : Nat => ((i : Nat) : Int)).map V.int := by
      unfold rgV
      rw [List.map_map, show (((n : Nat) : Int) - 0).toNat = n by omega]
      exact List.map_congr_left fun i _ => congrArg V.int (show (0 : Int) + ((i : Nat) : Int) = ((i : Nat) : Int) by omega)
    have e2 : ((List.range n).map fun i : Nat => PyData.int ((i : Nat) : Int)) = ((List.range n).map fun i : Nat => ((i : Nat) : Int)).map PyData.int := by
      rw [List.map_map]
      rfl
    rw [e1, e2]
    exact dps_ints _)⟩)
end
/-! ### a, b = e, f -/
section
variable {X : Cx} {J : Jd} {N : Nd} {Γ : Ga} {a b : Expr} {d1 d2 : D} {pos : Pos}
theorem rs_par (i j : Nat) {x y : Str} {px py pt pt2 : Pos} {kt k2} (ha : Go X Γ a d1) (hb : Go X Γ b d2) (h : N.nx ((Γ.set i (.dat d1)).set j (.dat d2))) (hN : X.N.Nodup) (hc : X.calm = true) (hij : i ≠ j) (hi : X.N[i]? = some x := by rfl) (hj : X.N[j]? = some y := by rfl)
    (hx : X.env.scope.names.lookup x = some .local := by rfl) (hy : X.env.scope.names.lookup y = some .local := by rfl)
    (hw : swappedStores [.Tuple [.Name x px, .Name y py] kt pt] (.Tuple [a, b] k2 pt2) X.env = pure (some [x, y]) := by rfl)
    (hs : swapsWithSole [.Tuple [.Name x px, .Name y py] kt pt] (.Tuple [a, b] k2 pt2) pos.line X.env = pure false := by rfl)
    (he1 : starEach [a, b] X.env = (false, eval a X.env) :: starEach [b] X.env := by rfl) (he2 : starEach [b] X.env = (false, eval b X.env) :: starEach [] X.env := by rfl) :
    RnS X J N Γ (.Assign [.Tuple [.Name x px, .Name y py] kt pt] (.Tuple [a, b] k2 pt2) pos) := .mk fun B0 σ B H Fs E jn =>
  toS (ps_par hc hN hi hj hij hx hy (pa_cons sE (pa_cons sE pa_nil he2) he1) hw hs) (ha σ B H Fs E _ fun v B1 H1 n1 r1 => hb σ B1 H1 Fs (E.nw n1) _ fun w B2 H2 n2 r2 =>
    ⟨v, w, rfl, B2, _, _, ((E.nw (n1.trans n2)).setP i (P := datP d1) (dpUp n2.bb r1)).setP j (P := datP d2) r2, (jn.nw (n1.trans n2)).sub fun _ _ z => off_sub (off_sub z), h⟩)
end
end PL

set_option maxHeartbeats 2000000
namespace PL
open PySem PySem.Spec PyProof.Rows L2
/-! ### texts -/
section
variable {X : Cx} {J : Jd} {N : Nd} {Γ : Ga} {a b e : Expr} {d x y : D} {ds : List D} {pos p ap : Pos}
theorem dps_strs {K : PySem.W.Frag} {H : Hp} : ∀ ys : List Str, DpAll K H (ys.map V.str) (ys.map PyData.str)
  | [] => .nil
  | y :: r => .cons (.str y) (dps_strs r)
/-- z.join(xs) -/
theorem go_join {z : Str} {ys : List Str} (ho : Go X Γ a (.str z)) (he : Go X Γ e (.list (ys.map .str))) (hl : (ys.map (·.length)).sum + ys.length * z.length ≤ 16777216) (hbase : attributeBase a "join" X.env (eval a X.env) = eval a X.env := by rfl)
    (hfew : ((backTo pos (starEach [e] X.env)).all (fun x => !x.1) && (backToKw pos (keywordEach [] X.env)).all (fun x => x.1.isSome)
      && decide ([e].length + ([] : List Keyword).length + (if ([] : List Keyword).isEmpty then 0 else 1) < 30)) = true := by rfl)
    (hline : (ap.endLine == pos.line) = true := by rfl) (hs : starEach [e] X.env = (false, eval e X.env) :: starEach [] X.env := by rfl) (hplain : (backTo pos (starEach [] X.env)).any (·.1) = false := by rfl) :
    Go X Γ (.Call (.Attribute a "join" ap) [e] [] pos) (.str (Txt.join z ys)) := .mk fun σ B H Fs E Q q => by
  refine toE (pe_bm PySem.F.plainAttrs_str PySem.F.slot_str_join PySem.F.type_str_join mt_join sE (pa_cons sE pa_nil hs) hbase hfew hline hs hplain) (ho σ B H Fs E _ fun v B1 H1 n1 r1 => ?_)
  rw [dp_str r1]
  refine ⟨rfl, he σ B1 H1 Fs (E.nw n1) _ fun w B2 H2 n2 r2 => ?_⟩
  obtain ⟨l, vs, rfl, h3, h4⟩ := dp_lst r2
  have e4 := dps_strs_inv h4
  subst e4
  exact ⟨z, l, ys, rfl, rfl, .inl (n2.bh.sl h3), hl, q _ B2 H2 (n1.trans n2) (Dp.str _)⟩
/-- x.split(y) -/
theorem goN_split {x y : Str} (ho : Go X Γ a (.str x)) (he : Go X Γ e (.str y)) (hy : (y.length == 0) = false) (hl : x.length + 2 ≤ sizeLine) (hbase : attributeBase a "split" X.env (eval a X.env) = eval a X.env := by rfl)
    (hfew : ((backTo pos (starEach [e] X.env)).all (fun x => !x.1) && (backToKw pos (keywordEach [] X.env)).all (fun x => x.1.isSome)
      && decide ([e].length + ([] : List Keyword).length + (if ([] : List Keyword).isEmpty then 0 else 1) < 30)) = true := by rfl)
    (hline : (ap.endLine == pos.line) = true := by rfl) (hs : starEach [e] X.env = (false, eval e X.env) :: starEach [] X.env := by rfl) (hplain : (backTo pos (starEach [] X.env)).any (·.1) = false := by rfl) :
    GoN X Γ (.Call (.Attribute a "split" ap) [e] [] pos) ((Txt.split x y).map .str) := .mk fun σ B H Fs E Q q => by
  refine toE (pe_bm PySem.F.plainAttrs_str PySem.F.slot_str_split PySem.F.type_str_split mt_split sE (pa_cons sE pa_nil hs) hbase hfew hline hs hplain) (ho σ B H Fs E _ fun v B1 H1 n1 r1 => ?_)
  rw [dp_str r1]
  refine ⟨rfl, he σ B1 H1 Fs (E.nw n1) _ fun w B2 H2 n2 r2 => ?_⟩
  rw [dp_str r2]
  have n := n1.trans n2
  exact ⟨x, y, rfl, rfl, hy, hl, fun l hp => q l _ B2 _ (n.trans (.lay n.bh hp)) (n.hh.none hp) (n.bh.none hp) upd_same (dps_strs _)⟩
/-- str(i) -/
theorem go_strI {i : Int} (ha : Go X Γ e (.int i)) (hl : i.natAbs.log2 < 1920) (hm : X.mg "str" = none) (hg : Gl X "str" := by rfl) (he : starEach [e] X.env = (false, eval e X.env) :: starEach [] X.env := by rfl) : Go X Γ (.Call (.Name "str" p) [e] [] pos) (.str (toString i)) :=
  go_callTy call_str_int hg hm PyProof.Rows.boot_str (goA_cons ha goA_nil he) (fun vs B H hB r Q q => by
    obtain ⟨v, rfl, h⟩ := mn1 r
    rw [dp_int h]
    exact ⟨i, rfl, hl, q _ B H (.same hB) (Dp.str _)⟩) (by decide) (by decide) he rfl
/-- int(x) of a text -/
theorem go_intS {z : Str} {n : Int} (ha : Go X Γ e (.str z)) (hz : PySem.intText? z = some n) (hl : z.length ≤ 640) (hm : X.mg "int" = none) (hg : Gl X "int" := by rfl) (he : starEach [e] X.env = (false, eval e X.env) :: starEach [] X.env := by rfl) : Go X Γ (.Call (.Name "int" p) [e] [] pos) (.int n) :=
  go_callTy call_int_str hg hm PyProof.Rows.boot_int (goA_cons ha goA_nil he) (fun vs B H hB r Q q => by
    obtain ⟨v, rfl, h⟩ := mn1 r
    rw [dp_str h]
    exact ⟨z, n, rfl, hz, hl, q _ B H (.same hB) (Dp.int _)⟩) (by decide) (by decide) he rfl
/-- a sign in a text -/
theorem gc_inSign {c : Nat} {z : Str} (ha : Go X Γ a (.str ⟨#[c]⟩)) (hb : Go X Γ b (.str z)) : GoC X Γ .In a b (decide (c ∈ z.cps.toList)) := go_cmp2 op_in_sign ha hb (fun v w B H hB r1 r2 Q q => ⟨c, z, dp_str r1, dp_str r2, q⟩)
/-- a part of a text -/
theorem go_slS {lo hi : Option Expr} {z : Str} {x y : Option Int} {p2 : Pos} (ha : Go X Γ a (.str z)) (hl : GoO X Γ lo x) (hh : GoO X Γ hi y) (hz : z.length ≤ sizeLine) : Go X Γ (.Subscript a (.Slice lo hi none p2) pos) (.str (cutS z x y)) := .mk fun σ B H Fs E Q q =>
  toE (pe_slice sl_str sE sO sO) (ha σ B H Fs E _ fun v B1 H1 n1 r1 => goO_run hl (E.nw n1) fun B2 H2 n2 => goO_run hh ((E.nw n1).nw n2) fun B3 H3 n3 => by
    rw [dp_str r1]
    exact ⟨z, rfl, hz, q _ B3 H3 ((n1.trans n2).trans n3) (Dp.str _)⟩)
end
end PL

set_option maxHeartbeats 4000000
namespace PL
open PySem PySem.Spec PyProof.Rows L2
/-! ### dicts of data by texts, not changed any more -/
inductive DcR (K : PySem.W.Frag) (B : Hp) : List (Key × V) → List (Str × D) → Prop
  | nil : DcR K B [] []
  | cons {x : Str} {v : V} {d : D} {vs : List (Key × V)} {ds : List (Str × D)} : Dp K B v d → DcR K B vs ds → DcR K B ((Sum.inr x, v) :: vs) ((x, d) :: ds)
section
variable {K : PySem.W.Frag} {B B' : Hp} {vs : List (Key × V)} {ds : List (Str × D)}
theorem DcR.up (e : Ex B B') : ∀ {vs : List (Key × V)} {ds : List (Str × D)}, DcR K B vs ds → DcR K B' vs ds
  | _, _, .nil => .nil
  | _, _, .cons h t => .cons (dpUp e h) (DcR.up e t)
theorem DcR.len : ∀ {vs : List (Key × V)} {ds : List (Str × D)}, DcR K B vs ds → vs.length = ds.length
  | _, _, .nil => rfl
  | _, _, .cons _ t => by rw [List.length_cons, List.length_cons, t.len]
theorem DcR.keys : ∀ {vs : List (Key × V)} {ds : List (Str × D)}, DcR K B vs ds → vs.map (·.1) = (ds.map (·.1)).map Sum.inr
  | _, _, .nil => rfl
  | _, _, .cons _ t => by
    rw [List.map_cons, List.map_cons, List.map_cons, t.keys]
def getD' (ds : List (Str × D)) (k : Str) : Option D := (ds.find? fun p => decide (p.1 = k)).map (·.2)
theorem inr_iff {x k : Str} : ((Sum.inr x : Key) = Sum.inr k) ↔ x = k := ⟨fun e => Sum.inr.inj e, fun e => by rw [e]⟩
theorem DcR.val (k : Str) : ∀ {vs : List (Key × V)} {ds : List (Str × D)}, DcR K B vs ds → (∀ d, getD' ds k = some d → ∃ v, valV vs (Sum.inr k : Key) = some v ∧ Dp K B v d) ∧ (getD' ds k = none → valV vs (Sum.inr k : Key) = none)
  | _, _, .nil => ⟨fun d h => (nomatch h), fun _ => rfl⟩
  | (_, v0) :: vs, (_, d0) :: ds, .cons (x := x) h t => by
    have ih := DcR.val k t
    by_cases e : x = k
    · subst e
      refine ⟨fun d hd => ?_, fun hd => ?_⟩
      · have : d0 = d := by simpa [getD', List.find?_cons] using hd
        subst this
        exact ⟨v0, valV_pos rfl, h⟩
      · simp [getD', List.find?_cons] at hd
    · have e1 : getD' ((x, d0) :: ds) k = getD' ds k := by simp [getD', List.find?_cons, e]
      rw [e1, valV_neg (fun z => e (inr_iff.mp z))]
      exact ih
def putD (ds : List (Str × D)) (k : Str) (d : D) : List (Str × D) := if (ds.any fun p => decide (p.1 = k)) = true then ds.map (fun p => if p.1 = k then (p.1, d) else p) else ds ++ [(k, d)]
theorem DcR.app : ∀ {vs ws : List (Key × V)} {ds es : List (Str × D)}, DcR K B vs ds → DcR K B ws es → DcR K B (vs ++ ws) (ds ++ es)
  | _, _, _, _, .nil, s => s
  | _, _, _, _, .cons h t, s => .cons h (DcR.app t s)
theorem DcR.any (k : Str) : ∀ {vs : List (Key × V)} {ds : List (Str × D)}, DcR K B vs ds → (vs.any fun kv => decide (kv.1 = (Sum.inr k : Key))) = ds.any fun p => decide (p.1 = k)
  | _, _, .nil => rfl
  | _, _, .cons h t => by
    rw [List.any_cons, List.any_cons, DcR.any k t]
    exact congrArg (· || _) (decide_eq_decide.mpr inr_iff)
theorem DcR.mapP {k : Str} {v : V} {d : D} (h : Dp K B v d) : ∀ {vs : List (Key × V)} {ds : List (Str × D)}, DcR K B vs ds → DcR K B (vs.map fun kv => if kv.1 = (Sum.inr k : Key) then (kv.1, v) else kv) (ds.map fun p => if p.1 = k then (p.1, d) else p)
  | _, _, .nil => .nil
  | (_, v0) :: vs, (_, d0) :: ds, .cons (x := x) g t => by
    rw [List.map_cons, List.map_cons]
    by_cases e : x = k
    · rw [if_pos (inr_iff.mpr e), if_pos e]
      exact .cons h (DcR.mapP h t)
    · rw [if_neg (fun z => e (inr_iff.mp z)), if_neg e]
      exact .cons g (DcR.mapP h t)
theorem DcR.put {k : Str} {v : V} {d : D} (h : Dp K B v d) (r : DcR K B vs ds) : DcR K B (putK vs (Sum.inr k : Key) v) (putD ds k d) := by
  unfold putK putD
  rw [r.any k]
  split
  · exact r.mapP h
  · exact r.app (.cons h .nil)
end
/-- a dict of data by texts -/
def dctP (ds : List (Str × D)) : Mn := ⟨fun K B v => ∃ a vs, v = .ref a ∧ B a = some (.dK vs) ∧ DcR K B vs ds, fun e ⟨a, vs, h1, h2, h3⟩ => ⟨a, vs, h1, e _ _ h2, h3.up e⟩⟩
def putsD (ds : List (Str × D)) (l : List (Str × D)) : List (Str × D) := l.foldl (fun acc p => putD acc p.1 p.2) ds
theorem putD_new {ds : List (Str × D)} {k : Str} {d : D} (h : k ∉ ds.map (·.1)) : putD ds k d = ds ++ [(k, d)] := by
  unfold putD
  rw [if_neg]
  intro z
  obtain ⟨p, hp, e⟩ := List.any_eq_true.mp z
  exact h (List.mem_map.mpr ⟨p, hp, of_decide_eq_true e⟩)
theorem putsD_new : ∀ {l ds : List (Str × D)}, ((ds ++ l).map (·.1)).Nodup → putsD ds l = ds ++ l
  | [], ds, _ => (List.append_nil ds).symm
  | p :: l, ds, h => by
    have hn : p.1 ∉ ds.map (·.1) := by
      rw [List.map_append, List.map_cons] at h
      exact fun z => (List.nodup_append.mp h).2.2 _ z _ List.mem_cons_self rfl
    show putsD (putD ds p.1 p.2) l = _
    have e : ds ++ p :: l = (ds ++ [(p.1, p.2)]) ++ l := by rw [List.append_assoc]; rfl
    rw [putD_new hn, e]
    exact putsD_new (by rw [← e]; exact h)
theorem getD'_mem {ds : List (Str × D)} (h : (ds.map (·.1)).Nodup) {k : Str} {d : D} (hm : (k, d) ∈ ds) : getD' ds k = some d := by
  induction ds with
  | nil => cases hm
  | cons p l ih =>
    rw [List.map_cons] at h
    obtain ⟨h1, h2⟩ := List.nodup_cons.mp h
    rcases List.mem_cons.mp hm with e | e
    · subst e
      simp [getD', List.find?_cons]
    · have hne : p.1 ≠ k := fun z => h1 (z ▸ List.mem_map.mpr ⟨_, e, rfl⟩)
      have : getD' (p :: l) k = getD' l k := by simp [getD', List.find?_cons, hne]
      rw [this]
      exact ih h2 e
theorem rising_le : ∀ (l : List Str) (p : Str), risingS p l = true → (∀ x ∈ l, leS p x = true) ∧ l.Pairwise fun a b => leS a b = true
  | [], p, _ => ⟨fun x h => (nomatch h), .nil⟩
  | y :: r, p, h => by
    have h' : (!ltCps y.cps.toList p.cps.toList && risingS y r) = true := h
    rw [Bool.and_eq_true] at h'
    obtain ⟨ih1, ih2⟩ := rising_le r y h'.2
    have h1 : leS p y = true := by
      have q := h'.1
      rw [ltCps_eq, Bool.not_eq_true'] at q
      exact decide_eq_true (List.not_lt.mp (of_decide_eq_false q))
    refine ⟨fun x hx => ?_, List.pairwise_cons.mpr ⟨ih1, ih2⟩⟩
    rcases List.mem_cons.mp hx with e | e
    · rw [e]
      exact h1
    · exact leS_trans _ _ _ h1 (ih1 x e)
theorem sortedS_pw : ∀ (l : List Str), sortedS l = true → l.Pairwise fun a b => leS a b = true
  | [], _ => .nil
  | x :: r, h => List.pairwise_cons.mpr (rising_le r x h)
section
variable {X : Cx} {J : Jd} {N : Nd} {Γ : Ga} {a b e f tg iter kx vx : Expr} {P : Mn} {d z : D} {ds : List (Str × D)} {k : Str} {pos : Pos}
/-- a new thing, frozen -/
theorem goP_of_U {W : Ow} (h : GoU X Γ e W) (hz : FzM W P) : GoP X Γ e P := .mk fun σ B H Fs E Q q => h σ B H Fs E Q fun v F B2 H2 n hv hF => by
  have hb : ∀ a ∈ F, B2 a = none := fun a ha => (hF a ha).2
  refine q v _ H2 ⟨n.bb.trans (ovl_ex hb), ovl_exH n.bh, n.hh, fun a h1 h2 => ?_⟩ (hz _ _ _ _ _ hv hb)
  by_cases w : a ∈ F
  · exact absurd (hF a w).1 h2
  · rw [ovl_out w]
    exact n.nu a h1 h2
theorem go_dctIx (hu : UOk X) (ha : GoP X Γ a (dctP ds)) (hb : Go X Γ b (.str k)) (hk : getD' ds k = some d) (hs : NoSl b := by exact fun _ _ => rfl) : Go X Γ (.Subscript a b pos) d := .mk fun σ B H Fs E Q q =>
  toE (pe_dget (by have := hu.u65; omega) sE sE hs) (ha σ B H Fs E _ fun v B1 H1 n1 r1 => hb σ B1 H1 Fs (E.nw n1) _ fun w B2 H2 n2 r2 => by
    obtain ⟨p, vs, rfl, h2, h3⟩ := (dctP ds).up n2.bb r1
    obtain ⟨u, h4, h5⟩ := (h3.val k).1 d hk
    rw [dp_str r2]
    have g := DGet.k (k := (Sum.inr k : Key)) (n2.bh _ _ h2)
    rw [h4] at g
    exact ⟨p, u, rfl, g, q u B2 H2 (n1.trans n2) h5⟩)
theorem go_dctGet {apos : Pos} (hu : UOk X) (ha : GoP X Γ a (dctP ds)) (hb : Go X Γ e (.str k)) (hc : Go X Γ f z) (m1 : attributeBase a "get" X.env (eval a X.env) = eval a X.env := by rfl)
    (m2 : ((backTo pos (starEach [e, f] X.env)).all (fun x => !x.1) && (backToKw pos (keywordEach [] X.env)).all (fun x => x.1.isSome)
    && decide (([e, f] : List Expr).length + ([] : List Keyword).length + (if ([] : List Keyword).isEmpty then 0 else 1) < 30)) = true := by rfl)
    (m3 : (apos.endLine == pos.line) = true := by rfl) (m4 : backTo pos (starEach [e, f] X.env) = [(false, eval e X.env), (false, eval f X.env)] := by rfl) :
    Go X Γ (.Call (.Attribute a "get" apos) [e, f] [] pos) ((getD' ds k).getD z) := .mk fun σ B H Fs E Q q =>
  toE (pe_dget2 (by have := hu.u65; omega) sE sE sE ⟨m1, m2, m3, m4⟩) (ha σ B H Fs E _ fun v B1 H1 n1 r1 => by
    obtain ⟨p, vs, rfl, h2, h3⟩ := r1
    refine ⟨p, rfl, .inl ⟨vs, .of (n1.bh _ _ h2)⟩, hb σ B1 H1 Fs (E.nw n1) _ fun w B2 H2 n2 r2 => hc σ B2 H2 Fs ((E.nw n1).nw n2) _ fun y B3 H3 n3 r3 => ?_⟩
    have n := (n1.trans n2).trans n3
    have h3' := h3.up (n2.bb.trans n3.bb)
    have g := DGet.k (k := (Sum.inr k : Key)) (n3.bh _ _ ((n2.bb.trans n3.bb) _ _ h2))
    rw [dp_str r2]
    refine ⟨_, g, ?_⟩
    cases hk : getD' ds k with
    | none =>
      rw [(h3'.val k).2 hk]
      rw [hk] at q
      exact q y B3 H3 n r3
    | some d =>
      obtain ⟨u, h4, h5⟩ := (h3'.val k).1 d hk
      rw [h4]
      rw [hk] at q
      exact q u B3 H3 n h5)
theorem goc_dctIn (hu : UOk X) (hb : Go X Γ b (.str k)) (ha : GoP X Γ a (dctP ds)) : GoC X Γ .In b a (getD' ds k).isSome := .mk fun σ B H Fs E Q q =>
  toC (pc_din (by have := hu.u65; omega) sE sE) (hb σ B H Fs E _ fun w B1 H1 n1 r1 => ha σ B1 H1 Fs (E.nw n1) _ fun v B2 H2 n2 r2 => by
    obtain ⟨p, vs, rfl, h2, h3⟩ := r2
    have g := DGet.k (k := (Sum.inr k : Key)) (n2.bh _ _ h2)
    rw [dp_str r1]
    refine ⟨p, _, rfl, g, ?_⟩
    have hv := h3.val k
    cases hk : getD' ds k with
    | none =>
      rw [hv.2 hk]
      rw [hk] at q
      exact q B2 H2 (n1.trans n2)
    | some d =>
      obtain ⟨u, h4, h5⟩ := hv.1 d hk
      rw [h4]
      rw [hk] at q
      exact q B2 H2 (n1.trans n2))
/-! a dict written out -/
inductive GoPr (X : Cx) (Γ : Ga) : List (Option Expr) → List Expr → List (Str × D) → Prop
  | nil : GoPr X Γ [] [] []
  | cons {e f : Expr} {k : Str} {d : D} {ks : List (Option Expr)} {vs : List Expr} {ds : List (Str × D)} : Go X Γ e (.str k) → Go X Γ f d → GoPr X Γ ks vs ds → GoPr X Γ (some e :: ks) (f :: vs) ((k, d) :: ds)
def prT (X : Cx) : List (Option Expr) → List Expr → List (TE × TE)
  | some e :: ks, f :: vs => (wpE X e, wpE X f) :: prT X ks vs
  | _, _ => []
theorem GoPr.pps {ks : List (Option Expr)} {vs : List Expr} (h : GoPr X Γ ks vs ds) : PPs X pos ks vs (prT X ks vs) ∧ ks.all (·.isSome) = true ∧ ks.length = vs.length ∧ ks.length = ds.length := by
  induction h with
  | nil => exact ⟨pps_nil, rfl, rfl, rfl⟩
  | cons _ _ _ ih => exact ⟨pps_cons sE sE ih.1, by simpa using ih.2.1, by simpa using ih.2.2.1, by simpa using ih.2.2.2⟩
theorem GoPr.run {ks : List (Option Expr)} {vs : List Expr} (h : GoPr X Γ ks vs ds) : ∀ {σ B H Fs}, En X.K B H σ Γ Fs → ∀ Q : List (V × V) → Hp → Prop, (∀ ws B2 H2, Nw B H B2 H2 → DcR X.K B2 ws ds → Q (ws.map fun kv => (kV kv.1, kv.2)) H2) → tPairs (prT X ks vs) σ H Q := by
  induction h with
  | nil => exact fun {σ B H Fs} E Q q => q [] B H (.same E.bh) .nil
  | cons h1 h2 _ ih =>
    intro σ B H Fs E Q q
    refine h1 σ B H Fs E _ fun x B1 H1 n1 r1 => h2 σ B1 H1 Fs (E.nw n1) _ fun y B2 H2 n2 r2 => ih ((E.nw n1).nw n2) _ fun ws B3 H3 n3 r3 => ?_
    rw [dp_str r1]
    exact q ((Sum.inr _, y) :: ws) B3 H3 ((n1.trans n2).trans n3) (.cons (dpUp n3.bb r2) r3)
theorem dcr_merge {K : PySem.W.Frag} {B : Hp} : ∀ {ws : List (Key × V)} {es : List (Str × D)}, DcR K B ws es → ∀ {vs : List (Key × V)} {ds : List (Str × D)}, DcR K B vs ds → DcR K B (mergeK vs ws) (putsD ds es)
  | _, _, .nil, _, _, r => r
  | _, _, .cons h t, _, _, r => dcr_merge t (r.put h)
theorem goP_dct {ks : List (Option Expr)} {vs : List Expr} (h : GoPr X Γ ks vs ds) (h0 : ks ≠ [] := by exact fun z => nomatch z) (h15 : ks.length ≤ 15 := by decide) : GoP X Γ (.Dict ks vs pos) (dctP (putsD [] ds)) := .mk fun σ B H Fs E Q q => by
  obtain ⟨p1, p2, p3, p4⟩ := h.pps (pos := pos)
  refine toE (pe_disp p1 p2 p3 h0 h15) fun p hp => ?_
  have n0 : Nw B H B (upd H p (.dK [])) := .lay E.bh hp
  refine h.run (E.nw n0) _ fun ws B2 H2 n2 r2 => ?_
  have hH := n2.hh _ _ (upd_same (H := H) (a := p) (o := .dK []))
  have hl : ws.length ≤ 15 := by rw [r2.len, ← p4]; exact h15
  refine ⟨hH, ws, rfl, hl, ?_⟩
  have n7 := lay_nw (u := .dK (mergeK [] ws)) hp E.bh n2
  have hb : B2 p = none := n2.nu p (E.bh.none hp) (by rw [upd_same]; exact fun z => nomatch z)
  obtain ⟨e1, e2⟩ := Nw.ice n7.bh hb (upd_same (H := H2) (a := p) (o := .dK (mergeK [] ws)))
  refine q _ _ _ ⟨n7.bb.trans e1, e2, n7.hh, fun a h1 h2 => ?_⟩ ⟨p, mergeK [] ws, rfl, upd_same, (dcr_merge r2 .nil).up e1⟩
  have : a ≠ p := fun z => h2 (by rw [z]; exact hp)
  rw [upd_ne this]
  exact n7.nu a h1 h2
/-! sorted(d) -/
theorem goN_sortDct (hc : X.calm = true) (hm : X.mg "sorted" = none) (ha : GoP X Γ a (dctP ds)) (hl : ds.length < 64) (hg : Gl X "sorted" := by rfl) (he : starEach [a] X.env = (false, eval a X.env) :: starEach [] X.env := by rfl) {p : Pos} :
    GoN X Γ (.Call (.Name "sorted" p) [a] [] pos) ((sortS (ds.map (·.1))).map .str) :=
  goN_callB (call_sortedD hc) hg hm PyProof.Rows.boot_sorted (goA_cons ha goA_nil he) (fun vs B H hB r Q q => by
    obtain ⟨v, rfl, h⟩ := mn1 r
    obtain ⟨p, us, rfl, h3, h4⟩ := h
    refine ⟨p, us, ds.map (·.1), rfl, .of (hB _ _ h3), h4.keys, by rw [List.length_map]; exact hl, fun ys l hp hs hn => ?_⟩
    have e : ys = sortS (ds.map (·.1)) := by
      refine perm_sorted_eq (le := leS) leS_anti (hp.trans (sortS_perm _).symm) (sortedS_pw ys hs) (sortS_pw _)
    rw [e]
    exact q l _ hn (dps_strs _)) (by decide) (by decide) he rfl
/-! {k: v for .. in ..} -/
abbrev dcRd (X : Cx) (scope : Scope) (tg : Expr) (ifs : List Expr) (kx vx : Expr) (iter : Expr) (vs : List Nat) : TE :=
  tDc (wpI X tg iter) (fun v σ H Q => Blk X scope fun X' => wpG X' tg v σ H Q) (fun σ H Q => Blk X scope fun X' => wpTs X' ifs σ H Q) (fun σ H Q => Blk X scope fun X' => wpE X' kx σ H Q) (fun σ H Q => Blk X scope fun X' => wpE X' vx σ H Q) vs
theorem putsD_snoc (ds l : List (Str × D)) (p : Str × D) : putsD ds (l ++ [p]) = putD (putsD ds l) p.1 p.2 := by
  unfold putsD
  rw [List.foldl_append]
  rfl
theorem putD_len (ds : List (Str × D)) (k : Str) (d : D) : (putD ds k d).length ≤ ds.length + 1 := by
  unfold putD
  split
  · rw [List.length_map]
    omega
  · rw [List.length_append]
    exact Nat.le_refl _
theorem putsD_len : ∀ (l ds : List (Str × D)), (putsD ds l).length ≤ ds.length + l.length
  | [], ds => Nat.le_refl _
  | p :: l, ds => by
    have h := putsD_len l (putD ds p.1 p.2)
    have h2 := putD_len ds p.1 p.2
    show (putsD (putD ds p.1 p.2) l).length ≤ ds.length + (l.length + 1)
    omega
theorem dc_run {scope : Scope} {vs : List Nat} {α : Type} {xs : List α} {enc : α → D} (kf : α → Str) (f : α → D) (hi : GoI X Γ tg iter (xs.map enc)) (hz : xs.length < 1000000)
    (body : ∀ (k : Nat) x, xs[k]? = some x → ∃ Γ' ts, (∀ t ∈ ts, t ∈ vs) ∧ (Blk X scope fun X' => GoG X' (wipeG Γ vs) tg (enc x) Γ' ts) ∧ (Blk X scope fun X' => Go X' Γ' kx (.str (kf x))) ∧ (Blk X scope fun X' => Go X' Γ' vx (f x)))
    {σ B H Fs} (E : En X.K B H σ Γ Fs) (Q : VK)
    (q : ∀ l us B2 H2, Nw B H B2 H2 → H l = none → B2 l = none → H2 l = some (.dK us) → DcR X.K B2 us (putsD [] (xs.map fun x => (kf x, f x))) → Q (.ref l) H2) : dcRd X scope tg [] kx vx iter vs σ H Q := by
  refine hi σ B H Fs E _ fun I B1 H1 n1 it => ?_
  intro Dl hDl
  have E1 := E.nw n1
  have hl : (xs.map enc).length = xs.length := List.length_map _
  refine ⟨fun i m H' => m = xs.length - i ∧ i ≤ xs.length ∧ ∃ B' acc, Nw B1 H1 B' H' ∧ B' Dl = none ∧ H' Dl = some (.dK acc) ∧ DcR X.K B' acc (putsD [] ((xs.take i).map fun x => (kf x, f x))),
    ⟨xs.length, by omega, Nat.zero_le _, B1, [], .lay n1.bh hDl, n1.bh.none hDl, upd_same, by rw [List.take_zero]; exact .nil⟩, ?_⟩
  rintro i m H' ⟨rfl, hi', B', acc, n', hb, hH, hd⟩
  by_cases hlt : i < xs.length
  · refine .inr ⟨it.go i H' (by rw [hl]; exact hlt) (n'.bb.trans n'.bh), fun H' => i + 1 ≤ xs.length ∧ ∃ B' acc, Nw B1 H1 B' H' ∧ B' Dl = none ∧ H' Dl = some (.dK acc) ∧ DcR X.K B' acc (putsD [] ((xs.take (i + 1)).map fun x => (kf x, f x))), fun H' pp => ⟨xs.length - (i + 1), by omega, rfl, pp⟩, fun x H'' y => ?_⟩
    have ge : (xs.map enc)[i]? = some (enc xs[i]) := by
      rw [List.getElem?_map, List.getElem?_eq_getElem hlt]
      rfl
    obtain ⟨B2, n2, r2⟩ := it.yld i H' x H'' B' _ ge n'.bb n'.bh y
    obtain ⟨Γ', ts, hts, hg, hk, he⟩ := body i xs[i] (List.getElem?_eq_getElem hlt)
    have E2 : En X.K B2 H'' (wipe σ vs) (wipeG Γ vs) Fs := ((E1.nw n').nw n2).wipe vs
    have acl : acc.length < sizeLine := by
      rw [hd.len]
      refine Nat.lt_of_le_of_lt (putsD_len _ _) (ltZ ?_)
      rw [List.length_map, List.length_take, List.length_nil]
      omega
    have eT : xs.take (i + 1) = xs.take i ++ [xs[i]] := by rw [List.take_succ_eq_append_getElem hlt]
    intro s0 H0 C0 cl0 fp0
    refine hg s0 H0 C0 cl0 fp0 (wipe σ vs) B2 H'' Fs x E2 r2 _ fun σ2 F2 E3 sb hw => ⟨(hw vs hts).trans (wipe_wipe vs), ?_⟩
    intro s1 H1' C1 cl1 fp1
    refine (goTs_nil (X := X.blk s1 H1' scope (compEnvC scope cl1 C1 X.env) fp1) (Γ := Γ')) σ2 B2 H'' F2 E3 _ fun B4 H4 n4 => ?_
    have dk : B4 Dl = none := n4.nu Dl (n2.nu Dl hb (by rw [hH]; exact fun z => nomatch z)) (by rw [n2.hh Dl _ hH]; exact fun z => nomatch z)
    have dH : H4 Dl = some (.dK acc) := n4.hh Dl _ (n2.hh Dl _ hH)
    have nAll := (n'.trans n2).trans n4
    refine iteT ?_
    intro s2 H2' C2 cl2 fp2
    refine hk s2 H2' C2 cl2 fp2 σ2 B4 H4 F2 (E3.nw n4) _ fun y' B5 H5 n5 r5 => ?_
    intro s3 H3' C3 cl3 fp3
    refine he s3 H3' C3 cl3 fp3 σ2 B5 H5 F2 ((E3.nw n4).nw n5) _ fun z' B6 H6 n6 r6 => ?_
    have n56 := n5.trans n6
    have d5 : B6 Dl = none := n56.nu Dl dk (by rw [dH]; exact fun z => nomatch z)
    have dH5 : H6 Dl = some (.dK acc) := n56.hh Dl _ dH
    have n7 := nAll.trans n56
    refine ⟨acc, Sum.inr (kf xs[i]), dp_str r5, dH5, acl, hlt, B6, putK acc (Sum.inr (kf xs[i]) : Key) z', ⟨n7.bb, fun a u e => ?_, fun a u e => ?_, n7.nu⟩, d5, upd_same, ?_⟩
    · rw [upd_ne (ne_of_none e d5)]
      exact n7.bh a u e
    · rw [upd_ne (ne_of_none e hDl)]
      exact n7.hh a u e
    · rw [eT, List.map_append, List.map_cons, List.map_nil, putsD_snoc]
      exact (hd.up ((n2.bb.trans n4.bb).trans n56.bb)).put r6
  · have e : i = xs.length := by omega
    subst e
    rw [List.take_length] at hd
    refine .inl ⟨by rw [← hl]; exact it.stop H' (n'.bb.trans n'.bh), q Dl acc B' H' (n1.trans n') (n1.hh.none hDl) hb hH hd⟩
theorem goP_dc {scope : Scope} {α : Type} {xs : List α} {enc : α → D} {kf : α → Str} {f : α → D} (own : List (Str × Nat)) (hc : X.calm = true) (hN : X.N.Nodup) (hi : GoI X Γ tg iter (xs.map enc))
    (body : ∀ (k : Nat) x, xs[k]? = some x → ∃ Γ' ts, (Blk X scope fun X' => GoG X' (wipeG Γ (own.map (·.2))) tg (enc x) Γ' ts) ∧ (Blk X scope fun X' => Go X' Γ' kx (.str (kf x))) ∧ (Blk X scope fun X' => Go X' Γ' vx (f x)) ∧ (∀ t ∈ ts, t ∈ own.map (·.2)))
    (ok : blkC X.N X.env.scope scope own = true) (hz : xs.length < 1000000 := by walk_at "pside") (hs : ∀ x, foldedSetIterable iter X.env x = pure x := by intro _; rfl) :
    GoP X Γ (.DictComp kx vx [⟨tg, iter, [], 0⟩] scope pos) (dctP (putsD [] (xs.map fun x => (kf x, f x)))) := .mk fun σ B H Fs E Q q =>
  toE (pe_dc (own := own) hc hN sI (blkOk_by ok) (fun s H C cl fp => ⟨fun pins s' σ H v u Q I r h => (h s _ C cl fp) pins s' u I r⟩) (fun s H C cl fp => ⟨fun pins s' σ H Q I h => (h s _ C cl fp) pins s' I⟩) (fun s H C cl fp => ⟨fun pins s' σ H Q I h => (h s _ C cl fp) pins s' I⟩) (fun s H C cl fp => ⟨fun pins s' σ H Q I h => (h s _ C cl fp) pins s' I⟩) hs)
    (dc_run kf f hi hz (fun k x hx => let ⟨Γ', ts, h1, h2, h3, h4⟩ := body k x hx; ⟨Γ', ts, h4, h1, h2, h3⟩) E Q fun l us B2 H2 n hl hb hH hd => by
      obtain ⟨e1, e2⟩ := Nw.ice n.bh hb hH
      refine q _ _ _ ⟨n.bb.trans e1, e2, n.hh, fun a h1 h2 => ?_⟩ ⟨l, us, rfl, upd_same, hd.up e1⟩
      have : a ≠ l := fun z => h2 (by rw [z]; exact hl)
      rw [upd_ne this]
      exact n.nu a h1 h2)
/-! ### constants of the module -/
def GlobD (K : PySem.W.Frag) (mg : Str → Option Value) (x : Str) (d : D) : Prop := ∃ u v, mg x = some u ∧ RelV v u ∧ ∀ H, Dp K H v d
theorem go_gcon {x : Str} (T : GlobD X.K X.mg x d) (hg : Gl X x := by rfl) (hd : (x == ("__debug__" : Str)) = false := by decide) : Go X Γ (.Name x pos) d := .mk fun σ B H Fs E Q q => by
  obtain ⟨u, v, hm, r, h⟩ := T
  exact toE (pe_glob hg hm r hd) (q v B H (.same E.bh) (h B))
theorem globS {K : PySem.W.Frag} {mg : Str → Option Value} {x y : Str} {t : Tok} (h : mg x = some (.str y t)) : GlobD K mg x (.str y) := ⟨_, .str y, h, ⟨t, rfl⟩, fun _ => Dp.str y⟩
theorem globI {K : PySem.W.Frag} {mg : Str → Option Value} {x : Str} {y : Int} {t : Tok} (h : mg x = some (.int y t)) : GlobD K mg x (.int y) := ⟨_, .int y, h, ⟨t, rfl⟩, fun _ => Dp.int y⟩
end
end PL

set_option maxHeartbeats 4000000
namespace PL
open PySem PySem.Spec PyProof.Rows L2
/-! ### errors of any kind -/
/-- an error: its class, and what is told of it -/
structure Er where
  x : Str
  p : Hp → Option Addr → Hp → Prop
  mono : ∀ {H0 H H2 : Hp} {d : Option Addr}, Ex H0 H → p H d H2 → p H0 d H2
/-- without fields -/
def er0 (x : Str) : Er := ⟨x, fun H d H2 => Ex H H2 ∧ d = none, fun e ⟨h1, h2⟩ => ⟨e.trans h1, h2⟩⟩
/-- with one field -/
def erF (x f : Str) (v : V) : Er := ⟨x, fun H d H2 => Ex H H2 ∧ ∃ a, d = some a ∧ H a = none ∧ H2 a = some (.xd [(f, v)]), fun e ⟨h1, a, h2, h3, h4⟩ => ⟨e.trans h1, a, h2, e.none h3, h4⟩⟩
def spE (K : PySem.W.Frag) (S : List Mn → Er → Prop) : Sp := fun vs H _ E => ∃ (Ps : List Mn) (r : Er) (B : Hp), S Ps r ∧ Ex B H ∧ MnAll K B vs Ps ∧ ∀ C d H2, ClsAt K r.x C → r.p H d H2 → E (.ref C) d H2
def WishE (K : PySem.W.Frag) (J : Jd) (E : XK) (r : Er) : Prop := ∀ C d H2, ClsAt K r.x C → r.p J.H d H2 → E (.ref C) d H2
section
variable {P : Program} {w : World} {K : PySem.W.Frag} {mg : Str → Option Value} {base : Heap}
/-- a def that may raise -/
theorem fX_ok {x : Str} {st : Stmt} {L ps : List Str} {k : Nat} {S : List Mn → Mn → Prop} {S2 : List Mn → Er → Prop} (Df : Dfn K mg x st ps) (Sc : FnScope L ps (defScope st)) (hl : ∀ Ps R, S Ps R → Ps.length = ps.length) (hl2 : ∀ Ps r, S2 Ps r → Ps.length = ps.length)
    (body : ∀ Ps R, S Ps R → ∀ (f : Addr) (cdv : Value) (A : Around) (outer : List Env) (s : Shared) (H : Hp) (E : XK), Room k (A.deeper (envOfC x (defScope st) s.heap.objs.size f cdv)) → ∀ J : Jd, J.S = [] →
      Rn (cxOf (L2.CX P w) P w K mg base L x (defScope st) f cdv A outer s H E).nox J { nx := fun _ => ∀ K B, R.p K B .non, rt := R } (entry Ps L.length) (defBody st))
    (body2 : ∀ Ps r, S2 Ps r → ∀ (f : Addr) (cdv : Value) (A : Around) (outer : List Env) (s : Shared) (H : Hp) (E : XK), Room k (A.deeper (envOfC x (defScope st) s.heap.objs.size f cdv)) → ∀ J : Jd, J.S = [] → J.M = [] → WishE K J E r →
      Rn (cxOf (L2.CX P w) P w K mg base L x (defScope st) f cdv A outer s H E) J { nx := fun _ => False, rt := botM } (entry Ps L.length) (defBody st)) : CalF P w K mg base (L2.CX P w) x ps (k + 1) (orSp (spS K S) (spE K S2)) := by
  obtain ⟨f, fd, F, m, b⟩ := Df.ex
  refine ⟨f, fd, F.okX Sc (fun vs H Q E h => ?_) fun cdv A outer s H vs Q E hr h => ?_, m, F.kp, b⟩
  · rcases h with ⟨Ps, R, B, hS, _, h, _⟩ | ⟨Ps, r, B, hS, _, h, _⟩
    · rw [mn_len h, hl _ _ hS]
    · rw [mn_len h, hl2 _ _ hS]
  · rcases h with ⟨Ps, R, B, hS, hB, hv, q⟩ | ⟨Ps, r, B, hS, hB, hv, q⟩
    · exact ⟨_, sSs.nox, end_S rfl q (body Ps R hS f cdv A outer s H E hr ⟨H, [], []⟩ rfl B (L2.start L vs) B H (fun _ => []) (en_entry hB hv) jn_entry)⟩
    · refine ⟨_, sSs, wpSs_mono (body2 Ps r hS f cdv A outer s H E hr ⟨H, [], []⟩ rfl rfl q B (L2.start L vs) B H (fun _ => []) (en_entry hB hv) jn_entry) ?_ ?_ ?_ ?_⟩
      · exact fun σ' H' ⟨B', Γ', Fs', e, j, n⟩ => n.elim
      · exact fun v H' ⟨σ', B', Γ', Fs', e, j, _, r⟩ => (show False from r).elim
      · exact fun σ' H' ⟨B', Γ', Fs', e, j, n⟩ => n.elim
      · exact fun σ' H' ⟨B', Γ', Fs', e, j, n⟩ => n.elim
/-- a method that may raise -/
theorem mE_ok {own m qual : Str} {st : Stmt} {L ps : List Str} {k : Nat} {S : List Mn → Mn → Prop} {S2 : List Mn → Er → Prop} (Mt : Mtd K own m qual st ps) (Sc : FnScope L ps (defScope st)) (hl : ∀ Ps R, S Ps R → Ps.length = ps.length) (hl2 : ∀ Ps r, S2 Ps r → Ps.length = ps.length)
    (body : ∀ Ps R, S Ps R → ∀ (f : Addr) (cdv : Value) (A : Around) (outer : List Env) (s : Shared) (H : Hp) (E : XK), Room k (A.deeper (envOfC qual (defScope st) s.heap.objs.size f cdv)) → ∀ J : Jd, J.S = [] →
      Rn (cxOf (L2.CX P w) P w K mg base L qual (defScope st) f cdv A outer s H E).nox J { nx := fun _ => ∀ K B, R.p K B .non, rt := R } (entry Ps L.length) (defBody st))
    (body2 : ∀ Ps r, S2 Ps r → ∀ (f : Addr) (cdv : Value) (A : Around) (outer : List Env) (s : Shared) (H : Hp) (E : XK), Room k (A.deeper (envOfC qual (defScope st) s.heap.objs.size f cdv)) → ∀ J : Jd, J.S = [] → J.M = [] → WishE K J E r →
      Rn (cxOf (L2.CX P w) P w K mg base L qual (defScope st) f cdv A outer s H E) J { nx := fun _ => False, rt := botM } (entry Ps L.length) (defBody st)) : CalM P w K mg base (L2.CX P w) own m ps (k + 1) (orSp (spS K S) (spE K S2)) := by
  obtain ⟨C, g, fd, h1, h2, h3, F, b⟩ := Mt.ex
  refine ⟨C, g, fd, h1, h2, h3, F.okX Sc (fun vs H Q E h => ?_) fun cdv A outer s H vs Q E hr h => ?_, b⟩
  · rcases h with ⟨Ps, R, B, hS, _, h, _⟩ | ⟨Ps, r, B, hS, _, h, _⟩
    · rw [mn_len h, hl _ _ hS]
    · rw [mn_len h, hl2 _ _ hS]
  · rcases h with ⟨Ps, R, B, hS, hB, hv, q⟩ | ⟨Ps, r, B, hS, hB, hv, q⟩
    · exact ⟨_, sSs.nox, end_S rfl q (body Ps R hS g cdv A outer s H E hr ⟨H, [], []⟩ rfl B (L2.start L vs) B H (fun _ => []) (en_entry hB hv) jn_entry)⟩
    · refine ⟨_, sSs, wpSs_mono (body2 Ps r hS g cdv A outer s H E hr ⟨H, [], []⟩ rfl rfl q B (L2.start L vs) B H (fun _ => []) (en_entry hB hv) jn_entry) ?_ ?_ ?_ ?_⟩
      · exact fun σ' H' ⟨B', Γ', Fs', e, j, n⟩ => n.elim
      · exact fun v H' ⟨σ', B', Γ', Fs', e, j, _, r⟩ => (show False from r).elim
      · exact fun σ' H' ⟨B', Γ', Fs', e, j, n⟩ => n.elim
      · exact fun σ' H' ⟨B', Γ', Fs', e, j, n⟩ => n.elim
/-! ### properties -/
structure MtdP (K : PySem.W.Frag) (own m qual : Str) (st : Stmt) (ps : List Str) : Prop where
  ex : ∃ C p g fd, ClsAt K own C ∧ Cls K C ∧ PropOf K C m p g ∧ Fun K m qual st g fd ∧ Binds K fd ps []
structure CalP (P : Program) (w : World) (K : PySem.W.Frag) (mg : Str → Option Value) (base : Heap) (own m : Str) (ps : List Str) (k : Nat) (S : List Mn → Mn → Prop) : Prop where
  ex : ∃ C p g fd, ClsAt K own C ∧ Cls K C ∧ PropOf K C m p g ∧ FnOk P w K mg base CX0 k g fd ps (spS K S) ∧ Binds K fd ps []
theorem mP_ok {own m qual : Str} {st : Stmt} {L ps : List Str} {k : Nat} {S : List Mn → Mn → Prop} (Mt : MtdP K own m qual st ps) (Sc : FnScope L ps (defScope st)) (hl : ∀ Ps R, S Ps R → Ps.length = ps.length)
    (body : ∀ Ps R, S Ps R → ∀ (f : Addr) (cdv : Value) (A : Around) (outer : List Env) (s : Shared) (H : Hp) (E : XK), Room k (A.deeper (envOfC qual (defScope st) s.heap.objs.size f cdv)) → ∀ J : Jd, J.S = [] →
      Rn (cxOf CX0 P w K mg base L qual (defScope st) f cdv A outer s H E).nox J { nx := fun _ => ∀ K B, R.p K B .non, rt := R } (entry Ps L.length) (defBody st)) : CalP P w K mg base own m ps (k + 1) S := by
  obtain ⟨C, p, g, fd, h1, h2, h3, F, b⟩ := Mt.ex
  refine ⟨C, p, g, fd, h1, h2, h3, F.ok Sc (fun vs H Q E h => ?_) fun cdv A outer s H vs Q E hr h => ?_, b⟩
  · obtain ⟨Ps, R, B, hS, _, h, _⟩ := h
    rw [mn_len h, hl _ _ hS]
  · obtain ⟨Ps, R, B, hS, hB, hv, q⟩ := h
    exact ⟨_, sSs, end_S rfl q (body Ps R hS g cdv A outer s H E hr ⟨H, [], []⟩ rfl B (L2.start L vs) B H (fun _ => []) (en_entry hB hv) jn_entry)⟩
end
section
variable {X : Cx} {J : Jd} {N : Nd} {Γ : Ga} {o e a : Expr} {es : List Expr} {st : Stmt} {sts rest body : List Stmt} {P R : Mn} {W : Ow} {d : D} {ds : List D} {pos apos p : Pos} {own m : Str} {ps : List Str} {j k : Nat} {pl : Sem Bool} {Ps : List (Str × Mn)} {Qs : List Mn} {Wx : WX} {r : Er}
theorem gx_prop {S : List Mn → Mn → Prop} (C : CalP X.prog X.w X.K X.mg X.base own m ps k S) (hr : Room j X.A) (hk : k + 1 ≤ j) (ho : GoP X Γ o (insP own Ps)) (hS : S [insP own Ps] R := by walk_at "pS") (hb : attributeBase o m X.env (eval o X.env) = eval o X.env := by rfl) : GoP X Γ (.Attribute o m pos) R := .mk fun σ B H Fs E Q q => by
  obtain ⟨C, pr, g, fd, h1, h2, h3, F, b⟩ := C.ex
  refine toE (pe_prop sE h2 h3 F (hr.mono hk) b .nil pass0 hb) (ho σ B H Fs E _ fun v B1 H1 n1 r1 => ?_)
  obtain ⟨C', a, dx, vs, e1, rfl, e3, e4⟩ := id r1
  cases h1.eq e1
  exact ⟨a, dx, vs, rfl, n1.bh _ _ e3, [insP own Ps], R, B1, hS, n1.bh, .cons r1 .nil, fun v B3 H3 n3 r3 => q v B3 H3 (n1.trans n3) r3⟩
/-! ### an expression that raises -/
structure GoE (X : Cx) (W : WX) (Γ : Ga) (e : Expr) (r : Er) : Prop where
  run : ∀ σ B H Fs, En X.K B H σ Γ Fs → (∀ C d H2, ClsAt X.K r.x C → r.p H d H2 → W (.ref C) d σ H2) → ∀ Q : VK, wpE X e σ H Q
structure GoEA (X : Cx) (W : WX) (Γ : Ga) (es : List Expr) (r : Er) : Prop where
  run : ∀ σ B H Fs, En X.K B H σ Γ Fs → (∀ C d H2, ClsAt X.K r.x C → r.p H d H2 → W (.ref C) d σ H2) → ∀ Q : List V → Hp → Prop, wpA X es σ H Q
theorem goea_here (he : GoE X Wx Γ e r) (hs : starEach (e :: es) X.env = (false, eval e X.env) :: starEach es X.env := by rfl) : GoEA X Wx Γ (e :: es) r := .mk fun σ B H Fs E hw Q =>
  toA (pa_cons sE (sA (es := es)) hs) (he.run σ B H Fs E hw _)
theorem goea_next (he : GoP X Γ e P) (ht : GoEA X Wx Γ es r) (hs : starEach (e :: es) X.env = (false, eval e X.env) :: starEach es X.env := by rfl) : GoEA X Wx Γ (e :: es) r := .mk fun σ B H Fs E hw Q =>
  toA (pa_cons sE sA hs) (he σ B H Fs E _ fun v B1 H1 n1 r1 => ht.run σ B1 H1 Fs (E.nw n1) (fun C d H2 h1 h2 => hw C d H2 h1 (r.mono n1.hh h2)) _)
theorem goe_th (i : Nat) (hΓ : Γ[i]? = some (.ob W)) (hz : FzM W P) (h : GoE X Wx (Γ.set i (.pr P)) e r) : GoE X Wx Γ e r := .mk fun σ B H Fs E hw Q => h.run σ _ H _ (E.iceM hΓ hz) hw Q
theorem goe_arg {x : Str} {sp : Sp} (C : CalF X.prog X.w X.K X.mg X.base CX0 x ps k sp) (hr : Room j X.A) (hk : k ≤ j) (ha : GoEA X Wx Γ (e :: es) r) (hg : Gl X x := by rfl) (hdb : (x == ("__debug__" : Str)) = false := by decide)
    (he : starEach (e :: es) X.env = (false, eval e X.env) :: starEach es X.env := by rfl) (hpl : (backTo pos (starEach es X.env)).any (·.1) = false := by rfl) : GoE X Wx Γ (.Call (.Name x p) (e :: es) [] pos) r := .mk fun σ B H Fs E hw Q => by
  obtain ⟨f, fd, F, m, kp, b⟩ := C.ex
  exact toE (pe_call (F.mono hk) hr hg m kp b .nil pass0 sA hdb he hpl) (ha.run σ B H Fs E hw _)
/-- a def is called that raises -/
theorem goe_call {x : Str} {sp : Sp} {S2 : List Mn → Er → Prop} (C : CalF X.prog X.w X.K X.mg X.base (L2.CX X.prog X.w) x ps k (orSp sp (spE X.K S2))) (tk : Takes X Wx) (hr : Room j X.A) (hk : k ≤ j) (ha : GoA X Γ (e :: es) Qs) (hS : S2 Qs r := by walk_at "pS") (hg : Gl X x := by rfl) (hdb : (x == ("__debug__" : Str)) = false := by decide)
    (he : starEach (e :: es) X.env = (false, eval e X.env) :: starEach es X.env := by rfl) (hpl : (backTo pos (starEach es X.env)).any (·.1) = false := by rfl) : GoE X Wx Γ (.Call (.Name x p) (e :: es) [] pos) r := .mk fun σ B H Fs E hw Q => by
  obtain ⟨f, fd, F, m, kp, b⟩ := C.ex
  exact toE (pe_callS (E := WE Wx) (F.mono hk) hr hg m kp b (passAt tk) sA hdb he hpl) (ha σ B H Fs E _ fun us B2 H2 n2 r2 => .inr ⟨Qs, r, B2, hS, n2.bh, r2, fun C d H3 h1 h2 => hw C d H3 h1 (r.mono n2.hh h2)⟩)
/-- a def that may raise is called where it does not -/
theorem gx_callE {x : Str} {S : List Mn → Mn → Prop} {S2 : List Mn → Er → Prop} (C : CalF X.prog X.w X.K X.mg X.base (L2.CX X.prog X.w) x ps k (orSp (spS X.K S) (spE X.K S2))) (hr : Room j X.A) (hk : k ≤ j) (ha : GoA X Γ (e :: es) Qs) (hS : S Qs R := by walk_at "pS") (hg : Gl X x := by rfl) (hdb : (x == ("__debug__" : Str)) = false := by decide)
    (he : starEach (e :: es) X.env = (false, eval e X.env) :: starEach es X.env := by rfl) (hpl : (backTo pos (starEach es X.env)).any (·.1) = false := by rfl) : GoP X Γ (.Call (.Name x p) (e :: es) [] pos) R := .mk fun σ B H Fs E Q q => by
  obtain ⟨f, fd, F, m, kp, b⟩ := C.ex
  exact toE (pe_call (F.mono hk) hr hg m kp b .nil passL sA hdb he hpl) (ha σ B H Fs E _ fun us B2 H2 n2 r2 => .inl ⟨Qs, R, B2, hS, n2.bh, by rw [List.append_nil]; exact r2, fun v B3 H3 n3 r3 => q v B3 H3 (n2.trans n3) r3⟩)
/-- a method that raises -/
theorem goe_meth {sp : Sp} {S2 : List Mn → Er → Prop} (C : CalM X.prog X.w X.K X.mg X.base (L2.CX X.prog X.w) own m ps k (orSp sp (spE X.K S2))) (tk : Takes X Wx) (hr : Room j X.A) (hk : k ≤ j) (ho : GoP X Γ o (insP own Ps)) (hm : Ps.lookup m = none) (ha : GoA X Γ (e :: es) Qs) (hS : S2 (insP own Ps :: Qs) r := by walk_at "pS")
    (hst : starEach (e :: es) X.env = (false, eval e X.env) :: starEach es X.env := by rfl) (hpl : (backTo pos (starEach es X.env)).any (·.1) = false := by rfl)
    (ht : eval (.Call (.Attribute o m apos) (e :: es) [] pos) X.env = (do
      let ov ← eval o X.env
      standAt apos.atName
      let (f, first) ← holding [ov] (getMethod ov m pl)
      callWith pos f first (backTo pos (starEach (e :: es) X.env)) (backToKw pos (keywordEach [] X.env))) := by rfl) : GoE X Wx Γ (.Call (.Attribute o m apos) (e :: es) [] pos) r := .mk fun σ B H Fs E hw Q => by
  obtain ⟨C, g, fd, h1, h2, h3, F, b⟩ := C.ex
  intro pins s I
  refine PySem.W.methodCall_KW (pl := pl) (thn ((sE (e := o)).run pins s σ H _ I (ho σ B H Fs E (fun v H1 => ∃ a dx vs, v = .ref a ∧ H1 a = some (.ins C dx vs) ∧ vs.lookup m = none ∧ wpA X (e :: es) σ H1 fun us H2 => orSp sp (spE X.K S2) (v :: us) H2 Q fun cls d H' => Wx cls d σ H') fun v B1 H1 n1 r1 => ?_)) fun u s1 ⟨x, H1, I1, rx, a, dx, vs, ex, ea, l, q⟩ => ?_) ht
  · obtain ⟨C', a, dx, vs, e1, rfl, e3, e4⟩ := lookO r1 hm
    cases h1.eq e1
    refine ⟨a, dx, vs, rfl, n1.bh _ _ e3, e4, ha σ B1 H1 Fs (E.nw n1) _ fun us B2 H2 n2 r2 => .inr ?_⟩
    exact ⟨_, _, B2, hS, n2.bh, .cons ((insP own Ps).up n2.bb r1) r2, fun C d H3 g1 g2 => hw C d H3 g1 (r.mono (n1.hh.trans n2.hh) g2)⟩
  · subst ex
    obtain rfl : u = Value.ref a := rx
    refine getmeth_ok I1 ea h2 h3 l ?_
    refine PySem.W.callWith_K (first := [.ref a]) (h₀ := X.base) I.ok.mod.kin h3.kp (thn (q pos pins s1 I1) fun us s2 ⟨vs, H2, I2, r, q2⟩ => ⟨I2.kIn, ?_⟩) hst hpl
    exact run_fnS (E := WE Wx) (us := .ref a :: us) (vs := .ref a :: vs) (F.mono hk) hr b (passAt tk σ) I2 (.cons rfl r) q2
theorem gx_methE {S : List Mn → Mn → Prop} {S2 : List Mn → Er → Prop} (C : CalM X.prog X.w X.K X.mg X.base (L2.CX X.prog X.w) own m ps k (orSp (spS X.K S) (spE X.K S2))) (hr : Room j X.A) (hk : k ≤ j) (ho : GoP X Γ o (insP own Ps)) (hm : Ps.lookup m = none) (ha : GoA X Γ (e :: es) Qs) (hS : S (insP own Ps :: Qs) R := by walk_at "pS")
    (hst : starEach (e :: es) X.env = (false, eval e X.env) :: starEach es X.env := by rfl) (hpl : (backTo pos (starEach es X.env)).any (·.1) = false := by rfl)
    (ht : eval (.Call (.Attribute o m apos) (e :: es) [] pos) X.env = (do
      let ov ← eval o X.env
      standAt apos.atName
      let (f, first) ← holding [ov] (getMethod ov m pl)
      callWith pos f first (backTo pos (starEach (e :: es) X.env)) (backToKw pos (keywordEach [] X.env))) := by rfl) : GoP X Γ (.Call (.Attribute o m apos) (e :: es) [] pos) R := .mk fun σ B H Fs E Q q => by
  obtain ⟨C, g, fd, h1, h2, h3, F, b⟩ := C.ex
  refine toE (pe_meth sE h2 h3 (F.mono hk) hr b .nil passL sA hst hpl ht) (ho σ B H Fs E _ fun v B1 H1 n1 r1 => ?_)
  obtain ⟨C', a, dx, vs, e1, rfl, e3, e4⟩ := lookO r1 hm
  cases h1.eq e1
  refine ⟨a, dx, vs, rfl, n1.bh _ _ e3, e4, ha σ B1 H1 Fs (E.nw n1) _ fun us B2 H2 n2 r2 => .inl ?_⟩
  exact ⟨_, R, B2, hS, n2.bh, by rw [List.append_nil]; exact .cons ((insP own Ps).up n2.bb r1) r2, fun v B3 H3 n3 r3 => q v B3 H3 ((n1.trans n2).trans n3) r3⟩
/-! ### statements that raise, their slots untouched -/
structure SoE (X : Cx) (W : WX) (Γ : Ga) (st : Stmt) (r : Er) : Prop where
  run : ∀ σ B H Fs, En X.K B H σ Γ Fs → (∀ C d H2, ClsAt X.K r.x C → r.p H d H2 → W (.ref C) d σ H2) → ∀ D : Ends, wpS X st D σ H
theorem soe_ret (he : GoE X Wx Γ e r) : SoE X Wx Γ (.Return (some e) pos) r := .mk fun σ B H Fs E hw D => toS (ps_ret sE) (he.run σ B H Fs E hw _)
theorem soe_expr (he : GoE X Wx Γ e r) (hs : swapsWith e none pos.line X.env = pure false := by rfl) : SoE X Wx Γ (.Expr e pos) r := .mk fun σ B H Fs E hw D => toS (ps_expr sE hs) (he.run σ B H Fs E hw _)
theorem soe_set (i : Nat) {x : Str} {p' : Pos} (he : GoE X Wx Γ e r) (hN : X.N.Nodup) (hi : X.N[i]? = some x := by rfl) (hx : Loc X.env.scope x := by first | exact .inl rfl | exact .inr rfl)
    (hs : swapsWith e (some (.Name x p')) pos.line X.env = pure false := by rfl) (hf : X.fn x = true ∨ X.env.scope.names.lookup x = some .local := by first | exact .inl rfl | exact .inr rfl) : SoE X Wx Γ (.Assign [.Name x p'] e pos) r := .mk fun σ B H Fs E hw D => toS (ps_set hN hi hx sE hs hf) (he.run σ B H Fs E hw _)
/-- a class of errors without an __init__ of its own, over ValueError -/
structure Ec0 (K : PySem.W.Frag) (mg : Str → Option Value) (x : Str) : Prop where
  ex : ∃ C, ClsAt K x C ∧ mg x = some (.ref C) ∧ PySem.W.keepIn K (.ref C) = true ∧ PySem.W.excIn K C [.type "ValueError", .type "Exception", .type "BaseException", .type "object"] "ValueError.__new__" = true ∧
    PySem.W.subIn K (.ref C) (.type "BaseException") = some true ∧ PySem.W.typeIn K (.ref C) = some (.type "type") ∧ PySem.W.exmOne K (.ref C) (.ref C) = some true
theorem soe_raise {x t : Str} {j0 : Nat} {p2 pos2 : Pos} (T : Ec0 X.K X.mg x) (hc : X.calm = true) (tk : Takes X Wx) (hg : Gl X x := by rfl) (hdb : (x == ("__debug__" : Str)) = false := by decide) : SoE X Wx Γ (.Raise (some (.Call (.Name x p) [.Constant (.str t) j0 p2] [] pos)) none pos2) (er0 x) := .mk fun σ B H Fs E hw D => by
  obtain ⟨C, h1, h2, h3, h4, h5, h6, _⟩ := T.ex
  exact toS (ps_raise hc tk (pmk_own PySem.F.excBase_ValueError h4 h2 h3 (raises_own h5 h6) hg hdb)) (hw C none H h1 ⟨.refl H, rfl⟩)
/-- within a def -/
theorem rs_soe (he : SoE X Wx Γ st r) (hM : J.M = []) (hW : ∀ σ C d H2, ClsAt X.K r.x C → r.p J.H d H2 → Wx (.ref C) d σ H2) : RnS X J N Γ st := .mk fun B0 σ B H Fs E j =>
  he.run σ B H Fs E (fun C d H2 h1 h2 => hW σ C d H2 h1 (r.mono (fun a o h => j.h0 a o h (by rw [hM]; exact List.not_mem_nil)) h2)) _
/-! ### try: one statement that raises -/
/-- the error that a suite holds -/
def errI (a : Addr) : Mn := ⟨fun _ _ w => w = .ref a, fun _ h => h⟩
theorem rs_try_as0 {xn n : Str} {i : Nat} {b₀ st₀ : Stmt} {suite : List Stmt} {np pos' : Pos} (hs : X.stack = X.env :: X.outer) (hf : X.env.frame = some X.env.locals) (hN : X.N.Nodup) (hi : X.N[i]? = some n) (hln : X.env.kindOf n = some .local) (T : Ec0 X.K X.mg xn) (hg : Gl X xn) (hdb : (xn == ("__debug__" : Str)) = false) (tk : Takes X fun _ _ _ _ => False)
    (he : ∀ (W : WX) (pn : List (Addr × Obj)) (xe : Value → Shared → Prop), Takes (X.tr pn xe) W → SoE (X.tr pn xe) W Γ st₀ (er0 xn))
    (hsu : ∀ (C a : Addr) (oe : Obj) (pn : List (Addr × Obj)), ClsAt X.K xn C → Zc (.ref C) none oe → (∃ vs, oe.data = .fields vs) → Rn (X.suite a ((a, oe) :: pn)) J { N with nx := fun Γ' => N.nx (Γ'.set i .any), bk := fun _ => False, ct := fun _ => False } (Γ.set i (.pr (errI a))) (b₀ :: suite)) :
    RnS X J N Γ (.Try [st₀] [.ExceptHandler (some (.Name xn np)) (some n) (b₀ :: suite) pos'] [] [] pos) := .mk fun B0 σ B H Fs E j => by
  obtain ⟨C, hC, hm, _, _, _, _, xC⟩ := T.ex
  refine toS (ps_try_as (tb := fun W => fun D σ' H' => ∀ pn xe, Takes (X.tr pn xe) W → wpSs (X.tr pn xe) [st₀] D σ' H')
    (ts := fun a cls d => fun D σ' H' => ∀ oe pn, Zc cls d oe → (∃ vs, oe.data = .fields vs) → wpSs (X.suite a ((a, oe) :: pn)) (b₀ :: suite) D σ' H') hs hf hN hi hln (c := .ref C) ⟨hg, hdb, .inl hm⟩ tk ?_ ?_) ?_
  · exact fun W pn xe tk' _ => ⟨fun pins s σ' H' D I h => h pn xe tk' pins s I⟩
  · exact fun a oe cls d pn hz hd => ⟨fun pins s σ' H' D I h => h oe pn hz hd pins s I⟩
  · intro pn xe tk'
    refine toSs (pss_one sS) ((he _ pn xe tk').run σ B H Fs E (fun C' d H2 h1 h2 => ?_) _)
    cases hC.eq h1
    obtain ⟨h2, rfl⟩ := h2
    refine ⟨true, xC, fun _ a ha oe pn' hz hd => ?_, fun z => nomatch z⟩
    have n2 : Nw B H B H2 := ⟨.refl B, E.bh.trans h2, h2, fun _ z _ => z⟩
    have E2 := (E.nw n2).setP (P := errI a) (v := .ref a) i rfl
    refine wpSs_mono ((hsu C a oe pn' hC hz hd).run B0 _ _ H2 _ E2 ((j.nw n2).sub fun _ _ z => off_sub z)) ?_ ?_ ?_ ?_
    · exact fun σ' H' ⟨B', Γ', Fs', e, j, n⟩ => ⟨B', Γ'.set i .any, Fs', e.setN i none, j, n⟩
    · exact fun v H' z => z
    · exact fun σ' H' ⟨B', Γ', Fs', e, j, n⟩ => n.elim
    · exact fun σ' H' ⟨B', Γ', Fs', e, j, n⟩ => n.elim
theorem rs_try_only0 {xn : Str} {b₀ st₀ : Stmt} {suite : List Stmt} {np pos' : Pos} (hs : X.stack = X.env :: X.outer) (hf : X.env.frame = some X.env.locals) (T : Ec0 X.K X.mg xn) (hg : Gl X xn) (hdb : (xn == ("__debug__" : Str)) = false) (tk : Takes X fun _ _ _ _ => False)
    (he : ∀ (W : WX) (pn : List (Addr × Obj)) (xe : Value → Shared → Prop), Takes (X.tr pn xe) W → SoE (X.tr pn xe) W Γ st₀ (er0 xn))
    (hsu : ∀ (C a : Addr) (oe : Obj) (pn : List (Addr × Obj)), ClsAt X.K xn C → Zc (.ref C) none oe → (∃ vs, oe.data = .fields vs) → Rn (X.suite a ((a, oe) :: pn)) J N Γ (b₀ :: suite)) :
    RnS X J N Γ (.Try [st₀] [.ExceptHandler (some (.Name xn np)) none (b₀ :: suite) pos'] [] [] pos) := .mk fun B0 σ B H Fs E j => by
  obtain ⟨C, hC, hm, _, _, _, _, xC⟩ := T.ex
  refine toS (ps_try_only (tb := fun W => fun D σ' H' => ∀ pn xe, Takes (X.tr pn xe) W → wpSs (X.tr pn xe) [st₀] D σ' H')
    (ts := fun a cls d => fun D σ' H' => ∀ oe pn, Zc cls d oe → (∃ vs, oe.data = .fields vs) → wpSs (X.suite a ((a, oe) :: pn)) (b₀ :: suite) D σ' H') hs hf (c := .ref C) ⟨hg, hdb, .inl hm⟩ tk ?_ ?_) ?_
  · exact fun W pn xe tk' _ => ⟨fun pins s σ' H' D I h => h pn xe tk' pins s I⟩
  · exact fun a oe cls d pn hz hd => ⟨fun pins s σ' H' D I h => h oe pn hz hd pins s I⟩
  · intro pn xe tk'
    refine toSs (pss_one sS) ((he _ pn xe tk').run σ B H Fs E (fun C' d H2 h1 h2 => ?_) _)
    cases hC.eq h1
    obtain ⟨h2, rfl⟩ := h2
    refine ⟨true, xC, fun _ a ha oe pn' hz hd => ?_, fun z => nomatch z⟩
    have n2 : Nw B H B H2 := ⟨.refl B, E.bh.trans h2, h2, fun _ z _ => z⟩
    exact (hsu C a oe pn' hC hz hd).run B0 _ _ H2 _ (E.nw n2) (j.nw n2)
/-- isinstance(error, C) in a suite -/
theorem go_isE0 {A C : Addr} {oe : Obj} {pn : List (Addr × Obj)} {cv : Value} {v : V} {b : Bool} {x : Str} {p2 : Pos} (T : ExcC X.K C) (hz : Zc (.ref C) none oe) (hf : ∃ vs, oe.data = .fields vs) (hk : PySem.W.kitOne X.K (.ref C) cv = some b) (hv : ∀ u, RelV v u → u = cv) (he : GoP (X.suite A ((A, oe) :: pn)) Γ a (errI A))
    (hx : GoP (X.suite A ((A, oe) :: pn)) Γ (.Name x p2) ⟨fun _ _ w => w = v, fun _ h => h⟩) (hmi : X.mg "isinstance" = none) (hgi : Gl X "isinstance" := by rfl)
    (he1 : starEach [a, .Name x p2] X.env = (false, eval a X.env) :: starEach [.Name x p2] X.env := by rfl) (he2 : starEach [.Name x p2] X.env = (false, eval (.Name x p2) X.env) :: starEach [] X.env := by rfl) :
    Go (X.suite A ((A, oe) :: pn)) Γ (.Call (.Name "isinstance" p) [a, .Name x p2] [] pos) (.bool b) :=
  go_callB (X := X.suite A ((A, oe) :: pn)) (call_isE T hz hf) hgi hmi PyProof.Rows.boot_isinstance (goA_cons he (goA_cons hx goA_nil he2) he1) (fun vs B H hB rr Q q => by
    obtain ⟨v', w, rfl, h, h2⟩ := mn2 rr
    have h : v' = .ref A := h
    have h2 : w = v := h2
    subst h h2
    exact ⟨w, cv, b, rfl, hv, hk, q _ B H (.same hB) (Dp.bl _)⟩) (by decide) (by decide) he1 (by rw [he2]; rfl)
end
end PL

set_option maxHeartbeats 4000000
namespace PL
open PySem PySem.Spec PyProof.Rows L2
/-! ### [e for .. in .. for .. in ..] -/
section
variable {X : Cx} {Γ : Ga} {tg iter tg1 iter1 elt : Expr} {ifs ifs1 : List Expr} {pos : Pos}
/-- own things stay where they are not touched -/
theorem En.agree {K : PySem.W.Frag} {B H B2 H2 : Hp} {σ : L2.St} {Fs : Nat → List Addr} (E : En K B H σ Γ Fs) (bb : Ex B B2) (bh : Ex B2 H2) (ag : ∀ i a, a ∈ Fs i → H2 a = H a) (nu : ∀ i a, a ∈ Fs i → B2 a = none) : En K B2 H2 σ Γ Fs where
  bh := bh
  len := E.len
  at_ := fun i s hs => by
    have := E.at_ i s hs
    cases s with
    | any => trivial
    | pr P =>
      obtain ⟨v, h1, h2⟩ := this
      exact ⟨v, h1, P.up bb h2⟩
    | ob P =>
      obtain ⟨v, h1, h2⟩ := this
      exact ⟨v, h1, P.loc (fun a ha => ag i a ha) (P.upB bb h2)⟩
  fre := fun i a ha => ⟨nu i a ha, by rw [ag i a ha]; exact (E.fre i a ha).2⟩
  dis := E.dis
abbrev lcRd2 (X : Cx) (scope : Scope) (tg : Expr) (ifs : List Expr) (tg1 iter1 : Expr) (ifs1 : List Expr) (elt : Expr) (iter : Expr) (vs vs1 : List Nat) : TE :=
  tLc2 (wpI X tg iter) (fun v σ H Q => Blk X scope fun X' => wpG X' tg v σ H Q) (fun σ H Q => Blk X scope fun X' => wpTs X' ifs σ H Q)
    (fun σ H R => Blk X scope fun X' => wpI X' tg1 iter1 σ H R) (fun v σ H Q => Blk X scope fun X' => wpG X' tg1 v σ H Q) (fun σ H Q => Blk X scope fun X' => wpTs X' ifs1 σ H Q) (fun σ H Q => Blk X scope fun X' => wpE X' elt σ H Q) vs vs1
theorem lc2_run {scope : Scope} {vs vs1 : List Nat} {α β : Type} {xs : List α} {enc : α → D} (p : α → Bool) (ys : α → List β) (enc1 : α → β → D) (p1 : α → β → Bool) (f : α → β → D) (hi : GoI X Γ tg iter (xs.map enc)) (hz : ∀ n, ((xs.take n).flatMap fun x => ys x).length < 1000000)
    (body : ∀ (k : Nat) x, xs[k]? = some x → ∃ Γ' ts, (∀ t ∈ ts, t ∈ vs) ∧ (Blk X scope fun X' => GoG X' (wipeG Γ vs) tg (enc x) Γ' ts) ∧ (Blk X scope fun X' => GoTs X' Γ' ifs (p x)) ∧ (p x = true → (Blk X scope fun X' => GoI X' Γ' tg1 iter1 ((ys x).map (enc1 x))) ∧
      ∀ (j : Nat) y, (ys x)[j]? = some y → ∃ Γ'' ts1, (∀ t ∈ ts1, t ∈ vs1) ∧ (Blk X scope fun X' => GoG X' (wipeG Γ' vs1) tg1 (enc1 x y) Γ'' ts1) ∧ (Blk X scope fun X' => GoTs X' Γ'' ifs1 (p1 x y)) ∧ (p1 x y = true → Blk X scope fun X' => Go X' Γ'' elt (f x y))))
    {σ B H Fs} (E : En X.K B H σ Γ Fs) (Q : VK)
    (q : ∀ l us B2 H2, Nw B H B2 H2 → H l = none → B2 l = none → H2 l = some (.lst us) → DpAll X.K B2 us ((xs.filter p).flatMap fun x => ((ys x).filter (p1 x)).map (f x)) → Q (.ref l) H2) : lcRd2 X scope tg ifs tg1 iter1 ifs1 elt iter vs vs1 σ H Q := by
  refine hi σ B H Fs E _ fun I B1 H1 n1 it => ?_
  intro Dl hDl
  have E1 := E.nw n1
  have nD : ∀ i, Dl ∉ Fs i := fun i ha => (E1.fre i Dl ha).2 hDl
  have hl : (xs.map enc).length = xs.length := List.length_map _
  refine ⟨fun i m H' => m = xs.length - i ∧ i ≤ xs.length ∧ ∃ B' acc, Nw B1 H1 B' H' ∧ B' Dl = none ∧ H' Dl = some (.lst acc) ∧ acc.length ≤ ((xs.take i).flatMap fun x => ys x).length ∧ DpAll X.K B' acc (((xs.take i).filter p).flatMap fun x => ((ys x).filter (p1 x)).map (f x)),
    ⟨xs.length, by omega, Nat.zero_le _, B1, [], .lay n1.bh hDl, n1.bh.none hDl, upd_same, Nat.zero_le _, by rw [List.take_zero]; exact .nil⟩, ?_⟩
  rintro i m H' ⟨rfl, hi', B', acc, n', hb, hH, hal, hd⟩
  by_cases hlt : i < xs.length
  · refine .inr ⟨it.go i H' (by rw [hl]; exact hlt) (n'.bb.trans n'.bh), fun H' => i + 1 ≤ xs.length ∧ ∃ B' acc, Nw B1 H1 B' H' ∧ B' Dl = none ∧ H' Dl = some (.lst acc) ∧ acc.length ≤ ((xs.take (i + 1)).flatMap fun x => ys x).length ∧ DpAll X.K B' acc (((xs.take (i + 1)).filter p).flatMap fun x => ((ys x).filter (p1 x)).map (f x)), fun H' pp => ⟨xs.length - (i + 1), by omega, rfl, pp⟩, fun x H'' y => ?_⟩
    have ge : (xs.map enc)[i]? = some (enc xs[i]) := by
      rw [List.getElem?_map, List.getElem?_eq_getElem hlt]
      rfl
    obtain ⟨B2, n2, r2⟩ := it.yld i H' x H'' B' _ ge n'.bb n'.bh y
    obtain ⟨Γ', ts, hts, hg, ht, hin⟩ := body i xs[i] (List.getElem?_eq_getElem hlt)
    have E2 : En X.K B2 H'' (wipe σ vs) (wipeG Γ vs) Fs := ((E1.nw n').nw n2).wipe vs
    have eT : xs.take (i + 1) = xs.take i ++ [xs[i]] := by rw [List.take_succ_eq_append_getElem hlt]
    have eF : ((xs.take (i + 1)).flatMap fun x => ys x) = ((xs.take i).flatMap fun x => ys x) ++ ys xs[i] := by
      rw [eT, List.flatMap_append]
      simp
    intro s0 H0 C0 cl0 fp0
    refine hg s0 H0 C0 cl0 fp0 (wipe σ vs) B2 H'' Fs x E2 r2 _ fun σ2 F2 E3 sb hw => ⟨(hw vs hts).trans (wipe_wipe vs), ?_⟩
    intro s1 H1' C1 cl1 fp1
    refine ht s1 H1' C1 cl1 fp1 σ2 B2 H'' F2 E3 _ fun B4 H4 n4 => ?_
    have dk : B4 Dl = none := n4.nu Dl (n2.nu Dl hb (by rw [hH]; exact fun z => nomatch z)) (by rw [n2.hh Dl _ hH]; exact fun z => nomatch z)
    have dH : H4 Dl = some (.lst acc) := n4.hh Dl _ (n2.hh Dl _ hH)
    have nAll := (n'.trans n2).trans n4
    cases hp : p xs[i] with
    | false =>
      refine iteF ⟨hlt, B4, acc, nAll, dk, dH, ?_, ?_⟩
      · rw [eF, List.length_append]
        omega
      · rw [eT, List.filter_append, List.filter_cons_of_neg (by rw [hp]; exact Bool.false_ne_true), List.filter_nil, List.append_nil]
        exact dpsUp (n2.bb.trans n4.bb) hd
    | true =>
      obtain ⟨hi1, hb1⟩ := hin hp
      refine iteT ?_
      intro s2 H2' C2 cl2 fp2
      refine hi1 s2 H2' C2 cl2 fp2 σ2 B4 H4 F2 (E3.nw n4) _ fun I1 B5 H5 n5 it1 => ?_
      have nAll5 := nAll.trans n5
      have dk5 : B5 Dl = none := n5.nu Dl dk (by rw [dH]; exact fun z => nomatch z)
      have dH5 : H5 Dl = some (.lst acc) := n5.hh Dl _ dH
      have E5 := (E3.nw n4).nw n5
      have hl1 : ((ys xs[i]).map (enc1 xs[i])).length = (ys xs[i]).length := List.length_map _
      refine ⟨fun j k H' => k = (ys xs[i]).length - j ∧ j ≤ (ys xs[i]).length ∧ ∃ B' acc, Nw B1 H1 B' H' ∧ Ex B5 B' ∧ B' Dl = none ∧ H' Dl = some (.lst acc) ∧ acc.length ≤ ((xs.take i).flatMap fun x => ys x).length + j ∧ DpAll X.K B' acc ((((xs.take i).filter p).flatMap fun x => ((ys x).filter (p1 x)).map (f x)) ++ (((ys xs[i]).take j).filter (p1 xs[i])).map (f xs[i])),
        ⟨(ys xs[i]).length, by omega, Nat.zero_le _, B5, acc, nAll5, .refl _, dk5, dH5, by omega, by rw [List.take_zero]; simpa using dpsUp ((n2.bb.trans n4.bb).trans n5.bb) hd⟩, ?_⟩
      rintro j k H6 ⟨rfl, hj', B6, acc6, n6, x6, hb6, hH6, hal6, hd6⟩
      by_cases hjl : j < (ys xs[i]).length
      · refine .inr ⟨it1.go j H6 (by rw [hl1]; exact hjl) (x6.trans n6.bh), fun H' => j + 1 ≤ (ys xs[i]).length ∧ ∃ B' acc, Nw B1 H1 B' H' ∧ Ex B5 B' ∧ B' Dl = none ∧ H' Dl = some (.lst acc) ∧ acc.length ≤ ((xs.take i).flatMap fun x => ys x).length + (j + 1) ∧ DpAll X.K B' acc ((((xs.take i).filter p).flatMap fun x => ((ys x).filter (p1 x)).map (f x)) ++ (((ys xs[i]).take (j + 1)).filter (p1 xs[i])).map (f xs[i])), fun H' pp => ⟨(ys xs[i]).length - (j + 1), by omega, rfl, pp⟩, fun x' H7 y' => ?_⟩
        have ge1 : ((ys xs[i]).map (enc1 xs[i]))[j]? = some (enc1 xs[i] (ys xs[i])[j]) := by
          rw [List.getElem?_map, List.getElem?_eq_getElem hjl]
          rfl
        obtain ⟨B7, n7, r7⟩ := it1.yld j H6 x' H7 B6 _ ge1 x6 n6.bh y'
        obtain ⟨Γ'', ts1, hts1, hg1, ht1, he1⟩ := hb1 j (ys xs[i])[j] (List.getElem?_eq_getElem hjl)
        have n67 := n6.trans n7
        have sub2 : ∀ t a, a ∈ F2 t → a ∈ Fs t := fun t a ha => sb t a ha
        have E7 : En X.K B7 H7 σ2 Γ' F2 := E5.agree (x6.trans n7.bb) n7.bh (fun t a ha => by
          have h1 := (E1.fre t a (sub2 t a ha)).2
          cases w : H1 a with
          | none => exact absurd w h1
          | some o => rw [n67.hh a o w, nAll5.hh a o w]) (fun t a ha => n67.nu a (E1.fre t a (sub2 t a ha)).1 (E1.fre t a (sub2 t a ha)).2)
        intro s3 H3' C3 cl3 fp3
        refine hg1 s3 H3' C3 cl3 fp3 (wipe σ2 vs1) B7 H7 F2 x' (E7.wipe vs1) r7 _ fun σ3 F3 E8 sb3 hw3 => ⟨(hw3 vs1 hts1).trans (wipe_wipe vs1), ?_⟩
        intro s4 H4' C4 cl4 fp4
        refine ht1 s4 H4' C4 cl4 fp4 σ3 B7 H7 F3 E8 _ fun B8 H8 n8 => ?_
        have eT1 : (ys xs[i]).take (j + 1) = (ys xs[i]).take j ++ [(ys xs[i])[j]] := by rw [List.take_succ_eq_append_getElem hjl]
        have d8 : B8 Dl = none := n8.nu Dl (n7.nu Dl hb6 (by rw [hH6]; exact fun z => nomatch z)) (by rw [n7.hh Dl _ hH6]; exact fun z => nomatch z)
        have dH8 : H8 Dl = some (.lst acc6) := n8.hh Dl _ (n7.hh Dl _ hH6)
        have n68 := n67.trans n8
        cases hp1 : p1 xs[i] (ys xs[i])[j] with
        | false =>
          refine iteF ⟨hjl, B8, acc6, n68, (x6.trans n7.bb).trans n8.bb, d8, dH8, by omega, ?_⟩
          rw [eT1, List.filter_append, List.filter_cons_of_neg (by rw [hp1]; exact Bool.false_ne_true), List.filter_nil, List.append_nil]
          exact dpsUp (n7.bb.trans n8.bb) hd6
        | true =>
          refine iteT ?_
          intro s5 H5' C5 cl5 fp5
          refine he1 hp1 s5 H5' C5 cl5 fp5 σ3 B8 H8 F3 (E8.nw n8) _ fun y9 B9 H9 n9 r9 => ?_
          have d9 : B9 Dl = none := n9.nu Dl d8 (by rw [dH8]; exact fun z => nomatch z)
          have dH9 : H9 Dl = some (.lst acc6) := n9.hh Dl _ dH8
          have n69 := n68.trans n9
          have hz1 := hz (i + 1)
          rw [eF, List.length_append] at hz1
          refine ⟨acc6, dH9, ltZ (by omega), hjl, B9, acc6 ++ [y9], ⟨n69.bb, fun a u e => ?_, fun a u e => ?_, n69.nu⟩, ((x6.trans n7.bb).trans n8.bb).trans n9.bb, d9, upd_same, by rw [List.length_append, List.length_singleton]; omega, ?_⟩
          · rw [upd_ne (ne_of_none e d9)]
            exact n69.bh a u e
          · rw [upd_ne (ne_of_none e hDl)]
            exact n69.hh a u e
          · rw [eT1, List.filter_append, List.filter_cons_of_pos hp1, List.filter_nil, List.map_append, ← List.append_assoc]
            exact dps_app (dpsUp ((n7.bb.trans n8.bb).trans n9.bb) hd6) (.cons r9 .nil)
      · have e : j = (ys xs[i]).length := by omega
        subst e
        rw [List.take_length] at hd6
        refine .inl ⟨by rw [← hl1]; exact it1.stop H6 (x6.trans n6.bh), hlt, B6, acc6, n6, hb6, hH6, ?_, ?_⟩
        · rw [eF, List.length_append]
          exact hal6
        · rw [eT, List.filter_append, List.filter_cons_of_pos hp, List.filter_nil, List.flatMap_append]
          simpa using hd6
  · have e : i = xs.length := by omega
    subst e
    rw [List.take_length] at hd
    refine .inl ⟨by rw [← hl]; exact it.stop H' (n'.bb.trans n'.bh), q Dl acc B' H' (n1.trans n') (n1.hh.none hDl) hb hH hd⟩
theorem gx_lc2 {scope : Scope} {α β : Type} {xs : List α} {enc : α → D} {ys : α → List β} {enc1 : α → β → D} {f : α → β → D} (own : List (Str × Nat)) (vs1 : List Nat) (hc : X.calm = true) (hN : X.N.Nodup) (hi : GoI X Γ tg iter (xs.map enc))
    (body : ∀ (k : Nat) x, xs[k]? = some x → ∃ Γ' ts, (Blk X scope fun X' => GoG X' (wipeG Γ (own.map (·.2))) tg (enc x) Γ' ts) ∧ (Blk X scope fun X' => GoI X' Γ' tg1 iter1 ((ys x).map (enc1 x))) ∧
      (∀ (j : Nat) y, (ys x)[j]? = some y → ∃ Γ'' ts1, (Blk X scope fun X' => GoG X' (wipeG Γ' vs1) tg1 (enc1 x y) Γ'' ts1) ∧ (Blk X scope fun X' => Go X' Γ'' elt (f x y)) ∧ (∀ t ∈ ts1, t ∈ vs1)) ∧ (∀ t ∈ ts, t ∈ own.map (·.2)))
    (ok : blkC X.N X.env.scope scope own = true) (hz : ∀ n, ((xs.take n).flatMap fun x => ys x).length < 1000000) (hv : ∀ i ∈ vs1, i ∈ own.map (·.2) := by decide) (hs : ∀ x, foldedSetIterable iter X.env x = pure x := by intro _; rfl) (hs1 : ∀ env x, foldedSetIterable iter1 env x = pure x := by intro _ _; rfl) :
    GoN X Γ (.ListComp elt [⟨tg, iter, [], 0⟩, ⟨tg1, iter1, [], 0⟩] scope pos) (xs.flatMap fun x => (ys x).map (f x)) := .mk fun σ B H Fs E Q q =>
  toE (pe_lc2 (own := own) (vs1 := vs1) hc hN sI (blkOk_by ok) hv (fun s H C cl fp => ⟨fun pins s' σ H v u Q I r h => (h s _ C cl fp) pins s' u I r⟩) (fun s H C cl fp => ⟨fun pins s' σ H Q I h => (h s _ C cl fp) pins s' I⟩)
    (fun s H C cl fp => ⟨fun pins s' σ H R I h => (h s _ C cl fp) pins s' I⟩) (fun s H C cl fp => ⟨fun pins s' σ H v u Q I r h => (h s _ C cl fp) pins s' u I r⟩) (fun s H C cl fp => ⟨fun pins s' σ H Q I h => (h s _ C cl fp) pins s' I⟩) (fun s H C cl fp => ⟨fun pins s' σ H Q I h => (h s _ C cl fp) pins s' I⟩) hs hs1)
    (lc2_run (fun _ => true) ys enc1 (fun _ _ => true) f hi hz (fun k x hx => let ⟨Γ', ts, h1, h2, h3, h4⟩ := body k x hx; ⟨Γ', ts, h4, h1, fun _ _ _ _ _ => goTs_nil, fun _ => ⟨h2, fun j y hy => let ⟨Γ'', ts1, g1, g2, g3⟩ := h3 j y hy; ⟨Γ'', ts1, g3, g1, fun _ _ _ _ _ => goTs_nil, fun _ => g2⟩⟩⟩) E Q fun l us B2 H2 n hl hb hH hd => q l us B2 H2 n hl hb hH (by
      have e1 : xs.filter (fun _ => true) = xs := List.filter_eq_self.mpr fun _ _ => rfl
      rw [e1] at hd
      have e2 : (fun x => ((ys x).filter fun _ => true).map (f x)) = fun x => (ys x).map (f x) := funext fun x => by rw [List.filter_eq_self.mpr fun _ _ => rfl]
      rw [e2] at hd
      exact hd))
end
end PL

set_option maxHeartbeats 4000000
namespace PL
open PySem PySem.Spec PyProof.Rows L2
/-! ### data without lists, read through a thing of our own -/
mutual
inductive NoL : D → Prop
  | non : NoL .none
  | bl (b : Bool) : NoL (.bool b)
  | int (i : Int) : NoL (.int i)
  | str (x : Str) : NoL (.str x)
  | tup {ds : List D} : NoLs ds → NoL (.tuple ds)
inductive NoLs : List D → Prop
  | nil : NoLs []
  | cons {d : D} {ds : List D} : NoL d → NoLs ds → NoLs (d :: ds)
end
theorem noLs_of : ∀ {ds : List D}, (∀ d ∈ ds, NoL d) → NoLs ds
  | [], _ => .nil
  | _ :: _, h => .cons (h _ List.mem_cons_self) (noLs_of fun d hd => h d (List.mem_cons_of_mem _ hd))
/-- what is no tuple -/
def NT (o : Option HO) : Prop := ∀ vs, o ≠ some (.tup vs) ∧ ∀ x, o ≠ some (.frz x (.tup vs))
/-- without the places of F -/
def cutF (B : Hp) (F : List Addr) : Hp := fun a => if a ∈ F then none else B a
theorem cut_out {B : Hp} {F : List Addr} {a : Addr} (h : a ∉ F) : cutF B F a = B a := if_neg h
theorem cut_in {B : Hp} {F : List Addr} {a : Addr} (h : a ∈ F) : cutF B F a = none := if_pos h
theorem cut_ex {B : Hp} {F : List Addr} : Ex (cutF B F) B := fun a o e => by
  by_cases h : a ∈ F
  · rw [cut_in h] at e
    cases e
  · rwa [cut_out h] at e
theorem sqT_cut {K : PySem.W.Frag} {B : Hp} {F : List Addr} {a : Addr} {xs : List V} (hF : ∀ a ∈ F, NT (B a)) (h : SqT K B a xs) : SqT K (cutF B F) a xs := by
  rcases h with h | h
  · left
    have nF : a ∉ F := fun z => by
      rcases h with h | ⟨o, h⟩
      · exact (hF a z xs).1 h
      · exact (hF a z xs).2 o h
    unfold Rd
    rw [cut_out nF]
    exact h
  · exact .inr h
mutual
theorem dp_cut {K : PySem.W.Frag} {B : Hp} {F : List Addr} (hF : ∀ a ∈ F, NT (B a)) {v : V} {d : D} : Dp K B v d → NoL d → Dp K (cutF B F) v d
  | .non, _ => .non
  | .bl b, _ => .bl b
  | .int i, _ => .int i
  | .str x, _ => .str x
  | .lst _ _, h => nomatch h
  | .tup s h, .tup q => .tup (sqT_cut hF s) (dps_cutF hF h q)
theorem dps_cutF {K : PySem.W.Frag} {B : Hp} {F : List Addr} (hF : ∀ a ∈ F, NT (B a)) {vs : List V} {ds : List D} : DpAll K B vs ds → NoLs ds → DpAll K (cutF B F) vs ds
  | .nil, _ => .nil
  | .cons h t, .cons q r => .cons (dp_cut hF h q) (dps_cutF hF t r)
end
/-- a thing of our own whose plain parts have no lists -/
def CutW (W : Ow) : Prop := ∀ (K : PySem.W.Frag) (B H : Hp) (v : V) (G F : List Addr), W.p K B H v G → (∀ a ∈ F, NT (B a)) → W.p K (cutF B F) H v G
/-- a thing of our own whose places are no tuples -/
def NtW (W : Ow) : Prop := ∀ (K : PySem.W.Frag) (B H : Hp) (v : V) (F : List Addr), W.p K B H v F → ∀ a ∈ F, NT (H a)
theorem nt_lstH {o : Option HO} {vs : List V} (h : o = some (.lst vs)) : NT o := fun us => ⟨fun z => (by rw [h] at z; cases z), fun x z => (by rw [h] at z; cases z)⟩
theorem nt_insH {o : Option HO} {C dx : Addr} {fs : List (Str × V)} (h : o = some (.ins C dx fs)) : NT o := fun us => ⟨fun z => (by rw [h] at z; cases z), fun x z => (by rw [h] at z; cases z)⟩
theorem nt_dkH {o : Option HO} {fs : List (Key × V)} (h : o = some (.dK fs)) : NT o := fun us => ⟨fun z => (by rw [h] at z; cases z), fun x z => (by rw [h] at z; cases z)⟩
theorem ntw_lst {ds : List D} : NtW (lstO ds) := fun K B H v F ⟨a, vs, h1, h2, h3, h4⟩ b hb => by
  rw [h2] at hb
  rw [List.mem_singleton.mp hb]
  exact nt_lstH h3
theorem LLs.nt {K : PySem.W.Frag} {B H : Hp} : ∀ {ps : List Addr} {dss : List (List D)}, LLs K B H ps dss → ∀ a ∈ ps, NT (H a)
  | _, _, .cons h1 h2 t, a, ha => by
    rcases List.mem_cons.mp ha with e | e
    · rw [e]
      exact nt_lstH h1
    · exact t.nt a e
theorem ntw_ll {dss : List (List D)} : NtW (llO dss) := fun K B H v F ⟨a, ps, h1, h2, h3, h4, h5⟩ b hb => by
  rw [h2] at hb
  rcases List.mem_cons.mp hb with e | e
  · rw [e]
    exact nt_lstH h3
  · exact h5.nt b e
theorem ntw_pin {W : Ow} {v0 : V} (h : NtW W) : NtW (pinO W v0) := fun K B H v F hW => h K B H v F hW.2
inductive NtSs : List (Str × Sl) → Prop
  | nil : NtSs []
  | pr {f : Str} {P : Mn} {Ss : List (Str × Sl)} : NtSs Ss → NtSs ((f, .pr P) :: Ss)
  | ob {f : Str} {W : Ow} {Ss : List (Str × Sl)} : NtW W → NtSs Ss → NtSs ((f, .ob W) :: Ss)
theorem NtSs.nt {Ss : List (Str × Sl)} (h : NtSs Ss) : ∀ {K : PySem.W.Frag} {B H : Hp} {vs : List (Str × V)} {F : List Addr}, FlO K B H vs Ss F → ∀ a ∈ F, NT (H a) := by
  induction h with
  | nil => intro K B H vs F z; cases z; exact fun _ h => nomatch h
  | pr _ ih => intro K B H vs F z; cases z with | pr z t => exact ih t
  | ob hw _ ih => intro K B H vs F z; cases z with | ob z hn t => exact fun a ha => (List.mem_append.mp ha).elim (hw _ _ _ _ _ z a) (ih t a)
theorem ntw_ins {x : Str} {Ss : List (Str × Sl)} (h : NtSs Ss) : NtW (insO x Ss) := fun K B H v F ⟨C, a, dx, vs, F', h1, h2, h3, h4, h5, h6⟩ b hb => by
  rw [h3] at hb
  rcases List.mem_cons.mp hb with e | e
  · rw [e]
    exact nt_insH h5
  · exact h.nt h6 b e
theorem cutw_lst {ds : List D} (h : NoLs ds) : CutW (lstO ds) := fun K B H v G F ⟨a, vs, h1, h2, h3, h4⟩ hF => ⟨a, vs, h1, h2, h3, dps_cutF hF h4 h⟩
inductive CutSs : List (Str × Sl) → Prop
  | nil : CutSs []
  | pr {f : Str} {d : D} {Ss : List (Str × Sl)} : NoL d → CutSs Ss → CutSs ((f, .dat d) :: Ss)
  | ob {f : Str} {W : Ow} {Ss : List (Str × Sl)} : CutW W → CutSs Ss → CutSs ((f, .ob W) :: Ss)
theorem CutSs.cut {Ss : List (Str × Sl)} (h : CutSs Ss) : ∀ {K : PySem.W.Frag} {B H : Hp} {vs : List (Str × V)} {G F : List Addr}, FlO K B H vs Ss G → (∀ a ∈ F, NT (B a)) → FlO K (cutF B F) H vs Ss G := by
  induction h with
  | nil => intro K B H vs G F z hF; cases z; exact .nil
  | pr hd _ ih => intro K B H vs G F z hF; cases z with | pr z t => exact .pr (dp_cut hF z hd) (ih t hF)
  | ob hw _ ih => intro K B H vs G F z hF; cases z with | ob z hn t => exact .ob (hw _ _ _ _ _ _ z hF) hn (ih t hF)
theorem cutw_ins {x : Str} {Ss : List (Str × Sl)} (h : CutSs Ss) : CutW (insO x Ss) := fun K B H v G F ⟨C, a, dx, vs, F', h1, h2, h3, h4, h5, h6⟩ hF => ⟨C, a, dx, vs, F', h1, h2, h3, h4, h5, h.cut h6 hF⟩
section
variable {X : Cx} {J : Jd} {N : Nd} {Γ : Ga} {e : Expr} {W R : Ow} {P : Mn} {d : D} {pos : Pos}
theorem nw_cut {B H B2 H2 : Hp} {F : List Addr} (hF : ∀ a ∈ F, B a = none) (hB : Ex B H) (n : Nw (ovl B H F) H B2 H2) : Nw B H (cutF B2 F) H2 := ⟨fun a o h => by
  have nF : a ∉ F := fun z => by rw [hF a z] at h; cases h
  rw [cut_out nF]
  exact n.bb a o (by rwa [ovl_out nF]), cut_ex.trans n.bh, n.hh, fun a h1 h2 => by
  by_cases z : a ∈ F
  · exact cut_in z
  · rw [cut_out z]
    exact n.nu a (by rwa [ovl_out z]) h2⟩
theorem nt_after {B H B2 H2 : Hp} {F : List Addr} (hd : ∀ a ∈ F, H a ≠ none) (nt : ∀ a ∈ F, NT (H a)) (n : Nw (ovl B H F) H B2 H2) : ∀ a ∈ F, NT (B2 a) := fun a ha => by
  cases q : H a with
  | none => exact absurd q (hd a ha)
  | some o =>
    have e := n.bb a o (by rw [ovl_in ha]; exact q)
    rw [e, ← q]
    exact nt a ha
/-- data without lists, read with the thing of the slot i frozen -/
theorem go_thN (i : Nat) (hΓ : Γ[i]? = some (.ob W)) (hz : FzM W P) (hw : NtW W) (h : Go X (Γ.set i (.pr P)) e d) (hd : NoL d) : Go X Γ e d := .mk fun σ B H Fs E Q q => by
  obtain ⟨v, h1, h2⟩ := E.at_ i _ hΓ
  refine h σ _ H _ (E.iceM hΓ hz) Q fun v B2 H2 n r => q v (cutF B2 (Fs i)) H2 (nw_cut (fun a ha => (E.fre i a ha).1) E.bh n) (dp_cut (nt_after (fun a ha => (E.fre i a ha).2) (hw _ _ _ _ _ h2) n) r hd)
theorem goU_thN (i : Nat) (hΓ : Γ[i]? = some (.ob W)) (hz : FzM W P) (hw : NtW W) (h : GoU X (Γ.set i (.pr P)) e R) (hR : CutW R) : GoU X Γ e R := .mk fun σ B H Fs E Q q => by
  obtain ⟨v, h1, h2⟩ := E.at_ i _ hΓ
  refine h σ _ H _ (E.iceM hΓ hz) Q fun v F B2 H2 n hv hF => q v F (cutF B2 (Fs i)) H2 (nw_cut (fun a ha => (E.fre i a ha).1) E.bh n) (hR _ _ _ _ _ _ hv (nt_after (fun a ha => (E.fre i a ha).2) (hw _ _ _ _ _ h2) n)) fun a ha => ⟨(hF a ha).1, ?_⟩
  by_cases z : a ∈ Fs i
  · exact cut_in z
  · rw [cut_out z]
    exact (hF a ha).2
/-- a thing of our own is not changed any more -/
theorem rn_iceM (i : Nat) (hΓ : Γ[i]? = some (.ob W)) (hz : FzM W P) (hi : i ∉ J.S) {sts : List Stmt} (h : Rn X J N (Γ.set i (.pr P)) sts) : Rn X J N Γ sts := .mk fun B0 σ B H Fs E j => by
  have E2 := E.iceM hΓ hz
  have e1 : Ex B (ovl B H (Fs i)) := ovl_ex fun a ha => (E.fre i a ha).1
  refine h B0 σ _ H _ E2 ⟨j.b0.trans e1, fun b h1 h2 => ?_, j.h0, j.h1, fun k a ha => j.fm k a (off_sub ha)⟩
  by_cases q : b ∈ Fs i
  · rcases j.fm i b q with z | z
    · exact z
    · exact absurd z.2 hi
  · rw [ovl_out q] at h1
    exact j.nb b h1 h2
end
/-! ### a dict of lists of our own, by texts -/
def lsts (es : List (Str × List D)) : List (List D) := es.map fun p => p.2
def keyed : List (Str × List D) → List Addr → List (Key × V)
  | (k, _) :: r, p :: ps => (Sum.inr k, .ref p) :: keyed r ps
  | _, _ => []
def dclO (es : List (Str × List D)) : Ow where
  p := fun K B H v F => ∃ a ps, v = .ref a ∧ F = a :: ps ∧ H a = some (.dK (keyed es ps)) ∧ F.Nodup ∧ LLs K B H ps (lsts es)
  upB := fun e ⟨a, ps, h1, h2, h3, h4, h5⟩ => ⟨a, ps, h1, h2, h3, h4, h5.mono e fun _ _ => rfl⟩
  loc := fun e ⟨a, ps, h1, h2, h3, h4, h5⟩ => ⟨a, ps, h1, h2, (e a (by rw [h2]; exact List.mem_cons_self)).trans h3, h4, h5.mono (.refl _) fun b hb => e b (by rw [h2]; exact List.mem_cons_of_mem _ hb)⟩
  dom := fun ⟨a, ps, h1, h2, h3, h4, h5⟩ b hb => by
    rw [h2] at hb
    rcases List.mem_cons.mp hb with e | e
    · rw [e, h3]
      exact fun z => nomatch z
    · exact h5.dom b e
theorem dcr_keyed {K : PySem.W.Frag} {B B' H : Hp} (eB : Ex B B') : ∀ {es : List (Str × List D)} {ps : List Addr}, LLs K B H ps (lsts es) → (∀ a ∈ ps, B' a = H a) → DcR K B' (keyed es ps) (es.map fun p => (p.1, .list p.2))
  | [], _, .nil, _ => .nil
  | (k, ds) :: r, p :: ps, .cons h1 h2 t, h => .cons (.lst (.of ((h _ List.mem_cons_self).trans h1)) (dpsUp eB h2)) (dcr_keyed eB t fun a ha => h a (List.mem_cons_of_mem _ ha))
theorem fz_dcl (es : List (Str × List D)) : FzM (dclO es) (dctP (es.map fun p => (p.1, .list p.2))) := fun K B H v F h hF => by
  obtain ⟨a, ps, rfl, h2, h3, h4, h5⟩ := h
  exact ⟨a, _, rfl, (ovl_in (by rw [h2]; exact List.mem_cons_self)).trans h3, dcr_keyed (ovl_ex hF) h5 fun b hb => ovl_in (by rw [h2]; exact List.mem_cons_of_mem _ hb)⟩
theorem LLs.cut {K : PySem.W.Frag} {B H : Hp} {F : List Addr} (hF : ∀ a ∈ F, NT (B a)) : ∀ {ps : List Addr} {dss : List (List D)}, LLs K B H ps dss → (∀ ds ∈ dss, NoLs ds) → LLs K (cutF B F) H ps dss
  | _, _, .nil, _ => .nil
  | _, _, .cons h1 h2 t, h => .cons h1 (dps_cutF hF h2 (h _ List.mem_cons_self)) (t.cut hF fun ds hd => h ds (List.mem_cons_of_mem _ hd))
theorem cutw_dcl {es : List (Str × List D)} (h : ∀ ds ∈ lsts es, NoLs ds) : CutW (dclO es) := fun K B H v G F ⟨a, ps, h1, h2, h3, h4, h5⟩ hF => ⟨a, ps, h1, h2, h3, h4, h5.cut hF h⟩
theorem ntw_dcl {es : List (Str × List D)} : NtW (dclO es) := fun K B H v F ⟨a, ps, h1, h2, h3, h4, h5⟩ b hb => by
  rw [h2] at hb
  rcases List.mem_cons.mp hb with e | e
  · rw [e]
    exact nt_dkH h3
  · exact h5.nt b e
/-! ### a new thing that takes up the thing of the slot j -/
structure GoV (X : Cx) (Γ : Ga) (e : Expr) (j : Nat) (R : Ow) : Prop where
  run : ∀ σ B H Fs, En X.K B H σ Γ Fs → ∀ Q : VK, (∀ v F B2 H2, Nw B H B2 H2 → R.p X.K B2 H2 v F → (∀ a ∈ F, B2 a = none ∧ (a ∈ Fs j ∨ H a = none)) → Q v H2) → wpE X e σ H Q
section
variable {X : Cx} {J : Jd} {N : Nd} {Γ : Ga} {e : Expr} {pos : Pos} {ds1 ds2 ds3 ds4 : List D}
theorem goV_dct4 (j : Nat) {k1 k2 k3 k4 x : Str} {e1 e2 e3 e4 f1 f3 f4 : Expr} {px : Pos} (h1 : Go X Γ e1 (.str k1)) (h2 : Go X Γ e2 (.str k2)) (h3 : Go X Γ e3 (.str k3)) (h4 : Go X Γ e4 (.str k4)) (g1 : GoN X Γ f1 ds1) (g3 : GoN X Γ f3 ds3) (g4 : GoN X Γ f4 ds4) (hΓ : Γ[j]? = some (.own ds2))
    (hm : ∀ w1 w2 w3 w4 : V, mergeK [] [((Sum.inr k1 : Key), w1), (Sum.inr k2, w2), (Sum.inr k3, w3), (Sum.inr k4, w4)] = [((Sum.inr k1 : Key), w1), (Sum.inr k2, w2), (Sum.inr k3, w3), (Sum.inr k4, w4)])
    (hN : X.N[j]? = some x := by rfl) (hv : Vis X.env.scope x := by first | exact Or.inl rfl | exact Or.inr (Or.inl rfl) | exact Or.inr (Or.inr rfl)) (hd : (x == ("__debug__" : Str)) = false := by decide) (hcd : (x == ("__classdict__" : Str)) = false := by decide) :
    GoV X Γ (.Dict [some e1, some e2, some e3, some e4] [f1, .Name x px, f3, f4] pos) j (dclO [(k1, ds1), (k2, ds2), (k3, ds3), (k4, ds4)]) := .mk fun σ B H Fs E Q q => by
  obtain ⟨a2, us2, s1, s2, s3, s4, s5⟩ := E.own hΓ
  refine toE (pe_disp (pps_cons sE sE (pps_cons sE (pe_var hN hv hd hcd) (pps_cons sE sE (pps_cons sE sE pps_nil)))) rfl rfl (fun z => nomatch z) (by show 4 ≤ 15; decide)) fun p hp => ?_
  have n0 : Nw B H B (upd H p (.dK [])) := .lay E.bh hp
  refine h1 σ B _ Fs (E.nw n0) _ fun y1 B1 H1 m1 r1 => g1 σ B1 H1 Fs ((E.nw n0).nw m1) _ fun p1 us1 B2 H2 m2 a1 b1 c1 d1 => h2 σ B2 H2 Fs (((E.nw n0).nw m1).nw m2) _ fun y2 B3 H3 m3 r2 => ⟨_, s1, ?_⟩
  refine h3 σ B3 H3 Fs ((((E.nw n0).nw m1).nw m2).nw m3) _ fun y3 B4 H4 m4 r3 => g3 σ B4 H4 Fs (((((E.nw n0).nw m1).nw m2).nw m3).nw m4) _ fun p3 us3 B5 H5 m5 a3 b3 c3 d3 => ?_
  refine h4 σ B5 H5 Fs ((((((E.nw n0).nw m1).nw m2).nw m3).nw m4).nw m5) _ fun y4 B6 H6 m6 r4 => g4 σ B6 H6 Fs (((((((E.nw n0).nw m1).nw m2).nw m3).nw m4).nw m5).nw m6) _ fun p4 us4 B7 H7 m7 a4 b4 c4 d4 => ?_
  have n36 := (m3.trans m4).trans m5
  have n67 := m6.trans m7
  have nA := ((m1.trans m2).trans n36).trans n67
  refine ⟨nA.hh _ _ upd_same, [((Sum.inr k1 : Key), .ref p1), (Sum.inr k2, .ref a2), (Sum.inr k3, .ref p3), (Sum.inr k4, .ref p4)], ?_, by show 4 ≤ 15; decide, ?_⟩
  · rw [dp_str r1, dp_str r2, dp_str r3, dp_str r4]
    rfl
  rw [hm]
  have n7 := lay_nw (u := .dK [((Sum.inr k1 : Key), .ref p1), (Sum.inr k2, .ref a2), (Sum.inr k3, .ref p3), (Sum.inr k4, .ref p4)]) hp E.bh nA
  have hp1 : H p1 = none := n0.hh.none (m1.hh.none a1)
  have hp3 : H p3 = none := n0.hh.none (((m1.trans m2).trans (m3.trans m4)).hh.none a3)
  have hp4 : H p4 = none := n0.hh.none ((((m1.trans m2).trans n36).trans m6).hh.none a4)
  have t1 : H7 p1 = some (.lst us1) := (n36.trans n67).hh _ _ c1
  have t3 : H7 p3 = some (.lst us3) := n67.hh _ _ c3
  have t2 : H7 a2 = some (.lst us2) := nA.hh _ _ (n0.hh _ _ s2)
  have tp : H7 p = some (.dK []) := nA.hh _ _ upd_same
  have q12 : p1 ≠ a2 := fun z => by rw [z, s2] at hp1; cases hp1
  have q32 : p3 ≠ a2 := fun z => by rw [z, s2] at hp3; cases hp3
  have q42 : p4 ≠ a2 := fun z => by rw [z, s2] at hp4; cases hp4
  have q13 : p1 ≠ p3 := fun z => by
    have := (m3.trans m4).hh _ _ c1
    rw [z, a3] at this
    cases this
  have q14 : p1 ≠ p4 := fun z => by
    have := (n36.trans m6).hh _ _ c1
    rw [z, a4] at this
    cases this
  have q34 : p3 ≠ p4 := fun z => by
    have := m6.hh _ _ c3
    rw [z, a4] at this
    cases this
  have w1 : p ≠ p1 := fun z => by rw [z, t1] at tp; cases tp
  have w2 : p ≠ a2 := fun z => by rw [z, t2] at tp; cases tp
  have w3 : p ≠ p3 := fun z => by rw [z, t3] at tp; cases tp
  have w4 : p ≠ p4 := fun z => by rw [z, c4] at tp; cases tp
  refine q _ [p, p1, a2, p3, p4] B7 _ n7 ⟨p, [p1, a2, p3, p4], rfl, rfl, upd_same, ?_, ?_⟩ fun a ha => ?_
  · simp only [List.nodup_cons, List.mem_cons, List.not_mem_nil, or_false, not_or, not_false_eq_true, List.nodup_nil, and_true]
    exact ⟨⟨w1, w2, w3, w4⟩, ⟨q12, q13, q14⟩, ⟨Ne.symm q32, Ne.symm q42⟩, q34⟩
  · exact .cons ((upd_ne (Ne.symm w1)).trans t1) (dpsUp (n36.trans n67).bb d1) (.cons ((upd_ne (Ne.symm w2)).trans t2) (dpsUp nA.bb s4) (.cons ((upd_ne (Ne.symm w3)).trans t3) (dpsUp n67.bb d3) (.cons ((upd_ne (Ne.symm w4)).trans c4) d4 .nil)))
  · simp only [List.mem_cons, List.not_mem_nil, or_false] at ha
    rcases ha with rfl | rfl | rfl | rfl | rfl
    · exact ⟨nA.nu _ (E.bh.none hp) (by rw [upd_same]; exact fun z => nomatch z), .inr hp⟩
    · exact ⟨(n36.trans n67).nu _ b1 (by rw [c1]; exact fun z => nomatch z), .inr hp1⟩
    · exact ⟨n7.nu _ s5 (by rw [s2]; exact fun z => nomatch z), .inl (by rw [s3]; exact List.mem_cons_self)⟩
    · exact ⟨n67.nu _ b3 (by rw [c3]; exact fun z => nomatch z), .inr hp3⟩
    · exact ⟨b4, .inr hp4⟩
end
section
variable {K : PySem.W.Frag} {B H B2 H2 : Hp} {σ : L2.St} {Γ : Ga} {Fs : Nat → List Addr} {W : Ow} {J : Jd} {B0 : Hp}
theorem En.take {i j : Nat} {v : V} {F2 : List Addr} (E : En K B H σ Γ Fs) (m : Mu (Fs i ++ Fs j) B H B2 H2) (hij : i ≠ j) (hi : i < Γ.length) (hσ : σ[i]? = some (some v)) (hW : W.p K B2 H2 v F2) (hF : ∀ a ∈ F2, B2 a = none ∧ (a ∈ Fs i ∨ a ∈ Fs j ∨ H a = none)) :
    En K B2 H2 σ ((Γ.set i (.ob W)).set j .any) (off (off Fs i F2) j []) where
  bh := m.bh
  len := by rw [List.length_set, List.length_set, E.len]
  at_ := fun k s hs => by
    by_cases e : k = j
    · subst e
      by_cases hl : k < (Γ.set i (.ob W)).length
      · rw [List.getElem?_set_self hl] at hs
        cases hs
        trivial
      · rw [List.getElem?_eq_none (by rw [List.length_set]; omega)] at hs
        cases hs
    rw [List.getElem?_set_ne (Ne.symm e)] at hs
    rw [off_ne e]
    by_cases e2 : k = i
    · subst e2
      rw [List.getElem?_set_self hi] at hs
      cases hs
      rw [off_same]
      exact ⟨v, hσ, hW⟩
    · rw [List.getElem?_set_ne (Ne.symm e2)] at hs
      rw [off_ne e2]
      have := E.at_ k s hs
      cases s with
      | any => trivial
      | pr P =>
        obtain ⟨v, h1, h2⟩ := this
        exact ⟨v, h1, P.up m.bb h2⟩
      | ob P =>
        obtain ⟨v, h1, h2⟩ := this
        refine ⟨v, h1, P.loc (fun a ha => ?_) (P.upB m.bb h2)⟩
        cases q : H a with
        | none => exact absurd q (E.fre k a ha).2
        | some o =>
          exact m.hh a o q fun z => by
            rcases List.mem_append.mp z with z | z
            · exact e2 (E.dis k i a ha z)
            · exact e (E.dis k j a ha z)
  fre := fun k a ha => by
    by_cases e : k = j
    · rw [e, off_same] at ha
      cases ha
    rw [off_ne e] at ha
    by_cases e2 : k = i
    · subst e2
      rw [off_same] at ha
      exact ⟨(hF a ha).1, W.dom hW a ha⟩
    · rw [off_ne e2] at ha
      exact ⟨m.nu a (E.fre k a ha).1 (E.fre k a ha).2, m.hd a (E.fre k a ha).2⟩
  dis := fun k l a h1 h2 => by
    have key : ∀ k, k ≠ i → k ≠ j → a ∈ F2 → a ∈ Fs k → False := fun k n1 n2 h1 h2 => by
      rcases (hF a h1).2 with z | z | z
      · exact n1 (E.dis k i a h2 z)
      · exact n2 (E.dis k j a h2 z)
      · exact (E.fre k a h2).2 z
    by_cases k1 : k = j
    · rw [k1, off_same] at h1
      cases h1
    by_cases l1 : l = j
    · rw [l1, off_same] at h2
      cases h2
    rw [off_ne k1] at h1
    rw [off_ne l1] at h2
    by_cases k2 : k = i
    · by_cases l2 : l = i
      · rw [k2, l2]
      · rw [k2, off_same] at h1
        rw [off_ne l2] at h2
        exact (key l l2 l1 h1 h2).elim
    · rw [off_ne k2] at h1
      by_cases l2 : l = i
      · rw [l2, off_same] at h2
        exact (key k k2 k1 h2 h1).elim
      · rw [off_ne l2] at h2
        exact E.dis k l a h1 h2
theorem Jn.take {i k : Nat} {F2 : List Addr} (j : Jn J B0 B H Fs) (m : Mu (Fs i ++ Fs k) B H B2 H2) (hk : k ∉ J.S) (hF : ∀ a ∈ F2, a ∈ Fs i ∨ a ∈ Fs k ∨ H a = none) : Jn J B0 B2 H2 (off (off Fs i F2) k []) where
  b0 := j.b0.trans m.bb
  nb := fun a h1 h2 => by
    cases q : B a with
    | some o => exact j.nb a (by rw [q]; exact fun z => nomatch z) h2
    | none =>
      cases r : J.H a with
      | none => rfl
      | some o => exact absurd (m.nu a q (j.h1 a (by rw [r]; exact fun z => nomatch z))) h1
  h0 := fun a o h1 h2 => m.hh a o (j.h0 a o h1 h2) fun z => by
    rcases List.mem_append.mp z with z | z
    · rcases j.fm i a z with q | q
      · rw [q] at h1
        cases h1
      · exact h2 q.1
    · rcases j.fm k a z with q | q
      · rw [q] at h1
        cases h1
      · exact h2 q.1
  h1 := fun a h => m.hd a (j.h1 a h)
  fm := fun l a ha => by
    by_cases e1 : l = k
    · rw [e1, off_same] at ha
      cases ha
    rw [off_ne e1] at ha
    by_cases e : l = i
    · subst e
      rw [off_same] at ha
      rcases hF a ha with z | z | z
      · exact j.fm l a z
      · rcases j.fm k a z with q | q
        · exact .inl q
        · exact absurd q.2 hk
      · left
        cases q : J.H a with
        | none => rfl
        | some o => exact absurd z (j.h1 a (by rw [q]; exact fun z => nomatch z))
    · rw [off_ne e] at ha
      exact j.fm l a ha
end
section
variable {X : Cx} {J : Jd} {N : Nd} {Γ : Ga} {e : Expr} {W W' R : Ow} {pos : Pos} {own f : Str} {Ss : List (Str × Sl)} {fl : List Str}
/-- x.f = e, e a new thing that takes up the thing of the slot j -/
theorem rs_fldV (i j : Nat) {x : Str} {p' q : Pos} {Ss' : List (Str × Sl)} (O : ClsOk X.K own fl) (he : GoV X Γ e j R) (hΓ : Γ[i]? = some (.ob W)) (hp : Pin (insO own Ss) (insO own Ss') W W') (hij : i ≠ j) (hj : j ∉ J.S) (h : N.nx ((Γ.set i (.ob W')).set j .any)) (hS : putS f (.ob R) Ss = Ss' := by repeat (first | rfl | (unfold putS; first | rw [if_neg (by decide +kernel)] | rw [if_pos rfl]))) (hi : i < Γ.length := by first | decide | exact of_decide_eq_true rfl | (simp only [List.length_set, List.length_cons, List.length_nil]; decide)) (hl : Ss.length < 900 := by first | decide | exact of_decide_eq_true rfl | (simp only [List.length_set, List.length_cons, List.length_nil]; decide)) (hm : f ∈ fl := by first | exact List.mem_cons_self | decide)
    (hN : X.N[i]? = some x := by rfl) (hv : Vis X.env.scope x := by first | exact Or.inl rfl | exact Or.inr (Or.inl rfl) | exact Or.inr (Or.inr rfl)) (hd : (x == ("__debug__" : Str)) = false := by decide) (hcd : (x == ("__classdict__" : Str)) = false := by decide)
    (hs : swapsWith e (some (.Attribute (.Name x p') f q)) pos.line X.env = pure false := by rfl) : RnS X J N Γ (.Assign [.Attribute (.Name x p') f q] e pos) := .mk fun B0 σ B H Fs E j' =>
  toS (ps_fld (pe_var hN hv hd hcd) sE hs) (he.run σ B H Fs E _ fun l G B2 H2 n hG hGn => by
    subst hS
    obtain ⟨u, h1, h2⟩ := (E.nw n).at_ i _ hΓ
    obtain ⟨i1, i2⟩ := hp.inn h2
    obtain ⟨C, a, dx, vs, F', c1, rfl, c3, c4, c5, c6⟩ := i1
    have nG : ∀ b ∈ G, b ∉ Fs i := fun b hb z => by
      rcases (hGn b hb).2 with y | y
      · exact hij (E.dis i j b z y)
      · exact (E.fre i b z).2 y
    have aF : a ∈ Fs i := by rw [c3]; exact List.mem_cons_self
    obtain ⟨F2, g1, g2⟩ := c6.putO (f := f) (W := R) (G := G) hG (fun b hb z => nG b hb (by rw [c3]; exact List.mem_cons_of_mem _ z))
    have m : Mu (Fs i ++ Fs j) B2 H2 B2 (upd H2 a (.ins C dx (putF f l vs))) := ⟨.refl _, fun b o z => by
      have nb : b ≠ a := fun q => by
        have := ((E.nw n).fre i a aF).1
        rw [q, this] at z
        cases z
      rw [upd_ne nb]
      exact n.bh b o z, fun b o z hF => by
      rw [upd_ne (fun q => hF (by rw [q]; exact List.mem_append_left _ aF))]
      exact z, fun b z q => by
      by_cases y : b = a
      · rw [y, upd_same] at q
        cases q
      · rw [upd_ne y] at q
        exact z q, fun _ z _ => z⟩
    have na : a ∉ F2 := fun z => by
      rcases g2 a z with y | y
      · exact nG a y aF
      · exact c4 y
    have mm : Mu (Fs i ++ Fs j) B H B2 (upd H2 a (.ins C dx (putF f l vs))) := n.thenMu m
    have hFF : ∀ b ∈ a :: F2, b ∈ Fs i ∨ b ∈ G := fun b hb => by
      rcases List.mem_cons.mp hb with rfl | hb
      · exact .inl aF
      · rcases g2 b hb with y | y
        · exact .inr y
        · exact .inl (by rw [c3]; exact List.mem_cons_of_mem _ y)
    refine ⟨_, h1, a, C, dx, vs, rfl, c5, O.cl C c1, O.na C f c1 hm, by rw [c6.len]; omega, B2, _, _, E.take mm hij hi h1 (F2 := a :: F2) (i2 _ _ _ ⟨C, a, dx, _, F2, c1, rfl, rfl, na, upd_same, FlO.loc (fun b hb => upd_ne fun z => na (z ▸ hb)) g1⟩) (fun b hb => ?_), j'.take mm hj (fun b hb => ?_), h⟩
    · rcases hFF b hb with y | y
      · exact ⟨((E.nw n).fre i b y).1, .inl y⟩
      · exact ⟨(hGn b y).1, .inr (hGn b y).2⟩
    · rcases hFF b hb with y | y
      · exact .inl y
      · exact .inr (hGn b y).2)
end
/-! ### a tuple: lists of our own, then data -/
def tqO (dss : List (List D)) (d : D) : Ow where
  p := fun K B H v F => ∃ a ps u, v = .ref a ∧ F = a :: ps ∧ H a = some (.tup (ps.map .ref ++ [u])) ∧ F.Nodup ∧ LLs K B H ps dss ∧ Dp K B u d
  upB := fun e ⟨a, ps, u, h1, h2, h3, h4, h5, h6⟩ => ⟨a, ps, u, h1, h2, h3, h4, h5.mono e fun _ _ => rfl, dpUp e h6⟩
  loc := fun e ⟨a, ps, u, h1, h2, h3, h4, h5, h6⟩ => ⟨a, ps, u, h1, h2, (e a (by rw [h2]; exact List.mem_cons_self)).trans h3, h4, h5.mono (.refl _) fun b hb => e b (by rw [h2]; exact List.mem_cons_of_mem _ hb), h6⟩
  dom := fun ⟨a, ps, u, h1, h2, h3, h4, h5, h6⟩ b hb => by
    rw [h2] at hb
    rcases List.mem_cons.mp hb with e | e
    · rw [e, h3]
      exact fun z => nomatch z
    · exact h5.dom b e
theorem fz_tq (dss : List (List D)) (d : D) : Fz (tqO dss d) (.tuple (dss.map .list ++ [d])) := fun K B H v F h hF => by
  obtain ⟨a, ps, u, rfl, h2, h3, h4, h5, h6⟩ := h
  exact .tup (.of (by rw [ovl_in (by rw [h2]; exact List.mem_cons_self)]; exact h3)) (dps_app (h5.dps (ovl_ex hF) fun b hb => ovl_in (by rw [h2]; exact List.mem_cons_of_mem _ hb)) (.cons (dpUp (ovl_ex hF) h6) .nil))
structure GoNq (X : Cx) (Γ : Ga) (es : List Expr) (dss : List (List D)) (d : D) : Prop where
  run : ∀ σ B H Fs, En X.K B H σ Γ Fs → ∀ Q : List V → Hp → Prop,
  (∀ ps u B2 H2, Nw B H B2 H2 → (∀ a ∈ ps, H a = none ∧ B2 a = none) → ps.Nodup → LLs X.K B2 H2 ps dss → Dp X.K B2 u d → Q (ps.map .ref ++ [u]) H2) → wpA X es σ H Q
section
variable {X : Cx} {J : Jd} {N : Nd} {Γ : Ga} {e : Expr} {es : List Expr} {pos : Pos} {ds : List D} {dss : List (List D)} {d : D}
theorem gonq_one (he : Go X Γ e d) (hs : starEach [e] X.env = (false, eval e X.env) :: starEach [] X.env := by rfl) : GoNq X Γ [e] [] d := .mk fun σ B H Fs E Q q =>
  toA (pa_cons sE pa_nil hs) (he σ B H Fs E _ fun v B1 H1 n1 r1 => q [] v B1 H1 n1 (fun _ z => nomatch z) List.nodup_nil .nil r1)
theorem gonq_cons (he : GoN X Γ e ds) (ht : GoNq X Γ es dss d) (hs : starEach (e :: es) X.env = (false, eval e X.env) :: starEach es X.env := by rfl) : GoNq X Γ (e :: es) (ds :: dss) d := .mk fun σ B H Fs E Q q =>
  toA (pa_cons sE sA hs) (he σ B H Fs E _ fun p vs B1 H1 n1 hp hb hH hd => ht.run σ B1 H1 Fs (E.nw n1) _ fun ps u B2 H2 n2 hps nd ll hu => by
    refine q (p :: ps) u B2 H2 (n1.trans n2) (fun a ha => ?_) (List.nodup_cons.mpr ⟨fun z => ?_, nd⟩) (.cons (n2.hh _ _ hH) (dpsUp n2.bb hd) ll) hu
    · rcases List.mem_cons.mp ha with e | e
      · rw [e]
        exact ⟨hp, n2.nu p hb (by rw [hH]; exact fun z => nomatch z)⟩
      · exact ⟨n1.hh.none (hps a e).1, (hps a e).2⟩
    · have := (hps p z).1
      rw [hH] at this
      cases this)
theorem goU_tq {k0} (h : GoNq X Γ es dss d) (hl : dss.length + 1 ≤ sizeLine := by show _ ≤ _; simp only [List.length]; decide) : GoU X Γ (.Tuple es k0 pos) (tqO dss d) := .mk fun σ B H Fs E Q q =>
  toE (pe_tup sA) (h.run σ B H Fs E _ fun ps u B1 H1 n1 hps nd ll hu => by
    refine ⟨by rw [List.length_append, List.length_map, ll.len]; exact hl, fun p hp => ?_⟩
    have np : p ∉ ps := fun z => ll.dom p z hp
    refine q _ (p :: ps) B1 _ (n1.trans (.lay n1.bh hp)) ⟨p, ps, u, rfl, rfl, upd_same, List.nodup_cons.mpr ⟨np, nd⟩, ll.mono (.refl _) fun a ha => upd_ne fun z => np (z ▸ ha), hu⟩ fun a ha => ?_
    rcases List.mem_cons.mp ha with e | e
    · rw [e]
      exact ⟨n1.hh.none hp, n1.bh.none hp⟩
    · exact hps a e)
/-- x[e], a list within such a tuple -/
theorem gol_ixTq (i : Nat) {x : Str} {k : Nat} {p2} {ex : Expr} (he : Go X Γ ex (.int ((k : Nat) : Int))) (hk : dss[k]? = some ds) (hΓ : Γ[i]? = some (.ob (tqO dss d)) := by rfl) (hN : X.N[i]? = some x := by rfl) (hv : Vis X.env.scope x := by first | exact Or.inl rfl | exact Or.inr (Or.inl rfl) | exact Or.inr (Or.inr rfl))
    (hd : (x == ("__debug__" : Str)) = false := by decide) (hcd : (x == ("__classdict__" : Str)) = false := by decide) (hix : PlainIx ex := by exact fun _ _ => rfl) : GoL X Γ (.Subscript (.Name x p2) ex pos) i ds fun es => tqO (dss.set k es) d := .mk fun σ B H Fs E Q q => by
  obtain ⟨v, h1, a, ps, u, e1, e2, e3, e4, e5, e6⟩ := E.at_ i _ hΓ
  subst e1
  refine toE (pe_ix ix_tup (pe_var hN hv hd hcd) sE hix) ⟨_, h1, he σ B H Fs E _ fun w B2 H2 n r => ?_⟩
  have sm : ∀ b ∈ Fs i, H2 b = H b := fun b hb => by
    cases q : H b with
    | none => exact absurd q (E.fre i b hb).2
    | some o => exact n.hh b o q
  have e5 : LLs X.K B2 H2 ps dss := e5.mono n.bb fun b hb => sm b (by rw [e2]; exact List.mem_cons_of_mem _ hb)
  have e3 : H2 a = some (.tup (ps.map .ref ++ [u])) := n.hh _ _ e3
  obtain ⟨p, us, f1, f2, f3⟩ := e5.get hk
  have hp : p ∈ ps := List.mem_of_getElem? f1
  have np : p ≠ a := fun z => by
    rw [e2] at e4
    exact (List.nodup_cons.mp e4).1 (z ▸ hp)
  have hkl : k < ps.length := (List.getElem?_eq_some_iff.mp f1).1
  refine ⟨a, ps.map .ref ++ [u], (k : Nat), .ref p, rfl, dp_int r, .of e3, atI_nat (by rw [List.getElem?_append_left (by rw [List.length_map]; exact hkl), List.getElem?_map, f1]; rfl), ?_⟩
  refine q p us _ B2 H2 n h1 (by rw [e2]; exact List.mem_cons_of_mem _ hp) f2 f3 fun B' H' hB hH us es hu => ⟨a, ps, u, rfl, e2, ?_, e4, ?_, dpUp (n.bb.trans hB) e6⟩
  · rw [upd_ne (Ne.symm np), hH a (by rw [e2]; exact List.mem_cons_self)]
    exact e3
  · rw [e2] at e4
    exact (e5.mono hB fun b hb => hH b (by rw [e2]; exact List.mem_cons_of_mem _ hb)).set hu (List.nodup_cons.mp e4).2 f1
/-- x[e], a list within a list of lists -/
theorem gol_ixE (i : Nat) {x : Str} {k : Nat} {p2} {ex : Expr} (he : Go X Γ ex (.int ((k : Nat) : Int))) (hk : dss[k]? = some ds) (hΓ : Γ[i]? = some (.ob (llO dss)) := by rfl) (hN : X.N[i]? = some x := by rfl) (hv : Vis X.env.scope x := by first | exact Or.inl rfl | exact Or.inr (Or.inl rfl) | exact Or.inr (Or.inr rfl))
    (hd : (x == ("__debug__" : Str)) = false := by decide) (hcd : (x == ("__classdict__" : Str)) = false := by decide) (hix : PlainIx ex := by exact fun _ _ => rfl) : GoL X Γ (.Subscript (.Name x p2) ex pos) i ds fun es => llO (dss.set k es) := .mk fun σ B H Fs E Q q => by
  obtain ⟨v, h1, a, ps, e1, e2, e3, e4, e5⟩ := E.at_ i _ hΓ
  subst e1
  refine toE (pe_ix ix_list (pe_var hN hv hd hcd) sE hix) ⟨_, h1, he σ B H Fs E _ fun w B2 H2 n r => ?_⟩
  have sm : ∀ b ∈ Fs i, H2 b = H b := fun b hb => by
    cases q : H b with
    | none => exact absurd q (E.fre i b hb).2
    | some o => exact n.hh b o q
  have e5 : LLs X.K B2 H2 ps dss := e5.mono n.bb fun b hb => sm b (by rw [e2]; exact List.mem_cons_of_mem _ hb)
  have e3 : H2 a = some (.lst (ps.map .ref)) := n.hh _ _ e3
  obtain ⟨p, us, f1, f2, f3⟩ := e5.get hk
  have hp : p ∈ ps := List.mem_of_getElem? f1
  have np : p ≠ a := fun z => by
    rw [e2] at e4
    exact (List.nodup_cons.mp e4).1 (z ▸ hp)
  refine ⟨a, ps.map .ref, (k : Nat), .ref p, rfl, dp_int r, .of e3, atI_nat (by rw [List.getElem?_map, f1]; rfl), ?_⟩
  refine q p us _ B2 H2 n h1 (by rw [e2]; exact List.mem_cons_of_mem _ hp) f2 f3 fun B' H' hB hH us es hu => ⟨a, ps, rfl, e2, ?_, e4, ?_⟩
  · rw [upd_ne (Ne.symm np), hH a (by rw [e2]; exact List.mem_cons_self)]
    exact e3
  · rw [e2] at e4
    exact (e5.mono hB fun b hb => hH b (by rw [e2]; exact List.mem_cons_of_mem _ hb)).set hu (List.nodup_cons.mp e4).2 f1
end
end PL

set_option maxHeartbeats 2000000
namespace PL
open PySem PySem.Spec PyProof.Rows L2
/-! ### numbers by their places -/
theorem tb_add {x i : Nat} (h : x.testBit i = false) (j : Nat) : (2 ^ i + x).testBit j = (decide (i = j) || x.testBit j) := by
  have hp : 0 < 2 ^ i := Nat.two_pow_pos i
  have hb : x % 2 ^ (i + 1) < 2 ^ i := by
    have h1 : (x % 2 ^ (i + 1)).testBit i = false := by
      rw [Nat.testBit_mod_two_pow, h, Bool.and_false]
    have h2 : x % 2 ^ (i + 1) < 2 ^ (i + 1) := Nat.mod_lt _ (Nat.two_pow_pos _)
    by_cases h3 : x % 2 ^ (i + 1) < 2 ^ i
    · exact h3
    · have := Nat.testBit_of_two_pow_le_and_two_pow_add_one_gt (Nat.le_of_not_lt h3) h2
      rw [this] at h1
      cases h1
  have e : x = 2 ^ (i + 1) * (x / 2 ^ (i + 1)) + x % 2 ^ (i + 1) := (Nat.div_add_mod x _).symm
  generalize x / 2 ^ (i + 1) = a at e
  generalize x % 2 ^ (i + 1) = b at e hb
  have hb2 : 2 ^ i + b < 2 ^ (i + 1) := by
    rw [Nat.pow_succ]
    omega
  have hb3 : b < 2 ^ (i + 1) := by
    rw [Nat.pow_succ]
    omega
  rw [show 2 ^ i + x = 2 ^ (i + 1) * a + (2 ^ i + b) by omega, Nat.testBit_two_pow_mul_add a hb2 j, e, Nat.testBit_two_pow_mul_add a hb3 j]
  by_cases hj : j < i + 1
  · rw [if_pos hj, if_pos hj, show 2 ^ i + b = 2 ^ i * 1 + b by omega, Nat.testBit_two_pow_mul_add 1 hb j]
    by_cases hi : j < i
    · rw [if_pos hi, decide_eq_false (by omega : ¬ i = j), Bool.false_or]
    · have : i = j := by omega
      subst this
      rw [if_neg hi, Nat.sub_self, decide_eq_true rfl, Bool.true_or]
      rfl
  · rw [if_neg hj, if_neg hj, decide_eq_false (by omega : ¬ i = j), Bool.false_or]
/-- the number with 1 at the places ps -/
def ofP (ps : List Nat) : Nat := (ps.map fun p => 2 ^ p).sum
theorem tb_ofP : ∀ {ps : List Nat}, ps.Nodup → ∀ q, (ofP ps).testBit q = decide (q ∈ ps)
  | [], _, q => by
    rw [show ofP [] = 0 from rfl, Nat.zero_testBit]
    exact (decide_eq_false (by simp)).symm
  | p :: r, h, q => by
    have hn := List.nodup_cons.mp h
    have ih := tb_ofP hn.2
    have h0 : (ofP r).testBit p = false := by
      rw [ih]
      exact decide_eq_false hn.1
    rw [show ofP (p :: r) = 2 ^ p + ofP r from by unfold ofP; rw [List.map_cons, List.sum_cons], tb_add h0, ih]
    by_cases e : p = q
    · subst e
      simp
    · have : ¬ q = p := fun z => e z.symm
      simp [e, this]
theorem ofP_lt {ps : List Nat} {n : Nat} (h : ps.Nodup) (hl : ∀ p ∈ ps, p < n) : ofP ps < 2 ^ n := Nat.lt_pow_two_of_testBit _ fun i hi => by
  rw [tb_ofP h]
  exact decide_eq_false fun z => by
    have := hl i z
    omega
/-- the places of a number below 2 ^ n -/
def bitsOf (n N : Nat) : List Nat := (List.range n).filter fun p => N.testBit p
theorem bitsOf_nodup (n N : Nat) : (bitsOf n N).Nodup := List.nodup_range.filter _
theorem bitsOf_mem {n N p : Nat} : p ∈ bitsOf n N ↔ p < n ∧ N.testBit p = true := by
  unfold bitsOf
  rw [List.mem_filter, List.mem_range]
theorem ofP_bits {n N : Nat} (h : N < 2 ^ n) : ofP (bitsOf n N) = N := Nat.eq_of_testBit_eq fun i => by
  rw [tb_ofP (bitsOf_nodup n N)]
  by_cases hi : i < n
  · cases q : N.testBit i with
    | true => exact decide_eq_true (bitsOf_mem.mpr ⟨hi, q⟩)
    | false =>
      exact decide_eq_false (fun z => Bool.noConfusion (q.symm.trans (bitsOf_mem.mp z).2))
  · rw [Nat.testBit_lt_two_pow (Nat.lt_of_lt_of_le h (Nat.pow_le_pow_right (by decide) (Nat.le_of_not_lt hi)))]
    exact decide_eq_false fun z => hi (bitsOf_mem.mp z).1
theorem ofP_same {ps qs : List Nat} (h1 : ps.Nodup) (h2 : qs.Nodup) (h : ∀ p, p ∈ ps ↔ p ∈ qs) : ofP ps = ofP qs := Nat.eq_of_testBit_eq fun i => by
  rw [tb_ofP h1, tb_ofP h2]
  exact decide_eq_decide.mpr (h i)
theorem dig_tb (N p : Nat) : (((N : Int) / 2 ^ p % 2 : Int)) = if N.testBit p = true then 1 else 0 := by
  rw [Nat.testBit_eq_decide_div_mod_eq]
  have e : ((N : Int) / 2 ^ p % 2 : Int) = ((N / 2 ^ p % 2 : Nat) : Int) := by
    rw [Int.natCast_emod, Int.natCast_ediv, Int.natCast_pow]
    rfl
  rw [e]
  have : N / 2 ^ p % 2 < 2 := Nat.mod_lt _ (by decide)
  by_cases h : N / 2 ^ p % 2 = 1
  · rw [if_pos (decide_eq_true h), h]
    rfl
  · rw [if_neg (by simpa using h), show N / 2 ^ p % 2 = 0 by omega]
    rfl
theorem pow_cast (p : Nat) : ((2 : Int) ^ p) = ((2 ^ p : Nat) : Int) := by
  rw [Int.natCast_pow]
  rfl
/-- the sum of the steps of places -/
theorem sum_steps (ps : List Nat) : sumI (ps.map fun p => PyData.int ((2 : Int) ^ p)) = ((ofP ps : Nat) : Int) := by
  induction ps with
  | nil => rfl
  | cons p r ih =>
    show (2 : Int) ^ p + sumI (r.map fun p => PyData.int ((2 : Int) ^ p)) = _
    rw [ih, pow_cast, ← Int.natCast_add]
    unfold ofP
    rw [List.map_cons, List.sum_cons]
/-- a range of ints is one of nats -/
theorem rng0 (n : Nat) : rngI 0 (n : Int) = (List.range n).map fun i => ((i : Nat) : Int) := by
  unfold rngI
  rw [show ((n : Int) - 0).toNat = n by omega]
  exact List.map_congr_left fun i _ => Int.zero_add _
end PL

set_option maxHeartbeats 2000000
namespace PL
open PySem PySem.Spec PyProof.Rows L2
/-! ### rows, their digits, their spot -/
def dig (n : Nat) : List Nat := bitsOf 64 n
def xs : List Nat → Nat
  | [] => 0
  | p :: r => p ^^^ xs r
def spN (n : Nat) : Nat := xs (dig n)
theorem dig_nodup (n : Nat) : (dig n).Nodup := bitsOf_nodup 64 n
theorem dig_mem {n p : Nat} : p ∈ dig n ↔ p < 64 ∧ n.testBit p = true := bitsOf_mem
theorem dig_is {n m : Nat} (h : n < 2 ^ m) (hm : m ≤ 64) : bitsOf m n = dig n := by
  unfold dig bitsOf
  have e : List.range 64 = List.range m ++ (List.range (64 - m)).map (m + ·) := by
    rw [← List.range_add]
    congr 1
    omega
  rw [e, List.filter_append]
  have : ((List.range (64 - m)).map (m + ·)).filter (fun p => n.testBit p) = [] := by
    refine List.filter_eq_nil_iff.mpr fun p hp => ?_
    obtain ⟨i, _, rfl⟩ := List.mem_map.mp hp
    rw [Nat.testBit_lt_two_pow (Nat.lt_of_lt_of_le h (Nat.pow_le_pow_right (by decide) (Nat.le_add_right m i)))]
    exact Bool.false_ne_true
  rw [this, List.append_nil]
theorem ofP_dig {n : Nat} (h : n < 2 ^ 64) : ofP (dig n) = n := ofP_bits h
theorem xor_left (a b c : Nat) : a ^^^ (b ^^^ c) = b ^^^ (a ^^^ c) := by rw [← Nat.xor_assoc, Nat.xor_comm a b, Nat.xor_assoc]
theorem xs_perm {l m : List Nat} (h : l.Perm m) : xs l = xs m := by
  induction h with
  | nil => rfl
  | cons x _ ih => exact congrArg (x ^^^ ·) ih
  | swap x y l => exact xor_left y x (xs l)
  | trans _ _ h1 h2 => exact h1.trans h2
theorem xs_app (l m : List Nat) : xs (l ++ m) = xs l ^^^ xs m := by
  induction l with
  | nil => exact (Nat.zero_xor _).symm
  | cons p r ih => rw [List.cons_append, xs, xs, ih, Nat.xor_assoc]
theorem xs_lt {l : List Nat} {k : Nat} (h : ∀ p ∈ l, p < 2 ^ k) : xs l < 2 ^ k := by
  induction l with
  | nil => exact Nat.two_pow_pos k
  | cons p r ih => exact Nat.xor_lt_two_pow (h p List.mem_cons_self) (ih fun q hq => h q (List.mem_cons_of_mem _ hq))
theorem dig_ofP {l : List Nat} (nd : l.Nodup) (h : ∀ p ∈ l, p < 64) : (dig (ofP l)).Perm l :=
  (List.perm_ext_iff_of_nodup (dig_nodup _) nd).mpr fun p => by
    rw [dig_mem, tb_ofP nd]
    simp only [decide_eq_true_eq]
    exact ⟨fun z => z.2, fun z => ⟨h p z, z⟩⟩
theorem sp_ofP {l : List Nat} (nd : l.Nodup) (h : ∀ p ∈ l, p < 64) : spN (ofP l) = xs l := xs_perm (dig_ofP nd h)
theorem len_ofP {l : List Nat} (nd : l.Nodup) (h : ∀ p ∈ l, p < 64) : (dig (ofP l)).length = l.length := (dig_ofP nd h).length_eq
theorem tb_flip (n p i : Nat) : (n ^^^ 2 ^ p).testBit i = (n.testBit i != decide (p = i)) := by rw [Nat.testBit_xor, Nat.testBit_two_pow]
theorem dig_flip_in {n p : Nat} (hp : p < 64) (h : n.testBit p = true) : (dig n).Perm (p :: dig (n ^^^ 2 ^ p)) := by
  refine (List.perm_ext_iff_of_nodup (dig_nodup _) (List.nodup_cons.mpr ⟨fun z => ?_, dig_nodup _⟩)).mpr fun i => ?_
  · have := (dig_mem.mp z).2
    rw [tb_flip, h] at this
    simp at this
  · rw [List.mem_cons, dig_mem, dig_mem, tb_flip]
    by_cases e : p = i
    · subst e
      simp [h, hp]
    · simp [e, Ne.symm e]
theorem xor_twice (n m : Nat) : (n ^^^ m) ^^^ m = n := by rw [Nat.xor_assoc, Nat.xor_self, Nat.xor_zero]
theorem dig_flip_out {n p : Nat} (hp : p < 64) (h : n.testBit p = false) : (dig (n ^^^ 2 ^ p)).Perm (p :: dig n) := by
  have := dig_flip_in (n := n ^^^ 2 ^ p) hp (by rw [tb_flip, h]; simp)
  rwa [xor_twice] at this
theorem sp_flip {n p : Nat} (hp : p < 64) : spN (n ^^^ 2 ^ p) = spN n ^^^ p := by
  cases h : n.testBit p with
  | true =>
    have := xs_perm (dig_flip_in hp h)
    show xs _ = xs _ ^^^ p
    rw [this, xs, Nat.xor_comm p, xor_twice]
  | false =>
    have := xs_perm (dig_flip_out hp h)
    show xs _ = xs _ ^^^ p
    rw [this, xs, Nat.xor_comm p]
theorem par_flip {n p : Nat} (hp : p < 64) : (dig (n ^^^ 2 ^ p)).length % 2 = ((dig n).length + 1) % 2 := by
  cases h : n.testBit p with
  | true =>
    have := (dig_flip_in hp h).length_eq
    rw [List.length_cons] at this
    omega
  | false =>
    have := (dig_flip_out hp h).length_eq
    rw [List.length_cons] at this
    omega
theorem ofP_cons {p : Nat} {l : List Nat} (nd : (p :: l).Nodup) : ofP (p :: l) = ofP l ^^^ 2 ^ p := Nat.eq_of_testBit_eq fun i => by
  have hp := (List.nodup_cons.mp nd).1
  rw [tb_flip, tb_ofP nd, tb_ofP (List.nodup_cons.mp nd).2]
  by_cases e : p = i
  · subst e
    simp [hp]
  · simp [e, Ne.symm e]
theorem sp_xorP {l : List Nat} (nd : l.Nodup) (h : ∀ p ∈ l, p < 64) (n : Nat) : spN (n ^^^ ofP l) = spN n ^^^ xs l ∧ (dig (n ^^^ ofP l)).length % 2 = ((dig n).length + l.length) % 2 := by
  induction l with
  | nil =>
    have e : ofP [] = 0 := rfl
    rw [e, Nat.xor_zero]
    exact ⟨(Nat.xor_zero _).symm, rfl⟩
  | cons p r ih =>
    obtain ⟨i1, i2⟩ := ih (List.nodup_cons.mp nd).2 fun q hq => h q (List.mem_cons_of_mem _ hq)
    have hp := h p List.mem_cons_self
    rw [ofP_cons nd, ← Nat.xor_assoc, sp_flip hp, i1, par_flip hp]
    refine ⟨?_, ?_⟩
    · rw [xs, Nat.xor_assoc, Nat.xor_comm p]
    · rw [List.length_cons]
      omega
theorem sp_xor {n m : Nat} (h : m < 2 ^ 64) : spN (n ^^^ m) = spN n ^^^ spN m ∧ (dig (n ^^^ m)).length % 2 = ((dig n).length + (dig m).length) % 2 := by
  have := sp_xorP (dig_nodup m) (fun p hp => (dig_mem.mp hp).1) n
  rwa [ofP_dig h] at this
/-! ### words -/
def tO (b : Nat) : Nat := if b ≤ 4 then 2 else if b ≤ 11 then 3 else if b ≤ 26 then 4 else 5
def pls (b : Nat) : Nat := b + tO b + 2
def pws (t : Nat) : List Nat := (List.range (t + 1)).map fun k => 2 ^ k
def chks (b : Nat) : List Nat := 0 :: pws (tO b)
def dat (b : Nat) : List Nat := (List.range (pls b)).filter fun p => !(chks b).contains p
def dat_ (b k : Nat) : Nat := (dat b).getD k 0
theorem tO_le (b : Nat) : tO b ≤ 5 := by
  unfold tO
  split
  · decide
  · split
    · decide
    · split <;> decide
theorem dat_len {b : Nat} (h : 4 ≤ b ∧ b ≤ 32) : (dat b).length = b ∧ pls b ≤ 2 ^ (tO b + 1) ∧ pls b ≤ 39 := (by decide : ∀ b : Fin 33, 4 ≤ b.1 → (dat b.1).length = b.1 ∧ pls b.1 ≤ 2 ^ (tO b.1 + 1) ∧ pls b.1 ≤ 39) ⟨b, by omega⟩ h.1
theorem dat_nodup (b : Nat) : (dat b).Nodup := List.nodup_range.filter _
theorem dat_mem {b p : Nat} : p ∈ dat b ↔ p < pls b ∧ p ∉ chks b := by
  unfold dat
  rw [List.mem_filter, List.mem_range]
  simp
theorem dat_at {b k : Nat} (h : 4 ≤ b ∧ b ≤ 32) (hk : k < b) : (dat b)[k]? = some (dat_ b k) ∧ dat_ b k ∈ dat b := by
  have hl : k < (dat b).length := by rw [(dat_len h).1]; exact hk
  unfold dat_
  rw [List.getD_eq_getElem?_getD, List.getElem?_eq_getElem hl]
  exact ⟨rfl, List.getElem_mem hl⟩
theorem dat_inj {b k j : Nat} (h : 4 ≤ b ∧ b ≤ 32) (hk : k < b) (hj : j < b) (e : dat_ b k = dat_ b j) : k = j := by
  have h1 := (dat_at h hk).1
  have h2 := (dat_at h hj).1
  rw [e, ← h2] at h1
  exact (List.getElem?_inj (by rw [(dat_len h).1]; exact hk) (dat_nodup b)).mp h1
/-- the checks that bring a spot to nothing -/
def cks (t s : Nat) : List Nat := ((List.range (t + 1)).filter fun k => s.testBit k).map fun k => 2 ^ k
theorem cks_all : ∀ t : Fin 6, ∀ s : Fin 64, s.1 < 2 ^ (t.1 + 1) → xs (cks t.1 s.1) = s.1 := by decide +kernel
theorem xs_cks {t s : Nat} (ht : t ≤ 5) (h : s < 2 ^ (t + 1)) : xs (cks t s) = s :=
  cks_all ⟨t, by omega⟩ ⟨s, Nat.lt_of_lt_of_le h (Nat.pow_le_pow_right (by decide) (show t + 1 ≤ 6 by omega))⟩ h
theorem cks_mem {t s p : Nat} : p ∈ cks t s ↔ ∃ k, k ≤ t ∧ s.testBit k = true ∧ p = 2 ^ k := by
  unfold cks
  rw [List.mem_map]
  constructor
  · rintro ⟨k, hk, rfl⟩
    obtain ⟨h1, h2⟩ := List.mem_filter.mp hk
    exact ⟨k, by have := List.mem_range.mp h1; omega, h2, rfl⟩
  · rintro ⟨k, h1, h2, rfl⟩
    exact ⟨k, List.mem_filter.mpr ⟨List.mem_range.mpr (by omega), h2⟩, rfl⟩
theorem cks_nodup (t s : Nat) : (cks t s).Nodup := by
  unfold cks
  exact List.pairwise_map.mpr (List.Pairwise.imp (fun ne e => ne ((Nat.pow_right_inj (by decide)).mp e)) (List.nodup_range.filter _))
theorem cks_chk {b s p : Nat} (h : p ∈ cks (tO b) s) : p ∈ chks b ∧ p ≠ 0 ∧ p < 64 := by
  obtain ⟨k, h1, _, rfl⟩ := cks_mem.mp h
  have := tO_le b
  refine ⟨List.mem_cons_of_mem _ (List.mem_map.mpr ⟨k, List.mem_range.mpr (by omega), rfl⟩), Nat.pos_iff_ne_zero.mp (Nat.two_pow_pos k), ?_⟩
  exact Nat.lt_of_lt_of_le (Nat.pow_lt_pow_right (by decide) (show k < 6 by omega)) (by decide)
def on1 (b v : Nat) : List Nat := (dig v).map (dat_ b)
def s1 (b v : Nat) : Nat := spN (ofP (on1 b v))
def on2 (b v : Nat) : List Nat := on1 b v ++ cks (tO b) (s1 b v)
def on3 (b v : Nat) : List Nat := on2 b v ++ (if (on2 b v).length % 2 = 1 then [0] else [])
def codeN (b v : Nat) : Nat := ofP (on3 b v)
section
variable {b v : Nat} (h : 4 ≤ b ∧ b ≤ 32) (hv : v < 2 ^ b)
include h hv
theorem dig_below {k : Nat} (hk : k ∈ dig v) : k < b := by
  rw [← dig_is hv (by omega)] at hk
  exact (bitsOf_mem.mp hk).1
theorem on1_mem {p : Nat} (hp : p ∈ on1 b v) : p ∈ dat b := by
  obtain ⟨k, hk, rfl⟩ := List.mem_map.mp hp
  exact (dat_at h (dig_below h hv hk)).2
theorem on1_nodup : (on1 b v).Nodup :=
  List.pairwise_map.mpr (List.Pairwise.imp_of_mem (fun hx hy ne e => ne (dat_inj h (dig_below h hv hx) (dig_below h hv hy) e)) (dig_nodup v))
theorem on1_lt {p : Nat} (hp : p ∈ on1 b v) : p < 64 := by
  have := (dat_mem.mp (on1_mem h hv hp)).1
  have := (dat_len h).2.2
  omega
theorem s1_is : s1 b v = xs (on1 b v) := sp_ofP (on1_nodup h hv) fun p hp => on1_lt h hv hp
theorem s1_lt : s1 b v < 2 ^ (tO b + 1) := by
  rw [s1_is h hv]
  refine xs_lt fun p hp => ?_
  have := (dat_mem.mp (on1_mem h hv hp)).1
  have := (dat_len h).2.1
  omega
theorem on2_nodup : (on2 b v).Nodup := List.nodup_append.mpr ⟨on1_nodup h hv, cks_nodup _ _, fun p hp q hq e => (dat_mem.mp (on1_mem h hv hp)).2 (e ▸ (cks_chk hq).1)⟩
theorem on2_mem {p : Nat} (hp : p ∈ on2 b v) : p < 64 ∧ p ≠ 0 := by
  rcases List.mem_append.mp hp with z | z
  · exact ⟨on1_lt h hv z, fun e => (dat_mem.mp (on1_mem h hv z)).2 (e ▸ List.mem_cons_self)⟩
  · exact ⟨(cks_chk z).2.2, (cks_chk z).2.1⟩
theorem on3_nodup : (on3 b v).Nodup := by
  refine List.nodup_append.mpr ⟨on2_nodup h hv, ?_, fun p hp q hq e => ?_⟩
  · split <;> simp
  · split at hq
    · rw [List.mem_singleton.mp hq] at e
      exact (on2_mem h hv hp).2 e
    · cases hq
theorem on3_lt {p : Nat} (hp : p ∈ on3 b v) : p < pls b := by
  rcases List.mem_append.mp hp with z | z
  · rcases List.mem_append.mp z with z | z
    · exact (dat_mem.mp (on1_mem h hv z)).1
    · obtain ⟨k, h1, _, rfl⟩ := cks_mem.mp z
      exact (by decide : ∀ b : Fin 33, 4 ≤ b.1 → ∀ k : Fin 6, k.1 ≤ tO b.1 → 2 ^ k.1 < pls b.1) ⟨b, by omega⟩ h.1 ⟨k, by have := tO_le b; omega⟩ h1
  · split at z
    · rw [List.mem_singleton.mp z]
      unfold pls
      omega
    · cases z
theorem on3_64 {p : Nat} (hp : p ∈ on3 b v) : p < 64 := by
  have := on3_lt h hv hp
  have := (dat_len h).2.2
  omega
theorem code_lt : codeN b v < 2 ^ pls b := ofP_lt (on3_nodup h hv) fun p hp => on3_lt h hv hp
theorem code_sp : spN (codeN b v) = 0 := by
  unfold codeN
  rw [sp_ofP (on3_nodup h hv) fun p hp => on3_64 h hv hp]
  unfold on3 on2
  rw [xs_app, xs_app, ← s1_is h hv, xs_cks (tO_le b) (s1_lt h hv), Nat.xor_self, Nat.zero_xor]
  split <;> rfl
theorem code_par : (dig (codeN b v)).length % 2 = 0 := by
  unfold codeN
  rw [len_ofP (on3_nodup h hv) fun p hp => on3_64 h hv hp]
  unfold on3
  rw [List.length_append]
  split
  · show ((on2 b v).length + 1) % 2 = 0
    omega
  · show ((on2 b v).length + 0) % 2 = 0
    omega
theorem code_tb {j : Nat} (hj : j < b) : (codeN b v).testBit (dat_ b j) = v.testBit j := by
  unfold codeN
  rw [tb_ofP (on3_nodup h hv)]
  have hd := (dat_at h hj).2
  have e : dat_ b j ∈ on3 b v ↔ v.testBit j = true := by
    constructor
    · intro z
      rcases List.mem_append.mp z with z | z
      · rcases List.mem_append.mp z with z | z
        · obtain ⟨k, hk, e⟩ := List.mem_map.mp z
          have := dat_inj h (dig_below h hv hk) hj e
          subst this
          exact (dig_mem.mp hk).2
        · exact absurd (cks_chk z).1 (dat_mem.mp hd).2
      · split at z
        · rw [List.mem_singleton.mp z] at hd
          exact absurd List.mem_cons_self (dat_mem.mp hd).2
        · cases z
    · intro z
      exact List.mem_append_left _ (List.mem_append_left _ (List.mem_map.mpr ⟨j, dig_mem.mpr ⟨by omega, z⟩, rfl⟩))
  cases q : v.testBit j with
  | true => exact decide_eq_true (e.mpr q)
  | false => exact decide_eq_false fun z => by rw [e.mp z] at q; cases q
end
/-- the value within a row -/
def valN (b row : Nat) : Nat := ofP ((List.range b).filter fun j => row.testBit (dat_ b j))
theorem val_lt (b row : Nat) : valN b row < 2 ^ b := ofP_lt (List.nodup_range.filter _) fun p hp => List.mem_range.mp (List.mem_filter.mp hp).1
theorem val_tb {b row j : Nat} (hj : j < b) : (valN b row).testBit j = row.testBit (dat_ b j) := by
  unfold valN
  rw [tb_ofP (List.nodup_range.filter _)]
  cases q : row.testBit (dat_ b j) with
  | true => exact decide_eq_true (List.mem_filter.mpr ⟨List.mem_range.mpr hj, q⟩)
  | false => exact decide_eq_false fun z => by have := (List.mem_filter.mp z).2; rw [q] at this; cases this
theorem val_code {b v : Nat} (h : 4 ≤ b ∧ b ≤ 32) (hv : v < 2 ^ b) : valN b (codeN b v) = v := by
  unfold valN
  have : (List.range b).filter (fun j => (codeN b v).testBit (dat_ b j)) = bitsOf b v := List.filter_congr fun j hj => code_tb h hv (List.mem_range.mp hj)
  rw [this, ofP_bits hv]
/-- a row whose digits are all checks, whose spot is none and whose digits are even in number -/
theorem zero_of {b d : Nat} (h : 4 ≤ b ∧ b ≤ 32) (hl : d < 2 ^ pls b) (hd : ∀ j, j < b → d.testBit (dat_ b j) = false) (hs : spN d = 0) (hp : (dig d).length % 2 = 0) : d = 0 := by
  have ht := tO_le b
  have h64 : pls b ≤ 64 := by
    have := (dat_len h).2.2
    omega
  have all_chk : ∀ p ∈ dig d, p ∈ chks b := fun p hp => by
    by_cases q : p ∈ chks b
    · exact q
    · have hlt : p < pls b := by
        rw [← dig_is hl h64] at hp
        exact (bitsOf_mem.mp hp).1
      have hm : p ∈ dat b := dat_mem.mpr ⟨hlt, q⟩
      obtain ⟨k, hk, e⟩ := List.getElem_of_mem hm
      have hkb : k < b := by rw [(dat_len h).1] at hk; exact hk
      have e2 : dat_ b k = p := by
        have := (dat_at h hkb).1
        rw [List.getElem?_eq_getElem hk, e] at this
        exact (Option.some.inj this).symm
      have h1 := hd k hkb
      rw [e2, (dig_mem.mp hp).2] at h1
      cases h1
  let ks := (List.range (tO b + 1)).filter fun k => d.testBit (2 ^ k)
  have ks_nd : ks.Nodup := List.nodup_range.filter _
  have ks_lt : ∀ k ∈ ks, k < tO b + 1 := fun k hk => List.mem_range.mp (List.mem_filter.mp hk).1
  have hcks : cks (tO b) (ofP ks) = ks.map fun k => 2 ^ k := by
    unfold cks
    congr 1
    refine List.filter_congr fun k hk => ?_
    rw [tb_ofP ks_nd]
    cases q : d.testBit (2 ^ k) with
    | true => exact decide_eq_true (List.mem_filter.mpr ⟨hk, q⟩)
    | false => exact decide_eq_false fun z => by have := (List.mem_filter.mp z).2; rw [q] at this; cases this
  have perm : (dig d).Perm ((if d.testBit 0 = true then [0] else []) ++ cks (tO b) (ofP ks)) := by
    refine (List.perm_ext_iff_of_nodup (dig_nodup d) (List.nodup_append.mpr ⟨by split <;> simp, cks_nodup _ _, fun p hp q hq e => ?_⟩)).mpr fun p => ?_
    · split at hp
      · rw [List.mem_singleton.mp hp] at e
        exact (cks_chk hq).2.1 e.symm
      · cases hp
    · rw [List.mem_append, hcks, List.mem_map]
      constructor
      · intro hp
        rcases List.mem_cons.mp (all_chk p hp) with e | e
        · left
          rw [if_pos (e ▸ (dig_mem.mp hp).2), e]
          exact List.mem_singleton.mpr rfl
        · right
          obtain ⟨k, hk, rfl⟩ := List.mem_map.mp e
          exact ⟨k, List.mem_filter.mpr ⟨hk, (dig_mem.mp hp).2⟩, rfl⟩
      · rintro (z | ⟨k, hk, rfl⟩)
        · split at z
          · rename_i q
            rw [List.mem_singleton.mp z]
            exact dig_mem.mpr ⟨by decide, q⟩
          · cases z
        · have hk2 := ks_lt k hk
          exact dig_mem.mpr ⟨Nat.lt_of_lt_of_le (Nat.pow_lt_pow_right (by decide) (show k < 6 by omega)) (by decide), (List.mem_filter.mp hk).2⟩
  have x0 : xs (dig d) = ofP ks := by
    rw [xs_perm perm, xs_app, xs_cks ht (ofP_lt ks_nd ks_lt)]
    split
    · show (0 ^^^ 0) ^^^ _ = _
      rw [Nat.xor_self, Nat.zero_xor]
    · exact Nat.zero_xor _
  have k0 : ofP ks = 0 := x0.symm.trans hs
  have c0 : cks (tO b) (ofP ks) = [] := by
    rw [k0]
    unfold cks
    rw [List.filter_eq_nil_iff.mpr fun k _ => by rw [Nat.zero_testBit]; exact Bool.false_ne_true]
    rfl
  have hlen := perm.length_eq
  rw [c0, List.append_nil] at hlen
  have nil : dig d = [] := by
    by_cases q : d.testBit 0 = true
    · rw [if_pos q] at hlen
      rw [hlen] at hp
      cases hp
    · rw [if_neg q] at hlen
      exact List.eq_nil_of_length_eq_zero hlen
  have := ofP_dig (n := d) (Nat.lt_of_lt_of_le hl (Nat.pow_le_pow_right (by decide) h64))
  rw [nil] at this
  exact this.symm
theorem is_code {b row : Nat} (h : 4 ≤ b ∧ b ≤ 32) (hl : row < 2 ^ pls b) (hs : spN row = 0) (hp : (dig row).length % 2 = 0) : row = codeN b (valN b row) := by
  have hv := val_lt b row
  have hc := code_lt h hv
  have h64 : codeN b (valN b row) < 2 ^ 64 := Nat.lt_of_lt_of_le hc (Nat.pow_le_pow_right (by decide) (by have := (dat_len h).2.2; omega))
  have x := sp_xor (n := row) h64
  have e : row ^^^ codeN b (valN b row) = 0 := by
    refine zero_of h (Nat.xor_lt_two_pow hl hc) (fun j hj => ?_) ?_ ?_
    · rw [Nat.testBit_xor, code_tb h hv hj, val_tb hj, Bool.xor_self]
    · rw [x.1, hs, code_sp h hv]
      rfl
    · rw [x.2, Nat.add_mod, hp, code_par h hv]
  have := xor_twice row (codeN b (valN b row))
  rw [e, Nat.zero_xor] at this
  exact this.symm
end PL

set_option maxHeartbeats 2000000
namespace PL
open PySem PySem.Spec PyProof.Rows L2
/-! ### natural numbers as data -/
abbrev nz (l : List Nat) : List Int := l.map fun p => ((p : Nat) : Int)
abbrev nats (l : List Nat) : D := .list ((nz l).map .int)
abbrev nat (n : Nat) : D := .int ((n : Nat) : Int)
theorem bXor_n (a b : Nat) : Builtin.bitXor (a : Int) (b : Int) = ((a ^^^ b : Nat) : Int) := Bits.bitXor_pp (Int.natCast_nonneg _) (Int.natCast_nonneg _)
theorem bOr_n (a b : Nat) : Builtin.bitOr (a : Int) (b : Int) = ((a ||| b : Nat) : Int) := bitOr_nn (Int.natCast_nonneg _) (Int.natCast_nonneg _)
theorem bAnd_n (a b : Nat) : Builtin.bitAnd (a : Int) (b : Int) = ((a &&& b : Nat) : Int) := bitAnd_pp (Int.natCast_nonneg _) (Int.natCast_nonneg _)
theorem shr_n (a p : Nat) : (a : Int) / 2 ^ p = ((a / 2 ^ p : Nat) : Int) := by
  rw [pow_cast]
  rfl
theorem bit1_n (a p : Nat) : Builtin.bitAnd ((a : Int) / 2 ^ p) 1 = if a.testBit p = true then 1 else 0 := by
  rw [shr_n]
  have : ((1 : Int)) = ((1 : Nat) : Int) := rfl
  rw [this, bAnd_n, Nat.and_one_is_mod]
  have h := dig_tb a p
  rw [shr_n] at h
  exact h
theorem bit1_d (a p : Nat) : decide (Builtin.bitAnd ((a : Int) / 2 ^ p) 1 = 1) = a.testBit p := by
  rw [bit1_n]
  cases a.testBit p <;> rfl
theorem bits_lt (n : Nat) : n < 2 ^ Builtin.Int.intBits (n : Int) := by
  unfold Builtin.Int.intBits
  by_cases h : n = 0
  · subst h
    decide
  · have : ((n : Int) == 0) = false := by simpa using h
    rw [this]
    show n < 2 ^ (n.log2 + 1)
    exact Nat.lt_log2_self
theorem bits_le {n m : Nat} (h : n < 2 ^ m) : Builtin.Int.intBits (n : Int) ≤ m := by
  unfold Builtin.Int.intBits
  by_cases h0 : n = 0
  · subst h0
    exact Nat.zero_le m
  · have : ((n : Int) == 0) = false := by simpa using h0
    rw [this]
    show n.log2 + 1 ≤ m
    exact (Nat.log2_lt h0).mpr h
theorem digs_is {n : Nat} (h : n < 2 ^ 64) : ((rngI 0 (Builtin.Int.intBits (n : Int) : Nat)).filter fun x => decide (Builtin.bitAnd ((n : Int) / 2 ^ x.toNat) 1 = 1)) = nz (dig n) := by
  rw [rng0, List.filter_map]
  have : List.filter ((fun x : Int => decide (Builtin.bitAnd ((n : Int) / 2 ^ x.toNat) 1 = 1)) ∘ fun i : Nat => (i : Int)) (List.range (Builtin.Int.intBits (n : Int))) = bitsOf (Builtin.Int.intBits (n : Int)) n :=
    List.filter_congr fun p _ => bit1_d n p
  rw [this, dig_is (bits_lt n) (bits_le h)]
theorem nz_mem {l : List Nat} {z : Int} : z ∈ nz l ↔ ∃ p ∈ l, z = ((p : Nat) : Int) := by
  rw [List.mem_map]
  exact ⟨fun ⟨p, h, e⟩ => ⟨p, h, e.symm⟩, fun ⟨p, h, e⟩ => ⟨p, h, e.symm⟩⟩
theorem nz_has (l : List Nat) (p : Nat) : (nz l).contains (p : Int) = l.contains p := by
  induction l with
  | nil => rfl
  | cons q r ih =>
    have e : nz (q :: r) = ((q : Nat) : Int) :: nz r := rfl
    rw [e, List.contains_cons, List.contains_cons, ih]
    congr 1
    by_cases h : p = q
    · subst h
      rw [beq_self_eq_true, beq_self_eq_true]
    · have : ¬ ((p : Int) = (q : Int)) := fun z => h (Int.ofNat.inj z)
      rw [beq_eq_false_iff_ne.mpr h, beq_eq_false_iff_ne.mpr this]
theorem nz_at {l : List Nat} {k : Nat} {d : D} (h : ((nz l).map PyData.int)[k]? = some d) : ∃ p, l[k]? = some p ∧ d = nat p := by
  rw [List.getElem?_map, List.getElem?_map] at h
  cases q : l[k]? with
  | none => rw [q] at h; cases h
  | some p => rw [q] at h; exact ⟨p, rfl, (Option.some.inj h).symm⟩
theorem nz_len (l : List Nat) : ((nz l).map PyData.int).length = l.length := by rw [List.length_map, List.length_map]
theorem dig_len (n : Nat) : (dig n).length ≤ 64 := by
  have := List.length_filter_le (fun p => n.testBit p) (List.range 64)
  rw [List.length_range] at this
  exact this
theorem sp_lt (n : Nat) : spN n < 64 := xs_lt (k := 6) fun p hp => (dig_mem.mp hp).1
/-- the state of a row as it is told -/
def stD (b row : Nat) : D := if (dig row).length % 2 = 1 then (if spN row < pls b then .tuple [.str "one", nat (spN row)] else .tuple [.str "more", .none])
  else (if spN row = 0 then .tuple [.str "clean", .none] else .tuple [.str "more", .none])
def Bt4 (b : Nat) : Prop := 4 ≤ b ∧ b ≤ 32
end PL

set_option maxHeartbeats 4000000
namespace PL
open PySem PySem.Spec PyProof.Rows L2
/-! ### x in ys, of texts -/
theorem hasD_strs (ks : List Str) (x : Str) : hasD (ks.map .str) (.str x) = decide (x ∈ ks) := by
  induction ks with
  | nil => rfl
  | cons k r ih =>
    unfold hasD at ih ⊢
    rw [List.map_cons, List.any_cons, ih, eqv_str]
    by_cases e : k = x
    · subst e
      simp
    · rw [beq_eq_false_iff_ne.mpr e, Bool.false_or]
      refine decide_eq_decide.mpr ⟨List.mem_cons_of_mem _, fun h => ?_⟩
      rcases List.mem_cons.mp h with h | h
      · exact absurd h.symm e
      · exact h
theorem strs_flat (ks : List Str) : (ks.map PyData.str).all flatD = true := List.all_eq_true.mpr fun d hd => by
  obtain ⟨x, _, rfl⟩ := List.mem_map.mp hd
  rfl
def InOk (x y : D) (k : Bool) : Prop := match x, y with
  | .str s, .list ds => ∃ ks : List Str, ds = ks.map .str ∧ k = decide (s ∈ ks)
  | .str s, .tuple ds => ∃ ks : List Str, ds = ks.map .str ∧ k = decide (s ∈ ks)
  | .str s, .str z => ∃ c, s = ⟨#[c]⟩ ∧ k = decide (c ∈ z.cps.toList)
  | _, _ => False
section
variable {X : Cx} {Γ : Ga} {a b : Expr} {x y : D} {k : Bool}
theorem gc_inL {ds : List D} (ha : Go X Γ a x) (hb : Go X Γ b (.list ds)) (h1 : flatD x = true) (h2 : ds.all flatD = true) : GoC X Γ .In a b (hasD ds x) := go_cmp2 op_in_seq ha hb fun v w B H hB r1 r2 Q q => by
  obtain ⟨l, vs, rfl, h3, h4⟩ := dp_lst r2
  obtain ⟨e1, e2⟩ := flat_in r1 h1 h4 h2
  refine ⟨l, vs, rfl, .inl (hB.sl h3), flat_v r1 h1, e2, ?_⟩
  rw [e1]
  exact q
theorem gc_ninL {ds : List D} (ha : Go X Γ a x) (hb : Go X Γ b (.list ds)) (h1 : flatD x = true) (h2 : ds.all flatD = true) : GoC X Γ .NotIn a b (!hasD ds x) := go_cmp2 op_notIn_seq ha hb fun v w B H hB r1 r2 Q q => by
  obtain ⟨l, vs, rfl, h3, h4⟩ := dp_lst r2
  obtain ⟨e1, e2⟩ := flat_in r1 h1 h4 h2
  refine ⟨l, vs, rfl, .inl (hB.sl h3), flat_v r1 h1, e2, ?_⟩
  rw [e1]
  exact q
theorem gx_in (ha : Go X Γ a x) (hb : Go X Γ b y) (h : InOk x y k := by exact ⟨_, rfl, rfl⟩) : GoC X Γ .In a b k := by
  cases x <;> cases y <;> (try exact h.elim)
  · obtain ⟨c, rfl, rfl⟩ := h
    exact gc_inSign ha hb
  · obtain ⟨ks, rfl, rfl⟩ := h
    rw [← hasD_strs]
    exact gc_inL ha hb rfl (strs_flat _)
  · obtain ⟨ks, rfl, rfl⟩ := h
    rw [← hasD_strs]
    exact gc_inT ha hb rfl (strs_flat _)
theorem gx_nin (ha : Go X Γ a x) (hb : Go X Γ b y) (h : InOk x y k := by exact ⟨_, rfl, rfl⟩) (hl : ∀ z, y ≠ .str z := by exact fun _ h => nomatch h) : GoC X Γ .NotIn a b (!k) := by
  cases x <;> cases y <;> (try exact h.elim)
  · exact absurd rfl (hl _)
  · obtain ⟨ks, rfl, rfl⟩ := h
    rw [← hasD_strs]
    exact gc_ninL ha hb rfl (strs_flat _)
  · obtain ⟨ks, rfl, rfl⟩ := h
    rw [← hasD_strs]
    exact gc_notInT ha hb rfl (strs_flat _)
end
section
variable {X : Cx} {Γ : Ga} {a : Expr} {x : D} {xs : List Str} {p p2 q pos : Pos}
theorem gx_lenSet (hc : X.calm = true) (hm : X.mg "len" = none) (hm2 : X.mg "set" = none) (ha : Go X Γ a x) (hs : SeqOk x (xs.map .str) := by exact rfl) (hl : xs.length < 4000 := by walk_at "pside") (hg : Gl X "len" := by rfl) (hg2 : Gl X "set" := by rfl)
    (na : starEach [a] X.env = (false, eval a X.env) :: starEach [] X.env := by rfl) : Go X Γ (.Call (.Name "len" p) [.Call (.Name "set" p2) [a] [] q] [] pos) (.int (dif xs).length) := go_lenSetS hc hm hm2 ha hs hl hg hg2 na
theorem gx_sort (hu : UOk X) (hm : X.mg "sorted" = none) (ha : Go X Γ a x) (hs : SeqOk x (xs.map .str) := by exact rfl) (hl : xs.length ≤ 1000000 := by walk_at "pside") (hg : Gl X "sorted" := by rfl) (he : starEach [a] X.env = (false, eval a X.env) :: starEach [] X.env := by rfl) :
    GoN X Γ (.Call (.Name "sorted" p) [a] [] pos) ((sortS xs).map .str) := goN_sortS hu hm ha hs hl hg he
theorem gx_sortSet (hu : UOk X) (hc : X.calm = true) (hm : X.mg "sorted" = none) (hm2 : X.mg "set" = none) (ha : Go X Γ a x) (hs : SeqOk x (xs.map .str) := by exact rfl) (hl : xs.length < 4000 := by walk_at "pside") (hg : Gl X "sorted" := by rfl) (hg2 : Gl X "set" := by rfl)
    (na : starEach [a] X.env = (false, eval a X.env) :: starEach [] X.env := by rfl) : GoN X Γ (.Call (.Name "sorted" p) [.Call (.Name "set" p2) [a] [] q] [] pos) ((sortS (dif xs)).map .str) := goN_sortSetS hu hc hm hm2 ha hs hl hg hg2 na
end
/-! ### names, lots -/
def letS : Str := "abcdefghijklmnopqrstuvwxyz0123456789"
def isNmB (x : Str) : Bool := (decide ((1 : Int) ≤ (x.length : Int)) && decide ((x.length : Int) ≤ 12)) && x.cps.toList.all fun c => decide (c ∈ letS.cps.toList)
def eL (l : List Str) : D := .tuple (l.map .str)
def eO : Option Str → D
  | none => .none
  | some x => .str x
def risB (l : List Str) : Bool := (List.range (l.length - 1)).all fun k => ltS (l.getD k ⟨#[]⟩) (l.getD (k + 1) ⟨#[]⟩)
def isLotB (l : List Str) : Bool := l.all isNmB && risB l
def inB (l ks : List Str) : Bool := l.all fun x => decide (x ∈ ks)
def lotOfB (l ks : List Str) : Bool := isLotB l && inB l ks
def turnB (on off hs : List Str) : Bool := lotOfB on hs && (lotOfB off hs && !(on.any fun x => decide (x ∈ off)))
theorem ris_iff {l : List Str} : risB l = true ↔ l.Pairwise fun a b => ltS a b = true := by
  have trans : ∀ {a b c : Str}, ltS a b = true → ltS b c = true → ltS a c = true := fun {a b c} h1 h2 => by
    obtain ⟨p1, q1⟩ := ltS_iff.mp h1
    obtain ⟨p2, q2⟩ := ltS_iff.mp h2
    refine ltS_iff.mpr ⟨leS_trans _ _ _ p1 p2, fun e => ?_⟩
    subst e
    exact q1 (leS_anti p1 p2)
  have key : (∀ k, k + 1 < l.length → ltS (l.getD k ⟨#[]⟩) (l.getD (k + 1) ⟨#[]⟩) = true) ↔ l.Pairwise fun a b => ltS a b = true := by
    induction l with
    | nil => exact ⟨fun _ => .nil, fun _ k h => absurd h (by simp)⟩
    | cons x r ih =>
      constructor
      · intro h
        have hr := ih.mp fun k hk => by
          have := h (k + 1) (by rw [List.length_cons]; omega)
          simpa using this
        refine List.pairwise_cons.mpr ⟨fun y hy => ?_, hr⟩
        cases r with
        | nil => cases hy
        | cons z r' =>
          have h0 : ltS x z = true := by
            have := h 0 (by simp)
            simpa using this
          rcases List.mem_cons.mp hy with e | e
          · rw [e]
            exact h0
          · exact trans h0 ((List.pairwise_cons.mp hr).1 y e)
      · intro h k hk
        obtain ⟨h1, h2⟩ := List.pairwise_cons.mp h
        cases k with
        | zero =>
          cases r with
          | nil => simp at hk
          | cons z r' => simpa using h1 z List.mem_cons_self
        | succ k =>
          have := ih.mpr h2 k (by rw [List.length_cons] at hk; omega)
          simpa using this
  rw [← key]
  unfold risB
  rw [List.all_eq_true]
  exact ⟨fun h k hk => h k (List.mem_range.mpr (by omega)), fun h k hk => h k (by have := List.mem_range.mp hk; omega)⟩
/-! ### books -/
structure Md where
  n : Str
  on : List Str
  off : List Str
structure Cm where
  n : Str
  ms : List Str
  on : List Str
  off : List Str
  to : Option Str
structure Al where
  n : Str
  on : List Str
  off : List Str
  to : Option Str
structure Rw where
  n : Str
  st : List (Int × Str)
structure Bk where
  holds : List Str
  modes : List Md
  barred : List (List Str)
  cmds : List Cm
  alarms : List Al
  rows : List Rw
  quiet : Option Int
def eM (m : Md) : D := .tuple [.str m.n, eL m.on, eL m.off]
def eC (c : Cm) : D := .tuple [.str c.n, eL c.ms, eL c.on, eL c.off, eO c.to]
def eA (a : Al) : D := .tuple [.str a.n, eL a.on, eL a.off, eO a.to]
def eSt (s : Int × Str) : D := .tuple [.int s.1, .str s.2]
def eR (r : Rw) : D := .tuple [.str r.n, .tuple (r.st.map eSt)]
def eQ : Option Int → D
  | none => .none
  | some q => .int q
/-- what names must be -/
structure NmsOk (l : List Str) (lo hi : Nat) : Prop where
  lo : lo ≤ l.length
  hi : l.length ≤ hi
  nm : ∀ x ∈ l, isNmB x = true
  nd : l.Nodup
def toOk (to : Option Str) (ms : List Str) : Prop := ∀ x, to = some x → x ∈ ms
abbrev Bk.mn (b : Bk) : List Str := b.modes.map Md.n
abbrev Bk.cn (b : Bk) : List Str := b.cmds.map Cm.n
abbrev Bk.an (b : Bk) : List Str := b.alarms.map Al.n
abbrev Bk.rn (b : Bk) : List Str := b.rows.map Rw.n
structure BkOk (b : Bk) : Prop where
  h : NmsOk b.holds 1 6
  m : NmsOk b.mn 1 5
  c : NmsOk b.cn 0 8
  a : NmsOk b.an 0 4
  r : NmsOk b.rn 0 3
  mT : ∀ m ∈ b.modes, turnB m.on m.off b.holds = true
  cM : ∀ c ∈ b.cmds, lotOfB c.ms b.mn = true
  cE : ∀ c ∈ b.cmds, turnB c.on c.off b.holds = true ∧ toOk c.to b.mn
  aE : ∀ a ∈ b.alarms, turnB a.on a.off b.holds = true ∧ toOk a.to b.mn
  rS : ∀ r ∈ b.rows, 1 ≤ r.st.length ∧ r.st.length ≤ 4 ∧ ∀ s ∈ r.st, 1 ≤ s.1 ∧ s.1 ≤ 9 ∧ s.2 ∈ b.cn
  q : ∀ q, b.quiet = some q → 1 ≤ q ∧ q ≤ 30
  b1 : b.barred.length ≤ 8
  b2 : b.barred.Nodup
  b3 : ∀ l ∈ b.barred, 2 ≤ l.length ∧ lotOfB l b.holds = true
theorem nm_len {x : Str} (h : isNmB x = true) : 1 ≤ x.length ∧ x.length ≤ 12 := by
  unfold isNmB at h
  rw [Bool.and_eq_true, Bool.and_eq_true, decide_eq_true_iff, decide_eq_true_iff] at h
  omega
theorem nm_ok {x : Str} (h : isNmB x = true) : PyData.strOk x = true := by
  unfold isNmB at h
  rw [Bool.and_eq_true] at h
  have h2 := List.all_eq_true.mp h.2
  unfold PyData.strOk
  rw [Array.all_eq_true']
  intro c hc
  have hm := of_decide_eq_true (h2 c (Array.mem_toList_iff.mpr hc))
  have hall : letS.cps.toList.all (fun c => decide (c < 0x110000)) = true := by decide +kernel
  exact List.all_eq_true.mp hall c hm
theorem shp_nm {x : Str} (h : isNmB x = true) (n : Nat) : Shp n (.str x) := ⟨nm_ok h, Nat.zero_le _⟩
theorem lot_nm {l : List Str} (h : isLotB l = true) : ∀ x ∈ l, isNmB x = true := by
  unfold isLotB at h
  rw [Bool.and_eq_true] at h
  exact fun x hx => List.all_eq_true.mp h.1 x hx
theorem lot_pw {l : List Str} (h : isLotB l = true) : l.Pairwise fun a b => ltS a b = true := by
  unfold isLotB at h
  rw [Bool.and_eq_true] at h
  exact ris_iff.mp h.2
theorem lot_nd {l : List Str} (h : isLotB l = true) : l.Nodup := (lot_pw h).imp fun h => (ltS_iff.mp h).2
theorem lot_sort {l : List Str} (h : isLotB l = true) : sortS l = l := sortS_self ((lot_pw h).imp fun h => (ltS_iff.mp h).1)
theorem lotOf {l ks : List Str} (h : lotOfB l ks = true) : isLotB l = true ∧ ∀ x ∈ l, x ∈ ks := by
  unfold lotOfB inB at h
  rw [Bool.and_eq_true] at h
  exact ⟨h.1, fun x hx => of_decide_eq_true (List.all_eq_true.mp h.2 x hx)⟩
theorem turn_of {on off hs : List Str} (h : turnB on off hs = true) : lotOfB on hs = true ∧ lotOfB off hs = true ∧ ∀ x ∈ on, x ∉ off := by
  unfold turnB at h
  rw [Bool.and_eq_true, Bool.and_eq_true, Bool.not_eq_true'] at h
  refine ⟨h.1, h.2.1, fun x hx hy => ?_⟩
  have := List.any_eq_false.mp h.2.2 x hx
  exact this (decide_eq_true hy)
theorem nodup_len {l m : List Str} (h : l.Nodup) (hs : ∀ x ∈ l, x ∈ m) : l.length ≤ m.length := by
  rcases Nat.lt_or_ge l.length m.length with q | q
  · omega
  · exact Nat.le_of_eq (sub_perm h hs q).length_eq
end PL
namespace PL
open PySem PySem.Spec PyProof.Rows L2
/-! ### what the class Book asks -/
theorem atI_head {d : D} {ds : List D} : atI (d :: ds) 0 = some d := atI_get' (k := 0) rfl rfl
theorem allT {l : List D} (h : ∀ d ∈ l, d = .bool true) : l.all truB = true := List.all_eq_true.mpr fun d hd => by
  rw [h d hd]
  rfl
theorem boolsT {l : List D} (h : ∀ d ∈ l, d = .bool true) : IsBools l := fun d hd => ⟨true, h d hd⟩
theorem mapT {α : Type} {xs : List α} {f : α → Bool} (h : ∀ x ∈ xs, f x = true) : ((xs.map fun x => PyData.bool (f x)).all truB) = true := allT fun d hd => by
  obtain ⟨x, hx, rfl⟩ := List.mem_map.mp hd
  rw [h x hx]
def Bk.cmdsS (b : Bk) : List Cm := b.cmds.mergeSort fun x y => leS x.n y.n
def Bk.partsL (b : Bk) : List (Str × List D) := [("mode", b.modes.map eM), ("command", b.cmdsS.map eC), ("alarm", b.alarms.map eA), ("row", b.rows.map eR)]
def Bk.parts (b : Bk) : List (Str × D) := [("mode", .list (b.modes.map eM)), ("command", .list (b.cmdsS.map eC)), ("alarm", .list (b.alarms.map eA)), ("row", .list (b.rows.map eR))]
def bookO (b : Bk) : Ow := insO "Book" [("_holds", .own ((sortS b.holds).map .str)), ("_barred", .own (srt (b.barred.map eL))), ("_parts", .ob (dclO b.partsL)), ("_quiet", .dat (eQ b.quiet))]
def bookP (b : Bk) : Mn := insP "Book" [("_holds", datP (.list ((sortS b.holds).map .str))), ("_barred", datP (.list (srt (b.barred.map eL)))), ("_parts", dctP b.parts), ("_quiet", datP (eQ b.quiet))]
theorem fz_book (b : Bk) : FzM (bookO b) (bookP b) := fz_ins (.ob (fzM_of (fz_lst _)) (.ob (fzM_of (fz_lst _)) (.ob (fz_dcl b.partsL) (.pr .nil))))
theorem noL_L (l : List Str) : NoL (eL l) := .tup (noLs_of fun d hd => by
  obtain ⟨x, _, rfl⟩ := List.mem_map.mp hd
  exact .str x)
theorem noL_O : ∀ o : Option Str, NoL (eO o)
  | none => .non
  | some x => .str x
theorem noL_M (m : Md) : NoL (eM m) := .tup (.cons (.str _) (.cons (noL_L _) (.cons (noL_L _) .nil)))
theorem noL_C (m : Cm) : NoL (eC m) := .tup (.cons (.str _) (.cons (noL_L _) (.cons (noL_L _) (.cons (noL_L _) (.cons (noL_O _) .nil)))))
theorem noL_A (m : Al) : NoL (eA m) := .tup (.cons (.str _) (.cons (noL_L _) (.cons (noL_L _) (.cons (noL_O _) .nil))))
theorem noL_R (m : Rw) : NoL (eR m) := .tup (.cons (.str _) (.cons (.tup (noLs_of fun d hd => by
  obtain ⟨x, _, rfl⟩ := List.mem_map.mp hd
  exact .tup (.cons (.int _) (.cons (.str _) .nil)))) .nil))
theorem noL_Q : ∀ o : Option Int, NoL (eQ o)
  | none => .non
  | some x => .int x
theorem noLs_map {α : Type} {f : α → D} (h : ∀ x, NoL (f x)) (xs : List α) : NoLs (xs.map f) := noLs_of fun d hd => by
  obtain ⟨x, _, rfl⟩ := List.mem_map.mp hd
  exact h x
theorem noLs_perm {ds es : List D} (p : ds.Perm es) (h : ∀ d ∈ es, NoL d) : NoLs ds := noLs_of fun d hd => h d (p.mem_iff.mp hd)
theorem cutw_book (b : Bk) : CutW (bookO b) := cutw_ins (.ob (cutw_lst (noLs_map (fun x => .str x) _)) (.ob (cutw_lst (noLs_perm (List.mergeSort_perm _ _) fun d hd => by
  obtain ⟨x, _, rfl⟩ := List.mem_map.mp hd
  exact noL_L x)) (.ob (cutw_dcl fun ds hd => by
    simp only [lsts, Bk.partsL, List.map_cons, List.map_nil, List.mem_cons, List.not_mem_nil, or_false] at hd
    rcases hd with rfl | rfl | rfl | rfl
    · exact noLs_map noL_M _
    · exact noLs_map noL_C _
    · exact noLs_map noL_A _
    · exact noLs_map noL_R _) (.pr (noL_Q _) .nil))))
theorem cmds_n (b : Bk) : b.cmdsS.map Cm.n = sortS b.cn := (merge_map Cm.n (le := leS) (le' := fun x y : Cm => leS x.n y.n) (fun _ _ => rfl) b.cmds).symm
theorem cmds_perm (b : Bk) : b.cmdsS.Perm b.cmds := List.mergeSort_perm _ _
/-- the lengths of names in lots -/
def LotS (l : List Str) : Prop := l.length ≤ 1000 ∧ ∀ x ∈ l, x.length ≤ 1000
theorem lotS_of {l ks : List Str} (h : lotOfB l ks = true) (hk : ks.length ≤ 1000) : LotS l := by
  obtain ⟨h1, h2⟩ := lotOf h
  have := nodup_len (lot_nd h1) h2
  exact ⟨by omega, fun x hx => by have := nm_len (lot_nm h1 x hx); omega⟩
theorem turnS {on off hs : List Str} (h : turnB on off hs = true) (hk : hs.length ≤ 1000) : LotS on ∧ LotS off := by
  obtain ⟨h1, h2, _⟩ := turn_of h
  exact ⟨lotS_of h1 hk, lotS_of h2 hk⟩
theorem goP_is {X : Cx} {Γ : Ga} {e : Expr} {P P' : Mn} (h : GoP X Γ e P) (he : P = P') : GoP X Γ e P' := he ▸ h
end PL

set_option maxHeartbeats 1000000
/-! zip of a tuple and a list (and of two tuples) -/
namespace PL
open PySem PySem.Spec PyProof.Rows L2 RZ
/-- a kind of row: its iterators, how they go on and how they end -/
structure SK (P : Program) (w : World) where
  it : Heap → Addr → Addr → Nat → Prop
  sq : Heap → Addr → Array Value → Prop
  one : ∀ {h i l k}, it h i l k → ∃ o, h.get? i = some o ∧ ∀ v, o.data ≠ .seq v
  mv : ∀ {h h' i l k}, it h i l k → (∀ o, h.get? i = some o → h'.get? i = some o) → it h' i l k
  mq : ∀ {h h' l x}, sq h l x → (∀ o, h.get? l = some o → h'.get? l = some o) → sq h' l x
  nx : ∀ {A : Around} {E : Value → Shared → Prop} {s : Shared} {i l k xs x} {Q : Value → Shared → Prop}, it s.heap i l k → sq s.heap l xs → xs[k]? = some x →
    (∀ h', it h' i l (k + 1) → Heap.SameBut i s.heap h' → Q x { s with heap := h' }) → wpAny (model P w) A (Builtin.SmallTypes.nextOf (.ref i)) Q E s
  nd : ∀ {A : Around} {E : Value → Shared → Prop} {s : Shared} {i l k xs} {Q : Value → Shared → Prop}, A.handled = none → it s.heap i l k → sq s.heap l xs → xs[k]? = none →
    (∀ h' e, Heap.ExtBut i s.heap h' → (∃ o, h'.get? e = some o ∧ o.cls = .type "StopIteration") → E (.ref e) { s with heap := h' }) → wpAny (model P w) A (Builtin.SmallTypes.nextOf (.ref i)) Q E s
def skT (P : Program) (w : World) : SK P w where
  it h i l k := h.IsTupleIter i l k
  sq h l x := h.IsTuple l x
  one := fun ⟨o, e, _, d⟩ => ⟨o, e, fun v g => by rw [d] at g; cases g⟩
  mv := fun h k => h.at k
  mq := fun ⟨o, e, d⟩ k => ⟨o, k o e, d⟩
  nx := nextOf_tuple_item
  nd := nextOf_tuple_end
def skL (P : Program) (w : World) : SK P w where
  it h i l k := h.IsListIter i l k
  sq h l x := h.IsList l x
  one := fun ⟨o, e, _, d⟩ => ⟨o, e, fun v g => by rw [d] at g; cases g⟩
  mv := fun h k => h.at k
  mq := fun ⟨o, e, d⟩ k => ⟨o, k o e, d⟩
  nx := wpAny_nextOf_list_item
  nd := wpAny_nextOf_list_end
section
variable {P : Program} {w : World} {A : Around} {E : Value → Shared → Prop} {s : Shared} {S T : SK P w}
variable {z a b p q l m : Addr} {i j : Nat} {xs ys : Array Value} {x y c1 c2 : Value}
/-- what is read in a heap behind others -/
def Up4 (z b p q : Addr) (h g : Heap) : Prop := ∀ c o, c ≠ z → c ≠ b → c ≠ p → c ≠ q → h.get? c = some o → g.get? c = some o
theorem zm_item {Q : Value → Shared → Prop} (D : ZipApart z a b p q l m) (hz : IsZip s.heap z a b .none) (ha : IsPair s.heap a (.ref p) (.ref q)) (hb : IsPair s.heap b c1 c2)
    (hp : S.it s.heap p l i) (hq : T.it s.heap q m j) (hl : S.sq s.heap l xs) (hm : T.sq s.heap m ys) (hx : xs[i]? = some x) (hy : ys[j]? = some y)
    (hQ : ∀ g, IsZip g z a b (rawInt s.heap.objs.size) → IsPair g b x y → S.it g p l (i + 1) → T.it g q m (j + 1) → IsPair g s.heap.objs.size x y → g.objs.size = s.heap.objs.size + 1 → Up4 z b p q s.heap g → Q (.ref s.heap.objs.size) { s with heap := g }) :
    wpAny (model P w) A (Builtin.«zip.__next__» ⟨[.ref z], []⟩) (fun fin s' => ∃ v, fin = .done (.ret v) ∧ Q v s') E s := by
  show wpAny _ _ (field (.ref z) 2 >>= _) _ _ _
  refine wpAny_bind (wpAny_field hz rfl (x := .bool false) rfl ?_)
  show wpAny _ _ (field (.ref z) 3 >>= _) _ _ _
  refine wpAny_bind (wpAny_field hz rfl (x := .ref a) rfl (wpAny_bind (wpAny_seqItems ha rfl ?_)))
  show wpAny _ _ (Builtin.SmallTypes.ownedTupleIsFree (.ref z) >>= _) _ _ _
  refine wpAny_bind ?_
  unfold Builtin.SmallTypes.ownedTupleIsFree
  refine wpAny_bind (wpAny_field hz rfl (x := .none) rfl (wpAny_pure ?_))
  simp only [if_true]
  refine wpAny_bind (wpAny_rule (wpAny_bind (wpAny_field hz rfl (x := .ref b) rfl (wpAny_bind (wpAny_setField_rec hz (by simp) fun g1 z1 s1 => ?_)))))
  have z1 : IsZip g1 z a b .ellipsis := z1
  refine wpAny_bind ?_
  simp only [List.zipIdx_cons, List.zipIdx_nil, List.forIn_cons, List.forIn_nil]
  refine wpAny_bind (wpAny_bind (wpAny_onRaise ?_))
  show wpAny _ _ (Builtin.SmallTypes.nextOf (.ref p) >>= _) _ _ _
  refine wpAny_bind (S.nx (S.mv hp fun o => s1.extBut _ o D.i1z) (S.mq hl fun o => s1.extBut _ o D.l1z) hx fun g2 p2 s2 => wpAny_pure ?_)
  have b2 : IsPair g2 b c1 c2 := s2.extBut _ _ D.TOi1 (s1.extBut _ _ D.TOz hb)
  refine wpAny_bind (wpAny_seqItems b2 rfl (wpAny_bind (wpAny_updateSeq_pair b2 fun g3 b3 s3 => ?_)))
  have b3 : IsPair g3 b x c2 := b3
  refine wpAny_bind (wpAny_letGo (wpAny_pure (wpAny_bind (wpAny_bind (wpAny_onRaise ?_)))))
  show wpAny _ _ (Builtin.SmallTypes.nextOf (.ref q) >>= _) _ _ _
  have u3 : ∀ c o, c ≠ z → c ≠ b → c ≠ p → s.heap.get? c = some o → g3.get? c = some o := fun c o e1 e2 e3 e => s3.extBut _ _ e2 (s2.extBut _ _ e3 (s1.extBut _ _ e1 e))
  refine wpAny_bind (T.nx (T.mv hq fun o => u3 _ o D.i2z D.TOi2.symm D.i12.symm) (T.mq hm fun o => u3 _ o D.l2z D.l2TO D.l2i1) hy fun g4 q4 s4 => wpAny_pure ?_)
  have b4 : IsPair g4 b x c2 := s4.extBut _ _ D.TOi2 b3
  refine wpAny_bind (wpAny_seqItems b4 rfl (wpAny_bind (wpAny_updateSeq_pair b4 fun g5 b5 s5 => ?_)))
  have b5 : IsPair g5 b x y := b5
  refine wpAny_bind (wpAny_letGo (wpAny_pure (wpAny_pure (wpAny_bind (wpAny_seqItems b5 rfl (wpAny_bind (wpAny_newTuple ?_)))))))
  have z5 : IsZip g5 z a b .ellipsis := s5.extBut _ _ D.TOz.symm (s4.extBut _ _ D.i2z.symm (s3.extBut _ _ D.TOz.symm (s2.extBut _ _ D.i1z.symm z1)))
  have u5 : Up4 z b p q s.heap g5 := fun c o e1 e2 e3 e4 e => s5.extBut _ _ e2 (s4.extBut _ _ e4 (u3 c o e1 e2 e3 e))
  have p5 : S.it g5 p l (i + 1) := S.mv p2 fun o e => s5.extBut _ _ D.TOi1.symm (s4.extBut _ _ D.i12 (s3.extBut _ _ D.TOi1.symm e))
  have q5 : T.it g5 q m (j + 1) := T.mv q4 fun o => s5.extBut _ o D.TOi2.symm
  have sz : g5.objs.size = s.heap.objs.size := by rw [s5.1, s4.1, s3.1, s2.1, s1.1]
  have lt : z < g5.objs.size := Heap.lt_size z5
  show wpAny _ _ (Builtin.SmallTypes.ownedTupleHandOut (.ref z) (.ref g5.objs.size) >>= _) _ _ _
  refine wpAny_bind ?_
  unfold Builtin.SmallTypes.ownedTupleHandOut
  have z6 : IsZip (g5.push { cls := .type "tuple", data := .seq #[x, y] }) z a b .ellipsis := Heap.get?_push_of_some _ z5
  refine wpAny_bind (wpAny_setField_rec z6 (by simp) fun g7 z7 s7 => wpAny_setField_rec (show IsZip g7 z a b (rawInt g5.objs.size) from z7) (by simp) fun g8 z8 s8 => ?_)
  have z8 : IsZip g8 z a b (rawInt g5.objs.size) := z8
  have u8 : ∀ c o, c ≠ z → g5.get? c = some o → g8.get? c = some o := fun c o e1 e => s8.extBut _ _ e1 (s7.extBut _ _ e1 (Heap.get?_push_of_some _ e))
  have t8 : IsPair g8 g5.objs.size x y := s8.extBut _ _ (Nat.ne_of_gt lt) (s7.extBut _ _ (Nat.ne_of_gt lt) (Heap.get?_push_size _ rfl))
  have sz8 : g8.objs.size = g5.objs.size + 1 := by rw [s8.1, s7.1, Heap.size_push]
  rw [sz] at z8 t8 sz8
  refine wpAny_pure ⟨_, rfl, ?_⟩
  show Q (.ref g5.objs.size) _
  rw [sz]
  exact hQ g8 z8 (u8 _ _ D.TOz b5) (S.mv p5 fun o => u8 _ o D.i1z) (T.mv q5 fun o => u8 _ o D.i2z) t8 sz8 fun c o e1 e2 e3 e4 e => u8 c o e1 (u5 c o e1 e2 e3 e4 e)
theorem zm_end {Q : Fin → Shared → Prop} (hh : A.handled = none) (D : ZipApart z a b p q l m) (hz : IsZip s.heap z a b .none) (ha : IsPair s.heap a (.ref p) (.ref q)) (hb : IsPair s.heap b c1 c2)
    (hp : S.it s.heap p l i) (hq : T.it s.heap q m j) (hl : S.sq s.heap l xs) (hm : T.sq s.heap m ys) (hn : xs[i]? = none ∨ ys[j]? = none)
    (hE : ∀ g e, Up4 z b p q s.heap g → (∃ o, g.get? e = some o ∧ o.cls = .type "StopIteration") → E (.ref e) { s with heap := g }) :
    wpAny (model P w) A (Builtin.«zip.__next__» ⟨[.ref z], []⟩) Q E s := by
  show wpAny _ _ (field (.ref z) 2 >>= _) _ _ _
  refine wpAny_bind (wpAny_field hz rfl (x := .bool false) rfl ?_)
  show wpAny _ _ (field (.ref z) 3 >>= _) _ _ _
  refine wpAny_bind (wpAny_field hz rfl (x := .ref a) rfl (wpAny_bind (wpAny_seqItems ha rfl ?_)))
  show wpAny _ _ (Builtin.SmallTypes.ownedTupleIsFree (.ref z) >>= _) _ _ _
  refine wpAny_bind ?_
  unfold Builtin.SmallTypes.ownedTupleIsFree
  refine wpAny_bind (wpAny_field hz rfl (x := .none) rfl (wpAny_pure ?_))
  simp only [if_true]
  refine wpAny_bind (wpAny_rule (wpAny_bind (wpAny_field hz rfl (x := .ref b) rfl (wpAny_bind (wpAny_setField_rec hz (by simp) fun g1 z1 s1 => ?_)))))
  have z1 : IsZip g1 z a b .ellipsis := z1
  refine wpAny_bind ?_
  simp only [List.zipIdx_cons, List.zipIdx_nil, List.forIn_cons, List.forIn_nil]
  refine wpAny_bind (wpAny_bind (wpAny_onRaise ?_))
  show wpAny _ _ (Builtin.SmallTypes.nextOf (.ref p) >>= _) _ _ _
  have other : ∀ {g : Heap} {e : Addr} {o : Obj}, IsZip g z a b .ellipsis → g.get? e = some o → o.cls = .type "StopIteration" → e ≠ z := fun hz2 ho hc k => by
    subst k
    rw [hz2] at ho
    cases ho
    simp at hc
  cases hx : xs[i]? with
  | none =>
    refine wpAny_bind (S.nd hh (S.mv hp fun o => s1.extBut _ o D.i1z) (S.mq hl fun o => s1.extBut _ o D.l1z) hx fun g2 e s2 ⟨o, ho, hc⟩ => ?_)
    have z2 : IsZip g2 z a b .ellipsis := s2 _ _ D.i1z.symm z1
    exact wpAny_setField_rec z2 (by simp) fun g3 _ s3 => hE g3 e (fun c o e1 _ e3 _ k => s3.extBut _ _ e1 (s2 _ _ e3 (s1.extBut _ _ e1 k))) ⟨o, s3.extBut _ _ (other z2 ho hc) ho, hc⟩
  | some x =>
    have hy : ys[j]? = none := hn.resolve_left fun k => nomatch hx.symm.trans k
    refine wpAny_bind (S.nx (S.mv hp fun o => s1.extBut _ o D.i1z) (S.mq hl fun o => s1.extBut _ o D.l1z) hx fun g2 p2 s2 => wpAny_pure ?_)
    have b2 : IsPair g2 b c1 c2 := s2.extBut _ _ D.TOi1 (s1.extBut _ _ D.TOz hb)
    refine wpAny_bind (wpAny_seqItems b2 rfl (wpAny_bind (wpAny_updateSeq_pair b2 fun g3 b3 s3 => ?_)))
    refine wpAny_bind (wpAny_letGo (wpAny_pure (wpAny_bind (wpAny_bind (wpAny_onRaise ?_)))))
    show wpAny _ _ (Builtin.SmallTypes.nextOf (.ref q) >>= _) _ _ _
    have u3 : ∀ c o, c ≠ z → c ≠ b → c ≠ p → s.heap.get? c = some o → g3.get? c = some o := fun c o e1 e2 e3 e => s3.extBut _ _ e2 (s2.extBut _ _ e3 (s1.extBut _ _ e1 e))
    refine wpAny_bind (T.nd hh (T.mv hq fun o => u3 _ o D.i2z D.TOi2.symm D.i12.symm) (T.mq hm fun o => u3 _ o D.l2z D.l2TO D.l2i1) hy fun g4 e s4 ⟨o, ho, hc⟩ => ?_)
    have z4 : IsZip g4 z a b .ellipsis := s4 _ _ D.i2z.symm (s3.extBut _ _ D.TOz.symm (s2.extBut _ _ D.i1z.symm z1))
    exact wpAny_setField_rec z4 (by simp) fun g5 _ s5 => hE g5 e (fun c o e1 e2 e3 e4 k => s5.extBut _ _ e1 (s4 _ _ e4 (u3 c o e1 e2 e3 k))) ⟨o, s5.extBut _ _ (other z4 ho hc) ho, hc⟩
theorem zm_next {Q : Option Value → Shared → Prop} (D : ZipApart z a b p q l m) (hz : IsZip s.heap z a b .none) (ha : IsPair s.heap a (.ref p) (.ref q)) (hb : IsPair s.heap b c1 c2)
    (hp : S.it s.heap p l i) (hq : T.it s.heap q m j) (hl : S.sq s.heap l xs) (hm : T.sq s.heap m ys) (hx : xs[i]? = some x) (hy : ys[j]? = some y)
    (hQ : ∀ g, IsZip g z a b (rawInt s.heap.objs.size) → IsPair g b x y → S.it g p l (i + 1) → T.it g q m (j + 1) → IsPair g s.heap.objs.size x y → g.objs.size = s.heap.objs.size + 1 → Up4 z b p q s.heap g → Q (some (.ref s.heap.objs.size)) { s with heap := g }) :
    wpAny (model P w) A (pyNext (.ref z)) Q E s := by
  have ty : s.TypeIs (.ref z) "zip" := ⟨_, hz, rfl⟩
  unfold pyNext
  refine wpAny_bind (wpAny_attempt (wpAny_callSpecial?_slot (name := Str.ofString "__next__") ty F.slot_zip_next (wpAny_call_entry F.slot_zip_next ty F.entry_zip_next ?_ (F.args_zip_next_1 _))))
  exact zm_item D hz ha hb hp hq hl hm hx hy fun g k1 k2 k3 k4 k5 k6 k7 => wpAny_pure (hQ g k1 k2 k3 k4 k5 k6 k7)
theorem zm_stop {Q : Option Value → Shared → Prop} (hh : A.handled = none) (D : ZipApart z a b p q l m) (hz : IsZip s.heap z a b .none) (ha : IsPair s.heap a (.ref p) (.ref q)) (hb : IsPair s.heap b c1 c2)
    (hp : S.it s.heap p l i) (hq : T.it s.heap q m j) (hl : S.sq s.heap l xs) (hm : T.sq s.heap m ys) (hn : xs[i]? = none ∨ ys[j]? = none)
    (hQ : ∀ g, Up4 z b p q s.heap g → Q none { s with heap := g }) : wpAny (model P w) A (pyNext (.ref z)) Q E s := by
  have ty : s.TypeIs (.ref z) "zip" := ⟨_, hz, rfl⟩
  unfold pyNext
  refine wpAny_bind (wpAny_attempt (wpAny_callSpecial?_slot (name := Str.ofString "__next__") ty F.slot_zip_next (wpAny_call_entry F.slot_zip_next ty F.entry_zip_next ?_ (F.args_zip_next_1 _))))
  exact zm_end hh D hz ha hb hp hq hl hm hn fun g e k ⟨o, ho, hc⟩ => wpAny_bind (wpAny_isInstance (T := "StopIteration") (b := true) ⟨o, ho, hc⟩ isSubtype_stop (wpAny_pure (hQ _ k)))
end
/-! the call, for a tuple and a list -/
def zO (l : Addr) (c : String) : Obj := { cls := .type c, data := .fields #[.ref l, .int 0 0] }
def zA (h : Heap) (l m : Addr) : Heap := (h.push (zO l "tuple_iterator")).push (zO m "list_iterator")
def zP (h : Heap) (l m : Addr) : Heap := ((zA h l m).push { cls := .type "tuple", data := .seq #[.ref h.objs.size, .ref (h.push (zO l "tuple_iterator")).objs.size] }).push { cls := .type "tuple", data := .seq #[.none, .none] }
def zF (h : Heap) (l m : Addr) : Heap := (zP h l m).push { cls := .type "zip", data := .fields #[.none, .bool false, .bool false, .ref (zA h l m).objs.size, .ref ((zA h l m).push { cls := .type "tuple", data := .seq #[.ref h.objs.size, .ref (h.push (zO l "tuple_iterator")).objs.size] }).objs.size] }
theorem zm_new (l m : Addr) (xs ys : Array Value) :
    Meets (Builtin.«zip.__new__» ⟨[.type "zip", .ref l, .ref m], []⟩) (fun _ R s => s.heap.IsTuple l xs ∧ s.heap.IsList m ys ∧ R (.ok (.ret (.ref (zP s.heap l m).objs.size))) { s with heap := zF s.heap l m }) :=
  .of_wp fun prog w A R s h => by
    obtain ⟨hp, gs, ds, tk, os⟩ := s
    obtain ⟨e1, e2, h⟩ := h
    have hsub := sub_zip
    have f1 : Heap.IsTuple (Shared.heap ⟨hp, gs, ds, tk, os⟩) l xs := e1
    have f2 : Heap.IsList (Shared.heap ⟨hp.push { cls := .type "tuple_iterator", data := .fields #[.ref l, .int 0 0] }, gs, ds, tk, os⟩) m ys := Heap.IsList.push e2 _
    wp_walk using wpAny_pyIter_tuple f1, wpAny_pyIter_list f2
    exact ⟨_, rfl, h⟩
theorem zm_call {P : Program} {w : World} {A : Around} {E : Value → Shared → Prop} {s : Shared} {l m : Addr} {xs ys : Array Value} {Q : Value → Shared → Prop} (hl : s.heap.IsTuple l xs) (hm : s.heap.IsList m ys)
    (h : ∀ g, IsZip g (s.heap.objs.size + 4) (s.heap.objs.size + 2) (s.heap.objs.size + 3) .none → IsPair g (s.heap.objs.size + 2) (.ref s.heap.objs.size) (.ref (s.heap.objs.size + 1)) → IsPair g (s.heap.objs.size + 3) .none .none →
      g.IsTupleIter s.heap.objs.size l 0 → g.IsListIter (s.heap.objs.size + 1) m 0 → (∀ c o, s.heap.get? c = some o → g.get? c = some o) → Q (.ref (s.heap.objs.size + 4)) { s with heap := g }) :
    wpAny (model P w) A (call (.type "zip") [.ref l, .ref m]) Q E s := by
  refine callType_new F.called_zip (by decide) (F.typeCall_zip_2 _ _) (F.newCall_zip_2 _ _) (fun obj => F.args_object_init_3 obj _ _) F.entry_zip_new (zm_new l m xs ys) ⟨hl, hm, ?_⟩
  have up : ∀ {h : Heap} {c : Addr} {o r : Obj}, h.get? c = some o → (h.push r).get? c = some o := fun e => Heap.get?_push_of_some _ e
  have n1 : (s.heap.push (zO l "tuple_iterator")).objs.size = s.heap.objs.size + 1 := Heap.size_push ..
  have n2 : (zA s.heap l m).objs.size = s.heap.objs.size + 2 := by rw [zA, Heap.size_push, n1]
  have n4 : (zP s.heap l m).objs.size = s.heap.objs.size + 4 := by rw [zP, Heap.size_push, Heap.size_push, n2]
  have k1 : (zF s.heap l m).get? s.heap.objs.size = some (zO l "tuple_iterator") := up (up (up (up (Heap.get?_push_size _ rfl))))
  have k2 : (zF s.heap l m).get? (s.heap.objs.size + 1) = some (zO m "list_iterator") := n1 ▸ up (up (up (Heap.get?_push_size _ rfl)))
  have k3 : (zF s.heap l m).get? (s.heap.objs.size + 2) = some { cls := .type "tuple", data := .seq #[.ref s.heap.objs.size, .ref (s.heap.objs.size + 1)] } := by
    have : (zF s.heap l m).get? (zA s.heap l m).objs.size = some _ := up (up (Heap.get?_push_size _ rfl))
    rw [n2, n1] at this
    exact this
  have n3 : ((zA s.heap l m).push { cls := .type "tuple", data := .seq #[.ref s.heap.objs.size, .ref (s.heap.push (zO l "tuple_iterator")).objs.size] }).objs.size = s.heap.objs.size + 3 := by rw [Heap.size_push, n2]
  have k4 : (zF s.heap l m).get? (s.heap.objs.size + 3) = some { cls := .type "tuple", data := .seq #[.none, .none] } := n3 ▸ up (Heap.get?_push_size _ rfl)
  have k5 : (zF s.heap l m).get? (s.heap.objs.size + 4) = some { cls := .type "zip", data := .fields #[.none, .bool false, .bool false, .ref (s.heap.objs.size + 2), .ref (s.heap.objs.size + 3)] } := by
    have : (zF s.heap l m).get? (zP s.heap l m).objs.size = some _ := Heap.get?_push_size _ rfl
    rw [n2, n3, n4] at this
    exact this
  rw [n4]
  exact ⟨⟨_, k5, rfl⟩, h _ k5 k3 k4 ⟨_, k1, rfl, rfl⟩ ⟨_, k2, rfl, rfl⟩ fun c o e => up (up (up (up (up e))))⟩
/-- the tuple at a and the list at b as they stand at each turn -/
def ItM (K : PySem.W.Frag) (a b : Addr) : It :=
  ⟨fun i H => ∃ (xs ys : List V) (x y : V), SqT K H a xs ∧ SqL K H b ys ∧ xs[i]? = some x ∧ ys[i]? = some y,
    fun i H v H' => ∃ T x y, v = .ref T ∧ H T = none ∧ H' = upd H T (.tup [x, y]) ∧ (∀ xs, SqT K H a xs → xs[i]? = some x) ∧ ∀ ys, SqL K H b ys → ys[i]? = some y,
    fun i H => ∃ xs ys : List V, SqT K H a xs ∧ SqL K H b ys ∧ (xs.length ≤ i ∨ ys.length ≤ i)⟩
def ItMst (z a b p q l m : Addr) (i : Nat) (h : Heap) : Prop := IsZip h z a b .none ∧ IsPair h a (.ref p) (.ref q) ∧ (∃ x y, IsPair h b x y) ∧ h.IsTupleIter p l i ∧ h.IsListIter q m i
theorem zm_turn {P : Program} {w : World} {K : PySem.W.Frag} {elts : List Expr} {kk : Nat} {tpos : Pos} {l m z a b p q : Addr} (D : ZipApart z a b p q l m) :
    Turn P w K (.Tuple elts kk tpos) (ItM K l m) [z, a, b, p, q] z (ItMst z a b p q l m) where
  mem := List.mem_cons_self
  obj := fun i h st c hc => by
    obtain ⟨h1, h2, ⟨x, y, h3⟩, h4, h5⟩ := st
    simp only [List.mem_cons, List.not_mem_nil, or_false] at hc
    rcases hc with rfl | rfl | rfl | rfl | rfl
    · exact ⟨_, h1, fun v q => nomatch q⟩
    · exact ⟨_, h2, fun v q => nomatch q⟩
    · exact ⟨_, h3, fun v q => nomatch q⟩
    · obtain ⟨o, e, _, d⟩ := h4
      exact ⟨o, e, fun v k => by rw [d] at k; cases k⟩
    · obtain ⟨o, e, _, d⟩ := h5
      exact ⟨o, e, fun v k => by rw [d] at k; cases k⟩
  keep := fun i h h' st k => by
    obtain ⟨h1, h2, ⟨x, y, h3⟩, h4, h5⟩ := st
    exact ⟨k _ (by simp) _ h1, k _ (by simp) _ h2, ⟨x, y, k _ (by simp) _ h3⟩, h4.at fun o => k _ (by simp) o, h5.at fun o => k _ (by simp) o⟩
  item := by
    intro X eP ew eK hc i pins s σ H E I hf st hg
    subst eP ew eK
    obtain ⟨h1, h2, ⟨c1, c2, h3⟩, h4, h5⟩ := st
    obtain ⟨xs, ys, x, y, g1, g2, hx, hy⟩ := hg
    obtain ⟨us, r1, p1, _⟩ := I.tuple g1
    obtain ⟨vs, r2, p2, _⟩ := I.list g2
    obtain ⟨u, hu, ru⟩ := r1.get hx
    obtain ⟨v, hv, rv⟩ := r2.get hy
    have lt : z < s.heap.objs.size := Heap.lt_size h1
    refine zm_next (S := skT _ _) (T := skL _ _) D h1 h2 h3 h4 h5 p1 p2.isList (x := u) (y := v) (by simpa using hu) (by simpa using hv) fun g z1 b1 p1' q1' t1 sz up => ⟨_, rfl, wpAny_letOwnedTupleGo_zip (s := { s with heap := g }) z1 fun gh z2 sb => ?_⟩
    have keep5 : ∀ c o, ¬ c ∈ [z, a, b, p, q] → s.heap.get? c = some o → gh.get? c = some o := fun c o nb e => by
      simp only [List.mem_cons, List.not_mem_nil, or_false, not_or] at nb
      exact (sb.2 c nb.1).trans (up c o nb.1 nb.2.2.1 nb.2.2.2.1 nb.2.2.2.2 e)
    have t2 : gh.get? s.heap.objs.size = some { cls := .type "tuple", data := .seq #[u, v] } := (sb.2 _ (Nat.ne_of_gt lt)).trans t1
    have new : ObjOk X.prog X.w (upd H s.heap.objs.size (.tup [x, y])) gh s.heap.objs.size (.tup [x, y]) := ⟨by show 2 ≤ sizeLine; decide, [u, v], .cons ru (.cons rv .nil), ⟨_, t2, rfl, _, rfl⟩⟩
    have J : Inv X pins σ (upd H s.heap.objs.size (.tup [x, y])) { s with heap := gh } := I.turnedNew (t' := s.toks) (ch := [z, a, b, p, q]) keep5 hf (Nat.le_refl _) new
    refine ⟨.ref s.heap.objs.size, _, J, rfl, ⟨_, x, y, rfl, I.hok.fresh (Nat.le_refl _), rfl, fun k hk => I.tuple_inj hk g1 ▸ hx, fun k hk => I.list_inj hk g2 ▸ hy⟩, ⟨z2, ?_, ⟨u, v, (sb.2 _ D.TOz).trans b1⟩, p1'.at fun o k => (sb.2 _ D.i1z).trans k, q1'.at fun o k => (sb.2 _ D.i2z).trans k⟩, fun c hcm => ?_⟩
    · exact (sb.2 _ D.TIz).trans (up _ _ D.TIz D.TITO D.TIi1 D.TIi2 h2)
    · have hlt : c < s.heap.objs.size := by
        simp only [List.mem_cons, List.not_mem_nil, or_false] at hcm
        rcases hcm with rfl | rfl | rfl | rfl | rfl
        · exact lt
        · exact Heap.lt_size h2
        · exact Heap.lt_size h3
        · exact h4.elim fun _ e => Heap.lt_size e.1
        · exact h5.elim fun _ e => Heap.lt_size e.1
      rw [upd_ne (Nat.ne_of_lt hlt)]
      exact (hf c hcm).1
  done := by
    intro X eP ew eK hc i pins s σ H E I hf st hg
    subst eP ew eK
    obtain ⟨h1, h2, ⟨c1, c2, h3⟩, h4, h5⟩ := st
    obtain ⟨xs, ys, g1, g2, hend⟩ := hg
    obtain ⟨us, r1, p1, _⟩ := I.tuple g1
    obtain ⟨vs, r2, p2, _⟩ := I.list g2
    have e1 := r1.length
    have e2 := r2.length
    have no : us.toArray[i]? = none ∨ vs.toArray[i]? = none := hend.imp (fun k => by simp; omega) fun k => by simp; omega
    refine zm_stop (S := skT _ _) (T := skL _ _) (I.ok.hd hc) D h1 h2 h3 h4 h5 p1 p2.isList no fun g up => ⟨rfl, I.turnedL (t' := s.toks) (ch := [z, a, b, p, q]) (fun c o nb e => ?_) hf⟩
    simp only [List.mem_cons, List.not_mem_nil, or_false, not_or] at nb
    exact up c o nb.1 nb.2.2.1 nb.2.2.2.1 nb.2.2.2.2 e
  self := fun A i s Q E st h => wpAny_pyIter_zip st.1 h
def iZipM (K : PySem.W.Frag) (ta : TA) : TI := fun σ H R => ta σ H fun vs H1 => ∃ a b xs ys, vs = [.ref a, .ref b] ∧ SqT K H1 a xs ∧ SqL K H1 b ys ∧ R (ItM K a b) H1
theorem pi_zipM {X : Cx} {e e2 : Expr} {ta : TA} {p pos tpos : Pos} {elts : List Expr} {kk : Nat} (hg : Gl X "zip") (hm : X.mg "zip" = none) (ha : PA X [e, e2] ta)
    (hs : starEach [e, e2] X.env = (false, eval e X.env) :: starEach [e2] X.env := by rfl) (hpl : (backTo pos (starEach [e2] X.env)).any (·.1) = false := by rfl) :
    PI X (.Tuple elts kk tpos) (.Call (.Name "zip" p) [e, e2] [] pos) (iZipM X.K ta) := by
  refine ⟨fun pins s σ H R I h => Call_ (ld_blt I hg hm PyProof.Rows.boot_zip (PyProof.Rows.callWith_type1 (thn (ha.run pos pins s σ H _ I h) fun us s1 ⟨vs, H1, I1, r1, q1⟩ => ?_) hs hpl))⟩
  obtain ⟨a, b, xs, ys, rfl, g1, g2, q⟩ := q1
  obtain ⟨u, v, rfl, hu, hv⟩ : ∃ u v, us = [u, v] ∧ u = .ref a ∧ v = .ref b := by
    cases r1 with
    | cons r rr =>
      cases rr with
      | cons r' rr =>
        cases rr
        cases r
        cases r'
        exact ⟨_, _, rfl, rfl, rfl⟩
  subst hu hv
  obtain ⟨ts, _, p1, _⟩ := I1.tuple g1
  obtain ⟨ls, _, p2, _⟩ := I1.list g2
  have la : a < s1.heap.objs.size := by
    obtain ⟨o, ho, _⟩ := id p1
    exact Heap.lt_size ho
  refine zm_call (show s1.heap.IsTuple a ts.toArray from p1) p2.isList fun g hz hp hb h1 h2 hk => wpAny_pyIter_zip hz ⟨s1.heap.objs.size + 4, [s1.heap.objs.size + 4, s1.heap.objs.size + 2, s1.heap.objs.size + 3, s1.heap.objs.size, s1.heap.objs.size + 1], _, _, H1, rfl, I1.kept (t' := s1.toks) hk,
    zm_turn (PySem.W.ktu_apart s1.heap.objs.size a b la p2.lt), ⟨hz, hp, ⟨_, _, hb⟩, h1, h2⟩, fun c hcm => ?_, q⟩
  have hle : s1.heap.objs.size ≤ c := by
    simp only [List.mem_cons, List.not_mem_nil, or_false] at hcm
    rcases hcm with rfl | rfl | rfl | rfl | rfl
    · exact Nat.le_add_right _ 4
    · exact Nat.le_add_right _ 2
    · exact Nat.le_add_right _ 3
    · exact Nat.le_refl _
    · exact Nat.le_add_right _ 1
  exact I1.fpOk hle (I1.hok.fresh hle)
/-! the rules -/
section
variable {X : Cx} {Γ : List Sl} {a b : Expr} {ds es : List D}
theorem zipD_len : (zipD ds es).length = min ds.length es.length := by
  unfold zipD
  rw [List.length_map, List.length_zip]
theorem zipD_at {i : Nat} {d d1 d2 : D} (h : (zipD ds es)[i]? = some d) (f1 : ds[i]? = some d1) (f2 : es[i]? = some d2) : d = .tuple [d1, d2] := by
  unfold zipD at h
  have hz : (ds.zip es)[i]? = some (d1, d2) := List.getElem?_zip_eq_some.mpr ⟨f1, f2⟩
  rw [List.getElem?_map, hz] at h
  exact (Option.some.inj h).symm
theorem goi_zipM {elts : List Expr} {kk : Nat} {tpos p : Pos} (ha : Go X Γ a (.tuple ds)) (hb : Go X Γ b (.list es)) (hm : X.mg "zip" = none) (hg : Gl X "zip" := by rfl) (hs : starEach [a, b] X.env = (false, eval a X.env) :: starEach [b] X.env := by rfl) (hs2 : starEach [b] X.env = (false, eval b X.env) :: starEach [] X.env := by rfl) :
    GoI X Γ (.Tuple elts kk tpos) (.Call (.Name "zip" p) [a, b] [] pos) (zipD ds es) := .mk fun σ B H Fs E R q =>
  toI (pi_zipM hg hm (pa_cons sE (pa_cons sE pa_nil hs2) hs) hs (by rw [hs2]; rfl)) (ha σ B H Fs E _ fun v B1 H1 n1 r1 => hb σ B1 H1 Fs (E.nw n1) _ fun w B2 H2 n2 r2 => by
    obtain ⟨l, vs, rfl, t1, t2⟩ := dp_tup (dpUp n2.bb r1)
    obtain ⟨m, ws, rfl, t3, t4⟩ := dp_lst r2
    have n := n1.trans n2
    have k1 := dps_len t2
    have k2 := dps_len t4
    refine ⟨l, m, vs, ws, rfl, n.bh.st t1, n.bh.sl t3, q _ B2 H2 n ⟨fun i H' hi hB => ?_, fun H' hB => ⟨vs, ws, hB.st t1, hB.sl t3, by rw [k1, k2, zipD_len]; omega⟩, fun i H' x H2 Bc d hd hB hC y => ?_⟩⟩
    · rw [zipD_len] at hi
      obtain ⟨u, e1, _⟩ := dps_get t2 (List.getElem?_eq_getElem (show i < ds.length by omega))
      obtain ⟨u2, e2, _⟩ := dps_get t4 (List.getElem?_eq_getElem (show i < es.length by omega))
      exact ⟨vs, ws, u, u2, hB.st t1, hB.sl t3, e1, e2⟩
    · obtain ⟨T, u, u2, e1, e2, e3, e4, e5⟩ := y
      subst e1 e3
      obtain ⟨d1, f1, o1⟩ := dps_getv t2 (e4 vs ((hB.trans hC).st t1))
      obtain ⟨d2, f2, o2⟩ := dps_getv t4 (e5 ws ((hB.trans hC).sl t3))
      obtain rfl := zipD_at hd f1 f2
      have nn := Nw.new (o := .tup [u, u2]) hC e2
      exact ⟨_, nn, .tup (.of upd_same) (.cons (dpUp (hB.trans nn.bb) o1) (.cons (dpUp (hB.trans nn.bb) o2) .nil))⟩)
theorem goi_zipT {elts : List Expr} {kk : Nat} {tpos p : Pos} (ha : Go X Γ a (.tuple ds)) (hb : Go X Γ b (.tuple es)) (hm : X.mg "zip" = none) (hg : Gl X "zip" := by rfl) (hs : starEach [a, b] X.env = (false, eval a X.env) :: starEach [b] X.env := by rfl) (hs2 : starEach [b] X.env = (false, eval b X.env) :: starEach [] X.env := by rfl) :
    GoI X Γ (.Tuple elts kk tpos) (.Call (.Name "zip" p) [a, b] [] pos) (zipD ds es) := .mk fun σ B H Fs E R q =>
  toI (pi_zipA hg hm (pa_cons sE (pa_cons sE pa_nil hs2) hs) hs (by rw [hs2]; rfl)) (ha σ B H Fs E _ fun v B1 H1 n1 r1 => hb σ B1 H1 Fs (E.nw n1) _ fun w B2 H2 n2 r2 => by
    obtain ⟨l, vs, rfl, t1, t2⟩ := dp_tup (dpUp n2.bb r1)
    obtain ⟨m, ws, rfl, t3, t4⟩ := dp_tup r2
    have n := n1.trans n2
    have k1 := dps_len t2
    have k2 := dps_len t4
    refine ⟨l, m, vs, ws, rfl, .inr ⟨n.bh.st t1, n.bh.st t3, q _ B2 H2 n ⟨fun i H' hi hB => ?_, fun H' hB => ⟨vs, ws, hB.st t1, hB.st t3, by rw [k1, k2, zipD_len]; omega⟩, fun i H' x H2 Bc d hd hB hC y => ?_⟩⟩⟩
    · rw [zipD_len] at hi
      obtain ⟨u, e1, _⟩ := dps_get t2 (List.getElem?_eq_getElem (show i < ds.length by omega))
      obtain ⟨u2, e2, _⟩ := dps_get t4 (List.getElem?_eq_getElem (show i < es.length by omega))
      exact ⟨vs, ws, u, u2, hB.st t1, hB.st t3, e1, e2⟩
    · obtain ⟨T, u, u2, e1, e2, e3, e4, e5⟩ := y
      subst e1 e3
      obtain ⟨d1, f1, o1⟩ := dps_getv t2 (e4 vs ((hB.trans hC).st t1))
      obtain ⟨d2, f2, o2⟩ := dps_getv t4 (e5 ws ((hB.trans hC).st t3))
      obtain rfl := zipD_at hd f1 f2
      have nn := Nw.new (o := .tup [u, u2]) hC e2
      exact ⟨_, nn, .tup (.of upd_same) (.cons (dpUp (hB.trans nn.bb) o1) (.cons (dpUp (hB.trans nn.bb) o2) .nil))⟩)
end
end PL

set_option maxHeartbeats 1000000
namespace PL
open PySem PySem.Spec PyProof.Rows L2 RZ
/-! ### a tuple of numbers as a constant of the module -/
inductive IntsV : List Value → List Int → Prop
  | nil : IntsV [] []
  | cons {u : List Value} {n : Int} {ns : List Int} {t : Tok} (r : IntsV u ns) : IntsV (.int n t :: u) (n :: ns)
theorem intsV_vals : ∀ {u : List Value} {ns : List Int}, IntsV u ns → Vals (ns.map V.int) u
  | _, _, .nil => .nil
  | _, _, .cons (t := t) r => .cons ⟨t, rfl⟩ (intsV_vals r)
theorem dpAll_ints {K : PySem.W.Frag} {H : Hp} : ∀ ns : List Int, DpAll K H (ns.map V.int) (ns.map PyData.int)
  | [] => .nil
  | n :: r => .cons (.int n) (dpAll_ints r)
theorem globT {K : PySem.W.Frag} {mg : Str → Option Value} {x : Str} {a : Addr} {o : Obj} {its : Array Value} {n : Nat} {ns : List Int} (h : mg x = some (.ref a)) (hl : K.lookup a = some o) (hc : o.cls = .type "tuple") (hd : o.data = .seq its n)
    (hv : IntsV its.toList ns) (hz : ns.length ≤ 1000 := by decide) : GlobD K mg x (.tuple (ns.map .int)) :=
  ⟨_, .ref a, h, rfl, fun H => .tup (.inr ⟨o, its, n, hl, hc, hd, by
    have e := (intsV_vals hv).length
    rw [List.length_map] at e
    have e3 : its.toList.length = its.size := Array.length_toList
    exact leZ (by omega), intsV_vals hv⟩) (dpAll_ints ns)⟩
section
variable {X : Cx} {J : Jd} {N : Nd} {Γ : List Sl} {e : Expr} {ds es : List D} {pos : Pos}
/-- xs += e, xs a list of our own, e a new list -/
theorem rs_augO (i : Nat) {x : Str} {p' : Pos} (hΓ : Γ[i]? = some (.own ds)) (he : GoN X Γ e es) (h : N.nx (Γ.set i (.own (ds ++ es)))) (hN : X.N.Nodup) (hz : ds.length + es.length ≤ sizeLine := by exact leZ (by decide)) (hi : X.N[i]? = some x := by rfl) (hx : Loc X.env.scope x := by first | exact .inl rfl | exact .inr rfl)
    (hf : X.fn x = true ∨ X.env.scope.names.lookup x = some .local := by first | exact .inl rfl | exact .inr rfl) : RnS X J N Γ (.AugAssign (.Name x p') .Add e pos) := .mk fun B0 σ B H Fs E j => by
  obtain ⟨a, vs, h1, h2, h3, h4, h5⟩ := E.own hΓ
  refine toS (ps_aug hN hi hx sE iop_ext hf) ⟨.ref a, h1, he σ B H Fs E _ fun p us B2 H2 n f1 f2 f3 f4 => ?_⟩
  have e2 : H2 a = some (.lst vs) := n.hh a _ h2
  refine ⟨a, p, vs, us, rfl, rfl, e2, f3, by rw [dps_len h4, dps_len f4]; exact hz, ?_⟩
  have eσ : σ.set i (some (.ref a)) = σ := by
    refine List.ext_getElem? fun k => ?_
    rw [List.getElem?_set]
    split
    · rename_i k1
      subst k1
      obtain ⟨hl, _⟩ := List.getElem?_eq_some_iff.mp h1
      rw [if_pos hl, h1]
    · rfl
  show (Nd.ends X J B0 N).nx (List.set σ i (some (V.ref a))) _
  rw [eσ]
  refine ⟨B2, _, _, (E.nw n).mutL hΓ h1 e2 h3 (dps_app (dpsUp n.bb h4) f4), (j.nw n).upd ?_, h⟩
  rcases j.fm i a (by rw [h3]; exact List.mem_cons_self) with z | z
  · exact .inl z
  · exact .inr z.1
end
end PL

set_option maxHeartbeats 2000000
namespace PL
open PySem PySem.Spec PyProof.Rows L2 PySem.Calls PySem.W
/-! ### len(set(xs)) of ints, all of them different -/
section
variable {X : Cx} {Γ : Ga} {a : Expr} {p p2 q pos : Pos}
def tLenSetW (K : PySem.W.Frag) (ta : TE) : TE := fun σ H Q => ta σ H fun x H1 => ∃ (l : Addr) (ns : List Int), x = V.ref l ∧ SqL K H1 l (ns.map V.int) ∧ ns.length < 4000 ∧ ns.Nodup ∧ Q (.int ns.length) H1
theorem pe_lenSetW {ta : TE} (hc : X.calm = true) (hg : Gl X "len") (hm : X.mg "len" = none) (hg2 : Gl X "set") (hm2 : X.mg "set" = none) (ha : PE X a ta)
    (na : starEach [a] X.env = (false, eval a X.env) :: starEach [] X.env := by rfl) : PE X (.Call (.Name "len" p) [.Call (.Name "set" p2) [a] [] q] [] pos) (tLenSetW X.K ta) := by
  refine ⟨fun pins s σ H Q I h => ?_⟩
  refine Call_ (ld_blt I hg hm PySem.boot_len ?_)
  refine PyProof.Rows.callWith_builtin1 (PyProof.Rows.args_cons ?_ rfl) rfl rfl
  refine Call_ (ld_blt I hg2 hm2 PyProof.Rows.boot_set ?_)
  refine PyProof.Rows.callWith_type1 (PyProof.Rows.args_cons (thn (ha.run pins s σ H _ I h) fun v s1 ⟨x, H1, I1, r1, q1⟩ => PyProof.Rows.args_nil ?_) na) na rfl
  obtain ⟨l, ns, rfl, hq, h1, hnd, q1⟩ := q1
  cases r1
  obtain ⟨its, r, pl, hz⟩ := I1.list hq
  have hl : its.toArray.size = ns.length := by rw [List.size_toArray, ← r.length, List.length_map]
  refine PySem.call_set_list (I1.ok.hd hc) pl.isList (ns := ns) (by simpa using r.ints) (by unfold scanBound; omega) fun h' tk hS hk => ?_
  rw [hl, firstMet_nodup ns hnd ns.length (Nat.le_refl _), List.take_length] at hS
  refine PyProof.Rows.args_nil ?_
  obtain ⟨o, es, ep, t, ho, hex, hd, _, _, _, hf, hn⟩ := hS
  have I2 : Inv X pins σ H1 { s1 with heap := h', toks := tk } := I1.kept fun b o e => hk b o (Heap.lt_size e) e
  refine PySem.call_len_set ho hex hd hf (by rw [hn] <;> omega) ⟨.int ns.length, H1, I2.tok _, ⟨_, by rw [hn]⟩, q1⟩
theorem go_lenSet {ns : List Int} (hc : X.calm = true) (ha : Go X Γ a (.list (ns.map .int))) (hm : X.mg "len" = none) (hm2 : X.mg "set" = none) (hl : ns.length < 4000) (hnd : ns.Nodup) (hg : Gl X "len" := by rfl) (hg2 : Gl X "set" := by rfl)
    (na : starEach [a] X.env = (false, eval a X.env) :: starEach [] X.env := by rfl) : Go X Γ (.Call (.Name "len" p) [.Call (.Name "set" p2) [a] [] q] [] pos) (.int ns.length) := .mk fun σ B H Fs E Q q0 =>
  toE (pe_lenSetW hc hg hm hg2 hm2 sE na) (ha σ B H Fs E _ fun v B1 H1 n1 r1 => by
    obtain ⟨p, us, rfl, h2, h3⟩ := dp_lst r1
    rw [dps_ints_inv h3] at h2
    exact ⟨p, ns, rfl, n1.bh.sl h2, hl, hnd, q0 _ B1 H1 n1 (Dp.int _)⟩)
/-! ### sorted(xs) of ints -/
theorem le_perm_eq : ∀ {l m : List Int}, l.Perm m → l.Pairwise (· ≤ ·) → m.Pairwise (· ≤ ·) → l = m
  | [], m, h, _, _ => (List.Perm.nil_eq h)
  | a :: l, [], h, _, _ => absurd h.length_eq (by simp)
  | a :: l, b :: m, h, h1, h2 => by
    have e : a = b := by
      have m1 : a ∈ b :: m := h.subset List.mem_cons_self
      have m2 : b ∈ a :: l := h.symm.subset List.mem_cons_self
      rcases List.mem_cons.mp m1 with e | m1
      · exact e
      · rcases List.mem_cons.mp m2 with e | m2
        · exact e.symm
        · have := (List.pairwise_cons.mp h1).1 _ m2
          have := (List.pairwise_cons.mp h2).1 _ m1
          omega
    subst e
    rw [le_perm_eq ((List.perm_cons a).mp h) (List.pairwise_cons.mp h1).2 (List.pairwise_cons.mp h2).2]
theorem goN_sortI {ns ns' : List Int} (ha : Go X Γ a (.list (ns.map .int))) (hm : X.mg "sorted" = none) (h1 : ns'.Perm ns) (h2 : ns'.Pairwise (· ≤ ·)) (hg : Gl X "sorted" := by rfl) (he : starEach [a] X.env = (false, eval a X.env) :: starEach [] X.env := by rfl) :
    GoN X Γ (.Call (.Name "sorted" p) [a] [] pos) (ns'.map .int) :=
  goN_callB cr_sortedI hg hm PyProof.Rows.boot_sorted (goA_cons ha goA_nil he) (fun vs B H hB r Q q => by
    obtain ⟨v, rfl, h⟩ := mn1 r
    obtain ⟨p, us, rfl, h3, h4⟩ := dp_lst h
    rw [dps_ints_inv h4] at h3
    refine ⟨p, ns, rfl, hB.sl h3, fun ms l e1 e2 hl => ?_⟩
    rw [le_perm_eq (e1.trans h1.symm) e2 h2]
    exact q l _ hl (dps_ints _)) (by decide) (by decide) he rfl
/-! ### xs.index(x) of data -/
theorem go_indexD {ds : List D} {d : D} {e : Expr} {ap : Pos} (hu : UOk X) (ho : Go X Γ a (.list ds)) (he : Go X Γ e d) (h1 : SeqAt.shaped (.list ds) = true) (h2 : SeqAt.shaped d = true) (h3 : (ds.findIdx fun z => PyData.eqv z d) < ds.length) (hbase : attributeBase a "index" X.env (eval a X.env) = eval a X.env := by rfl)
    (hfew : ((backTo pos (starEach [e] X.env)).all (fun x => !x.1) && (backToKw pos (keywordEach [] X.env)).all (fun x => x.1.isSome)
      && decide ([e].length + ([] : List Keyword).length + (if ([] : List Keyword).isEmpty then 0 else 1) < 30)) = true := by rfl)
    (hline : (ap.endLine == pos.line) = true := by rfl) (hs : starEach [e] X.env = (false, eval e X.env) :: starEach [] X.env := by rfl) (hplain : (backTo pos (starEach [] X.env)).any (·.1) = false := by rfl) :
    Go X Γ (.Call (.Attribute a "index" ap) [e] [] pos) (.int ((ds.findIdx fun z => PyData.eqv z d : Nat) : Int)) := .mk fun σ B H Fs E Q q => by
  refine toE (pe_bm PySem.F.plainAttrs_list PySem.F.slot_list_index PySem.F.type_list_index (mt_indexD hu.u65) sE (pa_cons sE pa_nil hs) hbase hfew hline hs hplain) (ho σ B H Fs E _ fun v B1 H1 n1 r1 => ?_)
  obtain ⟨l, vs, rfl, h4, h5⟩ := dp_lst r1
  refine ⟨.inl ⟨rfl, vs, n1.bh.sl h4⟩, he σ B1 H1 Fs (E.nw n1) _ fun w B2 H2 n2 r2 => ?_⟩
  have n := n1.trans n2
  exact ⟨l, w, d, ds, _, ds[ds.findIdx fun z => PyData.eqv z d], rfl, rfl, dpUp (n2.bb.trans n2.bh) r1, dpUp n2.bh r2, h1, h2, List.getElem?_eq_getElem h3, List.findIdx_getElem (w := h3), fun m z' hm hz => by
    have hml : m < ds.length := Nat.lt_trans hm h3
    have := List.not_of_lt_findIdx hm
    rw [List.getElem?_eq_getElem hml] at hz
    rw [← Option.some.inj hz]
    simpa using this, q _ B2 H2 n (Dp.int _)⟩
end
end PL

set_option maxHeartbeats 1000000
/-! orders, inputs and their words: the plain law -/
namespace PL
open PySem PySem.Spec PyProof.Rows L2 RZ
abbrev Od := Option (List Str)
def eOd : Od → D
  | none => .none
  | some l => eL l
def stopO : Od := some ["stop"]
def doO (x : Str) : Od := some ["do", x]
def runO (x : Str) : Od := some ["run", x]
theorem eqvAll_strs : ∀ a b : List Str, PyData.eqvAll (a.map .str) (b.map .str) = decide (a = b)
  | [], [] => rfl
  | [], _ :: _ => by simp [PyData.eqvAll]
  | _ :: _, [] => by simp [PyData.eqvAll]
  | x :: a, y :: b => by
    have ih := eqvAll_strs a b
    show PyData.eqvAll (PyData.str x :: a.map .str) (PyData.str y :: b.map .str) = _
    rw [eqvAll_cons, eqv_str, ih]
    by_cases h1 : x = y
    · by_cases h2 : a = b
      · simp [h1, h2]
      · simp [h1, h2]
    · simp [h1]
theorem eqv_L (a b : List Str) : PyData.eqv (eL a) (eL b) = decide (a = b) := by
  unfold eL
  rw [eqv_tup, eqvAll_strs]
theorem eqv_Od : ∀ a b : Od, PyData.eqv (eOd a) (eOd b) = decide (a = b)
  | none, none => rfl
  | none, some b => by simp [eOd, eL, PyData.eqv]
  | some a, none => by simp [eOd, eL, PyData.eqv]
  | some a, some b => by
    show PyData.eqv (eL a) (eL b) = _
    rw [eqv_L]
    by_cases h : a = b <;> simp [h]
/-- texts that can be compared -/
def OksS (l : List Str) : Prop := ∀ x ∈ l, PyData.strOk x = true
theorem shp_L {l : List Str} (h : OksS l) : Shp 1 (eL l) := Shp.tup fun d hd => by
  obtain ⟨x, hx, rfl⟩ := List.mem_map.mp hd
  exact ⟨h x hx, Nat.zero_le _⟩
theorem shp_Od {o : Od} (h : ∀ l, o = some l → OksS l) : Shp 1 (eOd o) := by
  cases o with
  | none => exact Shp.non 1
  | some l => exact shp_L (h l rfl)
abbrev Bk.sn (b : Bk) : List Str := sortS b.cn
/-- whether it is an order -/
def ordB (b : Bk) : List Str → Bool
  | [x, y] => if x = "do" then decide (y ∈ b.sn) else if x = "run" then decide (y ∈ b.rn) else false
  | os => decide (os = ([("stop" : Str)] : List Str))
def inpB (b : Bk) (as : List Str) (o : Od) : Bool := lotOfB as b.an && (match o with | none => true | some os => ordB b os)
/-- all orders at their numbers -/
def ords (b : Bk) : List Od := ([none, stopO] ++ b.sn.map doO ++ List.replicate (8 - b.sn.length) none) ++ b.rn.map runO
/-- the orders -/
def ordL (b : Bk) : List Od := [none, stopO] ++ b.sn.map doO ++ b.rn.map runO
def numO (b : Bk) : Od → Nat
  | none => 0
  | some ["stop"] => 1
  | some ["do", x] => 2 + b.sn.idxOf x
  | some ["run", x] => 10 + b.rn.idxOf x
  | _ => 0
theorem sn_len {b : Bk} (h : BkOk b) : b.sn.length = b.cn.length ∧ b.cn.length ≤ 8 := ⟨(sortS_perm _).length_eq, h.c.hi⟩
theorem sn_nd {b : Bk} (h : BkOk b) : b.sn.Nodup := (sortS_perm _).nodup_iff.mpr h.c.nd
theorem ords_len {b : Bk} (h : BkOk b) : (ords b).length = 10 + b.rn.length := by
  have := sn_len h
  unfold ords
  simp only [List.length_append, List.length_map, List.length_replicate, List.length_cons, List.length_nil]
  omega
theorem ordL_iff {b : Bk} {o : Od} : o ∈ ordL b ↔ o = none ∨ o = stopO ∨ (∃ x ∈ b.sn, o = doO x) ∨ ∃ x ∈ b.rn, o = runO x := by
  unfold ordL
  simp only [List.mem_append, List.mem_cons, List.not_mem_nil, or_false, List.mem_map]
  constructor
  · rintro ((h | ⟨x, h, rfl⟩) | ⟨x, h, rfl⟩)
    · exact h.elim .inl fun h => .inr (.inl h)
    · exact .inr (.inr (.inl ⟨x, h, rfl⟩))
    · exact .inr (.inr (.inr ⟨x, h, rfl⟩))
  · rintro (h | h | ⟨x, h, rfl⟩ | ⟨x, h, rfl⟩)
    · exact .inl (.inl (.inl h))
    · exact .inl (.inl (.inr h))
    · exact .inl (.inr ⟨x, h, rfl⟩)
    · exact .inr ⟨x, h, rfl⟩
theorem ords_do {b : Bk} {k : Nat} (hk : k < b.sn.length) : (ords b)[2 + k]? = some (doO b.sn[k]) := by
  unfold ords
  rw [List.getElem?_append_left (by simp only [List.length_append, List.length_map, List.length_replicate, List.length_cons, List.length_nil]; omega),
    List.getElem?_append_left (by simp only [List.length_append, List.length_map, List.length_cons, List.length_nil]; omega),
    List.getElem?_append_right (by simp only [List.length_cons, List.length_nil]; omega)]
  simp only [List.length_cons, List.length_nil, List.getElem?_map]
  rw [show 2 + k - (0 + 1 + 1) = k by omega, List.getElem?_eq_getElem hk]
  rfl
theorem ords_mid {b : Bk} {k : Nat} (h1 : 2 + b.sn.length ≤ k) (h2 : k < 10) : (ords b)[k]? = some none := by
  unfold ords
  rw [List.getElem?_append_left (by simp only [List.length_append, List.length_map, List.length_replicate, List.length_cons, List.length_nil]; omega),
    List.getElem?_append_right (by simp only [List.length_append, List.length_map, List.length_cons, List.length_nil]; omega), List.getElem?_replicate, if_pos]
  simp only [List.length_append, List.length_map, List.length_cons, List.length_nil]
  omega
theorem ords_run {b : Bk} (h : BkOk b) {k : Nat} (hk : k < b.rn.length) : (ords b)[10 + k]? = some (runO b.rn[k]) := by
  have := sn_len h
  have hl : ([none, stopO] ++ b.sn.map doO ++ List.replicate (8 - b.sn.length) none).length = 10 := by
    simp only [List.length_append, List.length_map, List.length_replicate, List.length_cons, List.length_nil]
    omega
  unfold ords
  rw [List.getElem?_append_right (by rw [hl]; omega), hl, List.getElem?_map, show 10 + k - 10 = k by omega, List.getElem?_eq_getElem hk]
  rfl
/-- an order stands at its number -/
theorem ords_num {b : Bk} (h : BkOk b) {o : Od} (ho : o ∈ ordL b) : (ords b)[numO b o]? = some o ∧ (numO b o = 0 ∨ o ≠ none) := by
  rcases ordL_iff.mp ho with rfl | rfl | ⟨x, hx, rfl⟩ | ⟨x, hx, rfl⟩
  · exact ⟨rfl, .inl rfl⟩
  · exact ⟨rfl, .inr fun h => nomatch h⟩
  · have hk := List.idxOf_lt_length_of_mem hx
    refine ⟨?_, .inr fun h => nomatch h⟩
    show (ords b)[2 + b.sn.idxOf x]? = _
    rw [ords_do hk, List.getElem_idxOf hk]
  · have hk := List.idxOf_lt_length_of_mem hx
    refine ⟨?_, .inr fun h => nomatch h⟩
    show (ords b)[10 + b.rn.idxOf x]? = _
    rw [ords_run h hk, List.getElem_idxOf hk]
theorem ords_back {b : Bk} (h : BkOk b) {n : Nat} {o : Od} (hn : (ords b)[n]? = some o) (h0 : n = 0 ∨ o ≠ none) : o ∈ ordL b ∧ numO b o = n := by
  have hs := sn_len h
  have hlt := (List.getElem?_eq_some_iff.mp hn).1
  rw [ords_len h] at hlt
  by_cases c0 : n = 0
  · subst c0
    cases hn
    exact ⟨ordL_iff.mpr (.inl rfl), rfl⟩
  have ho := h0.resolve_left c0
  by_cases c1 : n = 1
  · subst c1
    cases hn
    exact ⟨ordL_iff.mpr (.inr (.inl rfl)), rfl⟩
  by_cases c2 : n < 2 + b.sn.length
  · have hk : n - 2 < b.sn.length := by omega
    have e := ords_do hk
    rw [show 2 + (n - 2) = n by omega, hn] at e
    cases e
    refine ⟨ordL_iff.mpr (.inr (.inr (.inl ⟨_, List.getElem_mem hk, rfl⟩))), ?_⟩
    show 2 + b.sn.idxOf b.sn[n - 2] = n
    rw [(sn_nd h).idxOf_getElem]
    omega
  by_cases c3 : n < 10
  · rw [ords_mid (by omega) c3] at hn
    exact absurd (Option.some.inj hn).symm ho
  · have hk : n - 10 < b.rn.length := by omega
    have e := ords_run h hk
    rw [show 10 + (n - 10) = n by omega, hn] at e
    cases e
    refine ⟨ordL_iff.mpr (.inr (.inr (.inr ⟨_, List.getElem_mem hk, rfl⟩))), ?_⟩
    show 10 + b.rn.idxOf b.rn[n - 10] = n
    rw [h.r.nd.idxOf_getElem]
    omega
theorem num_lt {b : Bk} (h : BkOk b) {o : Od} (ho : o ∈ ordL b) : numO b o < 16 := by
  have e := (List.getElem?_eq_some_iff.mp (ords_num h ho).1).1
  rw [ords_len h] at e
  have := h.r.hi
  omega
theorem ordB_iff {b : Bk} {os : List Str} : ordB b os = true ↔ some os ∈ ordL b := by
  rw [ordL_iff]
  unfold ordB
  split
  · rename_i x y
    split
    · rename_i hx
      subst hx
      rw [decide_eq_true_iff]
      constructor
      · exact fun h => .inr (.inr (.inl ⟨y, h, rfl⟩))
      · rintro (h | h | ⟨z, h, e⟩ | ⟨z, h, e⟩)
        · cases h
        · simp [stopO] at h
        · simp [doO] at e
          exact e ▸ h
        · exact absurd (List.cons.inj (Option.some.inj e)).1 (by decide)
    · rename_i h1
      split
      · rename_i hx
        subst hx
        rw [decide_eq_true_iff]
        constructor
        · exact fun h => .inr (.inr (.inr ⟨y, h, rfl⟩))
        · rintro (h | h | ⟨z, h, e⟩ | ⟨z, h, e⟩)
          · cases h
          · simp [stopO] at h
          · exact absurd (List.cons.inj (Option.some.inj e)).1 (by decide)
          · simp [runO] at e
            exact e ▸ h
      · rename_i h2
        constructor
        · exact fun h => nomatch h
        · rintro (h | h | ⟨z, h, e⟩ | ⟨z, h, e⟩)
          · cases h
          · simp [stopO] at h
          · simp [doO] at e
            exact absurd e.1 h1
          · simp [runO] at e
            exact absurd e.1 h2
  · rename_i os' hne
    rw [decide_eq_true_iff]
    constructor
    · intro h
      exact .inr (.inl (congrArg some h))
    · rintro (h | h | ⟨z, h, e⟩ | ⟨z, h, e⟩)
      · cases h
      · exact Option.some.inj h
      · exact absurd (Option.some.inj e) (hne _ _)
      · exact absurd (Option.some.inj e) (hne _ _)
theorem inpB_iff {b : Bk} {as : List Str} {o : Od} : inpB b as o = true ↔ lotOfB as b.an = true ∧ o ∈ ordL b := by
  unfold inpB
  rw [Bool.and_eq_true]
  cases o with
  | none => exact ⟨fun h => ⟨h.1, ordL_iff.mpr (.inl rfl)⟩, fun h => ⟨h.1, rfl⟩⟩
  | some os => exact ⟨fun h => ⟨h.1, ordB_iff.mp h.2⟩, fun h => ⟨h.1, ordB_iff.mpr h.2⟩⟩
/-- the place where index finds it -/
theorem ords_find {b : Bk} (h : BkOk b) {o : Od} (ho : o ∈ ordL b) : (((ords b).map eOd).findIdx fun z => PyData.eqv z (eOd o)) = numO b o := by
  obtain ⟨e1, e2⟩ := ords_num h ho
  have e3 := (List.getElem?_eq_some_iff.mp e1).1
  refine (List.findIdx_eq (by rw [List.length_map]; exact e3)).mpr (And.intro ?_ ?_)
  · rw [List.getElem_map, eqv_Od]
    exact decide_eq_true (List.getElem?_eq_some_iff.mp e1).2
  · intro j hj
    rw [List.getElem_map, eqv_Od]
    refine decide_eq_false fun k => ?_
    have hjl : j < (ords b).length := Nat.lt_trans hj e3
    have hz : j = 0 ∨ o ≠ none := by
      rcases e2 with e2 | e2
      · omega
      · exact .inr e2
    have := (ords_back h (n := j) (o := o) (by rw [List.getElem?_eq_getElem hjl, k]) hz).2
    omega
theorem eOd_eq {o : Od} : eOd o = .none ↔ o = none := by
  cases o with
  | none => exact ⟨fun _ => rfl, fun _ => rfl⟩
  | some l => exact ⟨fun h => (nomatch h), fun h => (nomatch h)⟩
theorem ords_oks {b : Bk} (h : BkOk b) {o : Od} (ho : o ∈ ordL b) : ∀ l, o = some l → OksS l := by
  rintro l rfl x hx
  rcases ordL_iff.mp ho with e | e | ⟨y, hy, e⟩ | ⟨y, hy, e⟩
  · cases e
  · cases e
    rw [List.mem_singleton.mp hx]
    decide +kernel
  · cases e
    rcases List.mem_cons.mp hx with rfl | hx
    · decide +kernel
    · rw [List.mem_singleton.mp hx]
      exact nm_ok (h.c.nm y ((sortS_perm _).mem_iff.mp hy))
  · cases e
    rcases List.mem_cons.mp hx with rfl | hx
    · decide +kernel
    · rw [List.mem_singleton.mp hx]
      exact nm_ok (h.r.nm y hy)
/-! ### bits -/
def pwI : List Int := [1, 2, 4, 8, 16, 32]
def nth (l : List Str) (k : Nat) : Str := l.getD k ⟨#[]⟩
def lowN : List Bool → Nat
  | [] => 0
  | b :: r => (if b then 1 else 0) + 2 * lowN r
theorem low_lt : ∀ bs : List Bool, lowN bs < 2 ^ bs.length
  | [] => Nat.one_pos
  | b :: r => by
    have := low_lt r
    unfold lowN
    rw [List.length_cons, Nat.pow_succ]
    split <;> omega
theorem low_bit : ∀ (bs : List Bool) (k : Nat), k < bs.length → (lowN bs / 2 ^ k % 2 = 1 ↔ bs.getD k false = true)
  | [], k, h => absurd h (Nat.not_lt_zero _)
  | b :: r, 0, _ => by
    unfold lowN
    rw [Nat.pow_zero, Nat.div_one, Nat.add_mul_mod_self_left]
    cases b <;> simp
  | b :: r, k + 1, h => by
    have ih := low_bit r k (Nat.lt_of_succ_lt_succ h)
    unfold lowN
    rw [Nat.pow_succ, Nat.mul_comm (2 ^ k) 2, ← Nat.div_div_eq_div_mul, show ((if b = true then 1 else 0) + 2 * lowN r) / 2 = lowN r by split <;> omega, ih]
    rfl
theorem low_snoc : ∀ (bs : List Bool) (b : Bool), lowN (bs ++ [b]) = lowN bs + (if b then 2 ^ bs.length else 0)
  | [], b => by
    unfold lowN
    cases b <;> rfl
  | a :: r, b => by
    have ih := low_snoc r b
    show (if a then 1 else 0) + 2 * lowN (r ++ [b]) = (if a then 1 else 0) + 2 * lowN r + _
    rw [ih, List.length_cons, Nat.pow_succ]
    split <;> split <;> omega
/-- the bits of a lot of these names -/
def bitsN (names lot : List Str) : Nat := lowN (names.map fun x => decide (x ∈ lot))
theorem bitsN_lt (names lot : List Str) : bitsN names lot < 2 ^ names.length := by
  have := low_lt (names.map fun x => decide (x ∈ lot))
  rwa [List.length_map] at this
theorem bits_bit {names lot : List Str} {k : Nat} (hk : k < names.length) : (bitsN names lot / 2 ^ k % 2 = 1 ↔ nth names k ∈ lot) := by
  unfold bitsN
  rw [low_bit _ k (by rw [List.length_map]; exact hk)]
  unfold nth
  rw [List.getD_eq_getElem?_getD, List.getD_eq_getElem?_getD, List.getElem?_map, List.getElem?_eq_getElem hk]
  simp
theorem low_sum (q : Nat → Bool) : ∀ n : Nat, (((List.range n).filter q).map fun k => 2 ^ k).sum = lowN ((List.range n).map q)
  | 0 => rfl
  | n + 1 => by
    have ih := low_sum q n
    rw [List.range_succ, List.filter_append, List.map_append, List.sum_append, ih, List.map_append]
    show _ = lowN ((List.range n).map q ++ [q n])
    rw [low_snoc, List.length_map, List.length_range]
    cases hq : q n with
    | true => simp [hq]
    | false => simp [hq]
theorem bits_sum (names lot : List Str) : (((List.range names.length).filter fun k => decide (nth names k ∈ lot)).map fun k => 2 ^ k).sum = bitsN names lot := by
  rw [low_sum]
  unfold bitsN
  congr 1
  refine List.ext_getElem (by simp) fun k h1 h2 => ?_
  have hk : k < names.length := by simpa using h2
  rw [List.getElem_map, List.getElem_map, List.getElem_range]
  unfold nth
  rw [List.getD_eq_getElem?_getD, List.getElem?_eq_getElem hk]
  rfl
theorem zip_range {names : List Str} (h : names.length ≤ 6) : pwI.zip names = (List.range names.length).map fun k => ((2 : Int) ^ k, nth names k) := by
  refine List.ext_getElem ?_ fun k h1 h2 => ?_
  · rw [List.length_zip, List.length_map, List.length_range]
    show min 6 _ = _
    omega
  · have hk : k < names.length := by simpa using h2
    rw [List.getElem_map, List.getElem_zip, List.getElem_range]
    unfold nth
    rw [List.getD_eq_getElem?_getD, List.getElem?_eq_getElem hk]
    refine Prod.ext ?_ rfl
    show pwI[k]'(by show k < 6; omega) = (2 : Int) ^ k
    have h6 : k < 6 := by omega
    match k, h6 with
    | 0, _ => rfl
    | 1, _ => rfl
    | 2, _ => rfl
    | 3, _ => rfl
    | 4, _ => rfl
    | 5, _ => rfl
theorem sumI_ints : ∀ ns : List Int, sumI (ns.map .int) = ns.sum
  | [] => rfl
  | n :: r => by
    have ih := sumI_ints r
    rw [List.map_cons, List.sum_cons, ← ih]
    rfl
theorem sum_cast : ∀ ns : List Nat, (ns.map fun n : Nat => (n : Int)).sum = ((ns.sum : Nat) : Int)
  | [] => rfl
  | n :: r => by
    rw [List.map_cons, List.sum_cons, List.sum_cons, sum_cast r]
    omega
theorem bits_zip {names lot : List Str} (h : names.length ≤ 6) : sumI (((pwI.zip names).filter fun p => decide (p.2 ∈ lot)).map fun p => .int p.1) = (bitsN names lot : Int) := by
  rw [zip_range h, List.filter_map, List.map_map, show ((fun p : Int × Str => PyData.int p.1) ∘ fun k => ((2 : Int) ^ k, nth names k)) = PyData.int ∘ (fun n : Nat => (n : Int)) ∘ fun k => 2 ^ k from funext fun k => by simp]
  rw [← List.map_map, sumI_ints, ← List.map_map, sum_cast]
  exact congrArg _ (bits_sum names lot)
/-- the lot that has these bits -/
def lotN (names : List Str) (m : Int) : List Str := sortS (((List.range names.length).filter fun k => decide (m / 2 ^ k % 2 = 1)).map fun k => nth names k)
theorem lot_zip {names : List Str} {m : Int} (h : names.length ≤ 6) : sortS (((pwI.zip names).filter fun p => decide (m / p.1 % 2 = 1)).map fun p => p.2) = lotN names m := by
  unfold lotN
  rw [zip_range h, List.filter_map, List.map_map]
  rfl
theorem nth_inj {names : List Str} (hn : names.Nodup) {i j : Nat} (hi : i < names.length) (hj : j < names.length) (h : nth names i = nth names j) : i = j := by
  unfold nth at h
  rw [List.getD_eq_getElem?_getD, List.getD_eq_getElem?_getD, List.getElem?_eq_getElem hi, List.getElem?_eq_getElem hj] at h
  exact (List.getElem_inj hn).mp h
theorem nth_mem {names : List Str} {k : Nat} (hk : k < names.length) : nth names k ∈ names := by
  unfold nth
  rw [List.getD_eq_getElem?_getD, List.getElem?_eq_getElem hk]
  exact List.getElem_mem hk
theorem nth_of {names : List Str} {x : Str} (h : x ∈ names) : ∃ k, k < names.length ∧ nth names k = x := by
  obtain ⟨k, hk, e⟩ := List.mem_iff_getElem.mp h
  refine ⟨k, hk, ?_⟩
  unfold nth
  rw [List.getD_eq_getElem?_getD, List.getElem?_eq_getElem hk]
  exact e
theorem pick_nd {names : List Str} (hn : names.Nodup) (q : Nat → Bool) : (((List.range names.length).filter q).map fun k => nth names k).Nodup := by
  have h1 : ((List.range names.length).filter q).Nodup := List.nodup_range.sublist List.filter_sublist
  refine List.pairwise_map.mpr (h1.imp_of_mem fun {i j} hi hj h e => h ?_)
  exact nth_inj hn (List.mem_range.mp (List.mem_filter.mp hi).1) (List.mem_range.mp (List.mem_filter.mp hj).1) e
theorem sort_rises {l : List Str} (hn : l.Nodup) : risB (sortS l) = true := by
  rw [ris_iff]
  have h1 := sortS_pw l
  have h2 : (sortS l).Nodup := (sortS_perm l).nodup_iff.mpr hn
  exact (h1.and h2).imp fun h => ltS_iff.mpr h
theorem pick_lot {names : List Str} {l : List Str} (hm : ∀ x ∈ names, isNmB x = true) (hl : l.Nodup) (hs : ∀ x ∈ l, x ∈ names) : lotOfB (sortS l) names = true := by
  unfold lotOfB isLotB inB
  rw [sort_rises hl, Bool.and_true, Bool.and_eq_true]
  exact ⟨List.all_eq_true.mpr fun x hx => hm x (hs x ((sortS_perm l).mem_iff.mp hx)), List.all_eq_true.mpr fun x hx => decide_eq_true (hs x ((sortS_perm l).mem_iff.mp hx))⟩
theorem lotN_lot {names : List Str} {lo hi : Nat} (h : NmsOk names lo hi) (m : Int) : lotOfB (lotN names m) names = true := by
  refine pick_lot h.nm (pick_nd h.nd _) fun x hx => ?_
  obtain ⟨k, hk, rfl⟩ := List.mem_map.mp hx
  exact nth_mem (List.mem_range.mp (List.mem_filter.mp hk).1)
theorem lotN_bits {names lot : List Str} {lo hi : Nat} (h : NmsOk names lo hi) (hl : lotOfB lot names = true) (m : Int) (hm : ∀ k < names.length, (m / 2 ^ k % 2 = 1 ↔ nth names k ∈ lot)) : lotN names m = lot := by
  obtain ⟨h1, h2⟩ := lotOf hl
  unfold lotN
  refine (sortS_eq (nodup_perm (pick_nd h.nd _) (lot_nd h1) fun x => ?_)).trans (lot_sort h1)
  constructor
  · intro hx
    obtain ⟨k, hk, rfl⟩ := List.mem_map.mp hx
    obtain ⟨hk1, hk2⟩ := List.mem_filter.mp hk
    exact (hm k (List.mem_range.mp hk1)).mp (of_decide_eq_true hk2)
  · intro hx
    obtain ⟨k, hk, rfl⟩ := nth_of (h2 x hx)
    exact List.mem_map.mpr ⟨k, List.mem_filter.mpr ⟨List.mem_range.mpr hk, decide_eq_true ((hm k hk).mpr hx)⟩, rfl⟩
/-! ### words of inputs -/
def rndZ : Int := 16777216
def wordN (b : Bk) (as : List Str) (o : Od) (t : Int) : Int := (numO b o : Int) + 16 * (bitsN b.an as : Int) + 256 * (t % rndZ)
/-- what word_input tells -/
def backD (b : Bk) (w t : Int) : D :=
  match (ords b)[(w % 16).toNat]? with
  | none => .none
  | some o => if w % 16 > 0 ∧ o = none then .none else if w ≠ wordN b (lotN b.an (w / 16 % 16)) o t then .none else .tuple [eL (lotN b.an (w / 16 % 16)), eOd o]
theorem bit_cast (m k : Nat) : ((m : Int) / 2 ^ k % 2 = 1 ↔ m / 2 ^ k % 2 = 1) := by
  constructor <;> intro h
  · exact_mod_cast h
  · exact_mod_cast h
theorem lot_back {b : Bk} (h : BkOk b) {as : List Str} (hl : lotOfB as b.an = true) : lotN b.an (bitsN b.an as : Int) = as :=
  lotN_bits h.a hl _ fun k hk => (bit_cast _ _).trans (bits_bit hk)
theorem bits16 {b : Bk} (h : BkOk b) (as : List Str) : bitsN b.an as < 16 := by
  have h1 := bitsN_lt b.an as
  have h2 : 2 ^ b.an.length ≤ 2 ^ 4 := Nat.pow_le_pow_right (by decide) h.a.hi
  omega
theorem back_parts {n m r : Int} (hn : 0 ≤ n ∧ n < 16) (hm : 0 ≤ m ∧ m < 16) : (n + 16 * m + 256 * r) % 16 = n ∧ (n + 16 * m + 256 * r) / 16 % 16 = m := by
  constructor <;> omega
/-- the word of an input, another number in the place of its order's -/
theorem back_at {b : Bk} (h : BkOk b) {as : List Str} (hl : lotOfB as b.an = true) {n : Nat} (hn : n < 16) (t : Int) :
    backD b ((n : Int) + 16 * (bitsN b.an as : Int) + 256 * (t % rndZ)) t = match (ords b)[n]? with | none => .none | some o => if n > 0 ∧ o = none then .none else .tuple [eL as, eOd o] := by
  have h16 := bits16 h as
  obtain ⟨e1, e2⟩ := back_parts (n := n) (m := bitsN b.an as) (r := t % rndZ) (by omega) (by omega)
  unfold backD
  rw [e1, e2, lot_back h hl, Int.toNat_natCast]
  cases ho : (ords b)[n]? with
  | none => rfl
  | some o =>
    show (if ((n : Int) > 0 ∧ o = none) then PyData.none else _) = if (n > 0 ∧ o = none) then PyData.none else _
    by_cases c : n > 0 ∧ o = none
    · rw [if_pos c, if_pos ⟨by omega, c.2⟩]
    · rw [if_neg c, if_neg (fun z => c ⟨by omega, z.2⟩)]
      have h0 : n = 0 ∨ o ≠ none := by
        by_cases c0 : n = 0
        · exact .inl c0
        · exact .inr fun z => c ⟨by omega, z⟩
      have := (ords_back h ho h0).2
      rw [if_neg]
      unfold wordN
      rw [this]
      exact fun z => z rfl
theorem back_word {b : Bk} (h : BkOk b) {as : List Str} (hl : lotOfB as b.an = true) {o : Od} (ho : o ∈ ordL b) (t : Int) : backD b (wordN b as o t) t = .tuple [eL as, eOd o] := by
  unfold wordN
  rw [back_at h hl (num_lt h ho), (ords_num h ho).1]
  show (if _ then PyData.none else _) = _
  rw [if_neg]
  rintro ⟨c1, c2⟩
  rcases (ords_num h ho).2 with z | z
  · omega
  · exact z c2
theorem back_turn {b : Bk} {w t u : Int} (h : t % rndZ = u % rndZ) : backD b w t = backD b w u := by
  unfold backD wordN
  rw [h]
/-- another turn -/
theorem back_next {b : Bk} (h : BkOk b) {as : List Str} (hl : lotOfB as b.an = true) {o : Od} (ho : o ∈ ordL b) (t : Int) : backD b (wordN b as o t) (t + 1) = .none := by
  have h16 := bits16 h as
  have hn := num_lt h ho
  obtain ⟨e1, e2⟩ := back_parts (n := numO b o) (m := bitsN b.an as) (r := t % rndZ) (by omega) (by omega)
  unfold backD
  show (match (ords b)[((wordN b as o t) % 16).toNat]? with | none => PyData.none | some o' => _) = _
  have e3 : wordN b as o t % 16 = (numO b o : Int) := e1
  have e4 : wordN b as o t / 16 % 16 = (bitsN b.an as : Int) := e2
  rw [e3, e4, lot_back h hl, Int.toNat_natCast, (ords_num h ho).1]
  show (if _ then PyData.none else if _ then PyData.none else _) = _
  have ne : wordN b as o t ≠ wordN b as o (t + 1) := by
    unfold wordN rndZ
    omega
  rw [if_pos ne, ite_self]
/-- a bit that stands for no alarm -/
theorem back_more {b : Bk} (h : BkOk b) {as : List Str} (hl : lotOfB as b.an = true) (h3 : b.an.length < 4) {o : Od} (ho : o ∈ ordL b) (t : Int) : backD b (wordN b as o t + 128) t = .none := by
  have h8 : bitsN b.an as < 8 := by
    have h1 := bitsN_lt b.an as
    have h2 : 2 ^ b.an.length ≤ 2 ^ 3 := Nat.pow_le_pow_right (by decide) (by omega)
    omega
  have hn := num_lt h ho
  obtain ⟨e1, e2⟩ := back_parts (n := numO b o) (m := ((bitsN b.an as + 8 : Nat) : Int)) (r := t % rndZ) (by omega) (by omega)
  have e0 : (numO b o : Int) + 16 * ((bitsN b.an as + 8 : Nat) : Int) + 256 * (t % rndZ) = wordN b as o t + 128 := by
    unfold wordN
    omega
  rw [e0] at e1 e2
  have hlot : lotN b.an ((bitsN b.an as + 8 : Nat) : Int) = as := lotN_bits h.a hl _ fun k hk => by
    rw [bit_cast, ← bits_bit hk]
    have hk3 : k < 3 := by omega
    match k, hk3 with
    | 0, _ => omega
    | 1, _ => omega
    | 2, _ => omega
  unfold backD
  rw [e1, e2, hlot, Int.toNat_natCast, (ords_num h ho).1]
  show (if _ then PyData.none else if _ then PyData.none else _) = _
  rw [if_pos (show wordN b as o t + 128 ≠ wordN b as o t by omega), ite_self]
/-- the last one of the orders with this number -/
def dueI (b : Bk) (as : List Str) (n : Nat) (os : List Od) : D := os.foldl (fun d o => if numO b o = n then .tuple [eL as, eOd o] else d) .none
theorem fold_none {b : Bk} {as : List Str} {n : Nat} : ∀ (os : List Od) (d : D), (∀ o ∈ os, numO b o ≠ n) → os.foldl (fun d o => if numO b o = n then PyData.tuple [eL as, eOd o] else d) d = d
  | [], d, _ => rfl
  | o :: r, d, h => by
    rw [List.foldl_cons, if_neg (h o List.mem_cons_self)]
    exact fold_none r d fun o ho => h o (List.mem_cons_of_mem _ ho)
theorem fold_one {b : Bk} {as : List Str} {n : Nat} {o : Od} : ∀ (os : List Od) (d : D), (∀ o' ∈ os, numO b o' = n → o' = o) → o ∈ os ∧ numO b o = n ∨ d = .tuple [eL as, eOd o] → os.foldl (fun d o => if numO b o = n then PyData.tuple [eL as, eOd o] else d) d = .tuple [eL as, eOd o]
  | [], d, _, h => h.elim (fun h => nomatch h.1) id
  | o' :: r, d, hu, h => by
    rw [List.foldl_cons]
    refine fold_one r _ (fun x hx => hu x (List.mem_cons_of_mem _ hx)) ?_
    by_cases c : numO b o' = n
    · rw [if_pos c, hu o' List.mem_cons_self c]
      exact .inr rfl
    · rw [if_neg c]
      rcases h with ⟨h1, h2⟩ | h
      · rcases List.mem_cons.mp h1 with rfl | h1
        · exact absurd h2 c
        · exact .inl ⟨h1, h2⟩
      · exact .inr h
theorem due_at {b : Bk} (h : BkOk b) (as : List Str) (n : Nat) : dueI b as n (ordL b) = match (ords b)[n]? with | none => .none | some o => if n > 0 ∧ o = none then .none else .tuple [eL as, eOd o] := by
  have back : ∀ o ∈ ordL b, numO b o = n → (ords b)[n]? = some o ∧ ¬ (n > 0 ∧ o = none) := fun o ho e => by
    have := ords_num h ho
    rw [e] at this
    exact ⟨this.1, fun ⟨c1, c2⟩ => this.2.elim (fun z => by omega) fun z => z c2⟩
  unfold dueI
  cases ho : (ords b)[n]? with
  | none => exact fold_none _ _ fun o h1 h2 => nomatch ho.symm.trans (back o h1 h2).1
  | some o =>
    by_cases c : n > 0 ∧ o = none
    · show _ = if _ then PyData.none else _
      rw [if_pos c]
      refine fold_none _ _ fun o' h1 h2 => ?_
      obtain ⟨b1, b2⟩ := back o' h1 h2
      rw [b1] at ho
      cases ho
      exact b2 c
    · show _ = if _ then PyData.none else _
      rw [if_neg c]
      obtain ⟨m1, m2⟩ := ords_back h ho (by
        by_cases c0 : n = 0
        · exact .inl c0
        · exact .inr fun z => c ⟨by omega, z⟩)
      refine fold_one _ _ (fun o' h1 h2 => ?_) (.inl ⟨m1, m2⟩)
      have := (back o' h1 h2).1
      rw [this] at ho
      exact (Option.some.inj ho)
end PL
namespace PL
open PySem PySem.Spec PyProof.Rows L2 RZ
theorem zipD_pw (names : List Str) : zipD (pwI.map .int) (names.map .str) = (pwI.zip names).map fun p => PyData.tuple [.int p.1, .str p.2] := by
  unfold zipD
  rw [List.zip_map, List.map_map]
  rfl
theorem zip_small (names : List Str) : (pwI.zip names).length < 1000000 := by
  rw [List.length_zip]
  exact Nat.lt_of_le_of_lt (Nat.min_le_left _ _) (by decide)
theorem pw_pos {names : List Str} {p : Int × Str} (h : p ∈ pwI.zip names) : 0 < p.1 ∧ p.1 < 1073741824 := by
  have h1 : p.1 ∈ pwI := (List.of_mem_zip (a := p.1) (b := p.2) h).1
  revert h1
  generalize p.1 = q
  intro h1
  unfold pwI at h1
  simp only [List.mem_cons, List.not_mem_nil, or_false] at h1
  omega
theorem lot_zipD {names : List Str} {m : Int} (h : names.length ≤ 6) : (sortS (((pwI.zip names).filter fun p => decide (m / p.1 % 2 = 1)).map fun p => p.2)).map PyData.str = (lotN names m).map .str := by rw [lot_zip h]
theorem ordsD0 (l r : List Str) : ((([.none, .tuple [.str "stop"]] : List D) ++ l.map fun x => PyData.tuple [.str "do", .str x]) ++ (List.replicate (8 - l.length) [PyData.none]).flatten) ++ r.map (fun x => PyData.tuple [.str "run", .str x]) = (([none, stopO] ++ l.map doO ++ List.replicate (8 - l.length) none) ++ r.map runO).map eOd := by
  have e : ∀ n, (List.replicate n [PyData.none]).flatten = (List.replicate n (none : Od)).map eOd := fun n => by
    induction n with
    | zero => rfl
    | succ n ih => rw [List.replicate_succ, List.flatten_cons, ih, List.replicate_succ]; rfl
  rw [e, List.map_append, List.map_append, List.map_append, List.map_map, List.map_map]
  rfl
theorem ordsD (b : Bk) : ((([.none, .tuple [.str "stop"]] : List D) ++ b.sn.map fun x => PyData.tuple [.str "do", .str x]) ++ (List.replicate (8 - b.sn.length) [PyData.none]).flatten) ++ b.rn.map (fun x => PyData.tuple [.str "run", .str x]) = (ords b).map eOd := ordsD0 b.sn b.rn
theorem rep1 (n : Nat) (d : D) : (List.replicate n [d]).flatten = List.replicate n d := by
  induction n with
  | zero => rfl
  | succ n ih => rw [List.replicate_succ, List.flatten_cons, ih, List.replicate_succ]; rfl
end PL

set_option maxHeartbeats 1000000
/-! the book that the laws draw: the plain law -/
namespace PL
open PySem PySem.Spec PyProof.Rows L2 RZ
theorem rngNat (n : Nat) : (rngI 0 (n : Int)).map PyData.int = (List.range n).map fun k => PyData.int ((k : Nat) : Int) := by
  unfold rngI
  rw [List.map_map, show ((n : Int) - 0).toNat = n by omega]
  refine List.map_congr_left fun k _ => ?_
  show PyData.int ((0 : Int) + (k : Nat)) = _
  rw [Int.zero_add]
theorem nth_at {l : List Str} {k : Nat} (hk : k < l.length) : atI (l.map PyData.str) (k : Int) = some (.str (nth l k)) := by
  refine atI_get' (k := k) ?_ (by omega)
  rw [List.getElem?_map, List.getElem?_eq_getElem hk]
  unfold nth
  rw [List.getD_eq_getElem?_getD, List.getElem?_eq_getElem hk]
  rfl
theorem nth_take {l : List Str} {n : Nat} (h : n ≤ l.length) : (List.range n).map (nth l) = l.take n := by
  refine List.ext_getElem (by rw [List.length_map, List.length_range, List.length_take]; omega) fun k h1 h2 => ?_
  have hk : k < n := by simpa using h1
  rw [List.getElem_map, List.getElem_range, List.getElem_take]
  unfold nth
  rw [List.getD_eq_getElem?_getD, List.getElem?_eq_getElem (by omega)]
  rfl
theorem nth_self (l : List Str) : (List.range l.length).map (nth l) = l := by
  rw [nth_take (Nat.le_refl _), List.take_length]
theorem p3_at {k : Nat} (h : k < 6) : atI [PyData.int 1, PyData.int 3, PyData.int 9, PyData.int 27, PyData.int 81, PyData.int 243] (k : Int) = some (PyData.int (3 ^ k)) := by
  match k, h with
  | 0, _ => rfl
  | 1, _ => rfl
  | 2, _ => rfl
  | 3, _ => rfl
  | 4, _ => rfl
  | 5, _ => rfl
theorem p3_at4 {k : Nat} (h : k < 4) : atI [PyData.int 1, PyData.int 3, PyData.int 9, PyData.int 27] (k : Int) = some (PyData.int (3 ^ k)) := by
  match k, h with
  | 0, _ => rfl
  | 1, _ => rfl
  | 2, _ => rfl
  | 3, _ => rfl
theorem p3_pos {k : Nat} (h : k < 6) : (0 : Int) < 3 ^ k ∧ (3 : Int) ^ k < 1073741824 := by
  match k, h with
  | 0, _ => decide
  | 1, _ => decide
  | 2, _ => decide
  | 3, _ => decide
  | 4, _ => decide
  | 5, _ => decide
theorem p2_at5 {k : Nat} (h : k < 5) : atI [PyData.int 1, PyData.int 2, PyData.int 4, PyData.int 8, PyData.int 16] (k : Int) = some (PyData.int (2 ^ k)) := by
  match k, h with
  | 0, _ => rfl
  | 1, _ => rfl
  | 2, _ => rfl
  | 3, _ => rfl
  | 4, _ => rfl
theorem p2_at6 {k : Nat} (h : k < 6) : atI [PyData.int 1, PyData.int 2, PyData.int 4, PyData.int 8, PyData.int 16, PyData.int 32] (k : Int) = some (PyData.int (2 ^ k)) := by
  match k, h with
  | 0, _ => rfl
  | 1, _ => rfl
  | 2, _ => rfl
  | 3, _ => rfl
  | 4, _ => rfl
  | 5, _ => rfl
theorem p4_at4 {k : Nat} (h : k < 4) : atI [PyData.int 1, PyData.int 4, PyData.int 16, PyData.int 64] (k : Int) = some (PyData.int (4 ^ k)) := by
  match k, h with
  | 0, _ => rfl
  | 1, _ => rfl
  | 2, _ => rfl
  | 3, _ => rfl
theorem p2_pos {k : Nat} (h : k < 6) : (0 : Int) < 2 ^ k ∧ (2 : Int) ^ k < 1073741824 := by
  match k, h with
  | 0, _ => decide
  | 1, _ => decide
  | 2, _ => decide
  | 3, _ => decide
  | 4, _ => decide
  | 5, _ => decide
theorem p4_pos {k : Nat} (h : k < 4) : (0 : Int) < 4 ^ k ∧ (4 : Int) ^ k < 1073741824 := by
  match k, h with
  | 0, _ => decide
  | 1, _ => decide
  | 2, _ => decide
  | 3, _ => decide
/-- the holds at which the digit in the system of three is v -/
def triL (m v : Int) (hs : List Str) : List Str := ((List.range hs.length).filter fun k => decide (m / 3 ^ k % 3 = v)).map (nth hs)
def hs0 : List Str := ["a", "b", "c", "d", "e", "f"]
def ms0 : List Str := ["safe", "work", "m3", "back", "m5"]
def az0 : List Str := ["z", "hot", "a", "low"]
def rs0 : List Str := ["plan", "back", "r3"]
def cs0 : List Str := ["c0", "c1", "c2", "c3", "c4", "c5", "c6", "c7"]
theorem cs0_at {k : Nat} (h : k < 8) : ("c" : Str) ++ ((toString (k : Int) : String) : Str) = nth cs0 k := by
  match k, h with
  | 0, _ => decide +kernel
  | 1, _ => decide +kernel
  | 2, _ => decide +kernel
  | 3, _ => decide +kernel
  | 4, _ => decide +kernel
  | 5, _ => decide +kernel
  | 6, _ => decide +kernel
  | 7, _ => decide +kernel
theorem az0_at {k : Nat} (h : k < 4) : atI [PyData.str "z", PyData.str "hot", PyData.str "a", PyData.str "low"] (k : Int) = some (PyData.str (nth az0 k)) := nth_at (l := az0) h
theorem rs0_at {k : Nat} (h : k < 3) : atI [PyData.str "plan", PyData.str "back", PyData.str "r3"] (k : Int) = some (PyData.str (nth rs0 k)) := nth_at (l := rs0) h
def optL (l : List Str) (n : Nat) : List (Option Str) := l.map some ++ List.replicate n none
def optA (l : List Str) (n : Nat) (i : Int) : Option Str := ((optL l n)[i.toNat]?).getD none
theorem opt_at {l : List Str} {n : Nat} {i : Int} (h0 : 0 ≤ i) (h1 : i < (l.length : Int) + n) : atI (l.map PyData.str ++ List.replicate n PyData.none) i = some (eO (optA l n i)) := by
  have hl : i.toNat < (optL l n).length := by
    unfold optL
    rw [List.length_append, List.length_map, List.length_replicate]
    omega
  have e : (optL l n).map eO = l.map PyData.str ++ List.replicate n PyData.none := by
    unfold optL
    rw [List.map_append, List.map_map, List.map_replicate]
    rfl
  rw [← e]
  refine atI_get' (k := i.toNat) ?_ (by omega)
  unfold optA
  rw [List.getElem?_map, List.getElem?_eq_getElem hl]
  rfl
theorem opt_ok {l : List Str} {n : Nat} {i : Int} : toOk (optA l n i) l := fun x h => by
  unfold optA at h
  cases e : (optL l n)[i.toNat]? with
  | none => rw [e] at h; cases h
  | some o =>
    rw [e] at h
    have h : o = some x := h
    subst h
    have := List.mem_of_getElem? e
    unfold optL at this
    rcases List.mem_append.mp this with q | q
    · obtain ⟨y, hy, e2⟩ := List.mem_map.mp q
      cases e2
      exact hy
    · cases (List.mem_replicate.mp q).2
section
variable (N : Nat → Int)
def bH : List Str := hs0.take (1 + N 0 % 6).toNat
def bN : List Str := ms0.take (1 + N 1 % 5).toNat
def bM (k : Nat) : Md := ⟨nth (bN N) k, triL (N (2 + k)) 1 (bH N), triL (N (2 + k)) 2 (bH N)⟩
def lotM (m : Int) : List Str := sortS (((List.range (bN N).length).filter fun n => decide (m / 2 ^ n % 2 = 0)).map (nth (bN N)))
def bC (k : Nat) : Cm := ⟨nth cs0 k, lotM N (N (9 + 2 * k)), triL (N (8 + 2 * k)) 1 (bH N), triL (N (8 + 2 * k)) 2 (bH N), optA (bN N) 3 (N (9 + 2 * k) / 32 % ((bN N).length + 3))⟩
def nC : Nat := (N 7 % 9).toNat
def bA (k : Nat) : Al := ⟨nth az0 k, triL (N (25 + k)) 1 (bH N), triL (N (25 + k)) 2 (bH N), optA (bN N) 2 (N (25 + k) / 7 % ((bN N).length + 2))⟩
def nA : Nat := (N 24 % 5).toNat
def bSt (k n : Nat) : Int × Str := (1 + (if N (30 + k) / 4 % 2 = 0 then N (33 + k) / 3 ^ n % 3 else N (33 + k) / 3 ^ n % 9), nth cs0 (N (33 + k) / 3 ^ n % (nC N)).toNat)
def nS (k : Nat) : Nat := (1 + N (30 + k) % 4).toNat
def bR (k : Nat) : Rw := ⟨nth rs0 k, (List.range (nS N k)).map (bSt N k)⟩
def nR : Nat := if 0 < nC N then (N 29 % 4).toNat else 0
def bQ : Option Int := if N 37 % 3 = 0 then none else if N 37 % 3 = 1 then some (1 + N 36 % 30) else some (1 + N 36 % 5)
/-- the drawn book -/
def bkN : Bk := ⟨bH N, (List.range (bN N).length).map (bM N), [], (List.range (nC N)).map (bC N), (List.range (nA N)).map (bA N), (List.range (nR N)).map (bR N), bQ N⟩
theorem take_nms {l : List Str} {n lo hi : Nat} (h1 : lo ≤ n) (h2 : n ≤ hi) (hl : hi = l.length) (h3 : (l.all isNmB) = true) (h4 : l.Nodup) : NmsOk (l.take n) lo hi := ⟨by rw [List.length_take]; omega, by rw [List.length_take]; omega, fun x hx => List.all_eq_true.mp h3 x (List.mem_of_mem_take hx), h4.sublist (List.take_sublist _ _)⟩
theorem bH_ok : NmsOk (bH N) 1 6 := take_nms (by omega) (by omega) rfl (by decide +kernel) (by decide +kernel)
theorem bN_ok : NmsOk (bN N) 1 5 := take_nms (by omega) (by omega) rfl (by decide +kernel) (by decide +kernel)
theorem nC_le : nC N ≤ 8 := by unfold nC; omega
theorem nA_le : nA N ≤ 4 := by unfold nA; omega
theorem nR_le : nR N ≤ 3 := by unfold nR; split <;> omega
theorem bC_n : ((List.range (nC N)).map (bC N)).map Cm.n = cs0.take (nC N) := by
  rw [List.map_map, ← nth_take (nC_le N)]
  rfl
theorem bA_n : ((List.range (nA N)).map (bA N)).map Al.n = az0.take (nA N) := by
  rw [List.map_map, ← nth_take (nA_le N)]
  rfl
theorem bR_n : ((List.range (nR N)).map (bR N)).map Rw.n = rs0.take (nR N) := by
  rw [List.map_map, ← nth_take (nR_le N)]
  rfl
theorem bM_n : ((List.range (bN N).length).map (bM N)).map Md.n = bN N := by
  rw [List.map_map]
  exact nth_self (bN N)
theorem tri_sub (m v : Int) (hs : List Str) : (triL m v hs).Sublist hs := by
  have h : (triL m v hs).Sublist ((List.range hs.length).map (nth hs)) := List.filter_sublist.map _
  rwa [nth_self] at h
theorem tri_turn {hs : List Str} {lo hi : Nat} (h : NmsOk hs lo hi) (hr : hs.Pairwise fun a b => ltS a b = true) (m : Int) : turnB (triL m 1 hs) (triL m 2 hs) hs = true := by
  have lot : ∀ v, lotOfB (triL m v hs) hs = true := fun v => by
    unfold lotOfB isLotB inB
    rw [Bool.and_eq_true, Bool.and_eq_true]
    exact ⟨⟨List.all_eq_true.mpr fun x hx => h.nm x ((tri_sub m v hs).subset hx), ris_iff.mpr (hr.sublist (tri_sub m v hs))⟩, List.all_eq_true.mpr fun x hx => decide_eq_true ((tri_sub m v hs).subset hx)⟩
  unfold turnB
  rw [lot 1, lot 2, Bool.true_and, Bool.true_and, Bool.not_eq_true', List.any_eq_false]
  intro x hx hy
  have hy := of_decide_eq_true hy
  obtain ⟨i, hi, rfl⟩ := List.mem_map.mp hx
  obtain ⟨j, hj, e⟩ := List.mem_map.mp hy
  obtain ⟨hi1, hi2⟩ := List.mem_filter.mp hi
  obtain ⟨hj1, hj2⟩ := List.mem_filter.mp hj
  have := nth_inj h.nd (List.mem_range.mp hj1) (List.mem_range.mp hi1) e
  subst this
  have a1 := of_decide_eq_true hi2
  have a2 := of_decide_eq_true hj2
  rw [a1] at a2
  cases a2
theorem bH_rise : (bH N).Pairwise fun a b => ltS a b = true := List.Pairwise.sublist (List.take_sublist _ _) (show hs0.Pairwise fun a b => ltS a b = true by decide +kernel)
theorem bk_ok : BkOk (bkN N) where
  h := bH_ok N
  m := by
    show NmsOk (((List.range (bN N).length).map (bM N)).map Md.n) 1 5
    rw [bM_n]
    exact bN_ok N
  c := by
    show NmsOk (((List.range (nC N)).map (bC N)).map Cm.n) 0 8
    rw [bC_n]
    exact take_nms (Nat.zero_le _) (nC_le N) rfl (by decide +kernel) (by decide +kernel)
  a := by
    show NmsOk (((List.range (nA N)).map (bA N)).map Al.n) 0 4
    rw [bA_n]
    exact take_nms (Nat.zero_le _) (nA_le N) rfl (by decide +kernel) (by decide +kernel)
  r := by
    show NmsOk (((List.range (nR N)).map (bR N)).map Rw.n) 0 3
    rw [bR_n]
    exact take_nms (Nat.zero_le _) (nR_le N) rfl (by decide +kernel) (by decide +kernel)
  mT := fun m hm => by
    obtain ⟨k, _, rfl⟩ := List.mem_map.mp hm
    exact tri_turn (bH_ok N) (bH_rise N) _
  cM := fun c hc => by
    obtain ⟨k, _, rfl⟩ := List.mem_map.mp hc
    show lotOfB (lotM N _) (((List.range (bN N).length).map (bM N)).map Md.n) = true
    rw [bM_n]
    refine pick_lot (bN_ok N).nm (pick_nd (bN_ok N).nd _) fun x hx => ?_
    obtain ⟨n, hn, rfl⟩ := List.mem_map.mp hx
    exact nth_mem (List.mem_range.mp (List.mem_filter.mp hn).1)
  cE := fun c hc => by
    obtain ⟨k, _, rfl⟩ := List.mem_map.mp hc
    refine ⟨tri_turn (bH_ok N) (bH_rise N) _, ?_⟩
    show toOk _ (((List.range (bN N).length).map (bM N)).map Md.n)
    rw [bM_n]
    exact opt_ok
  aE := fun c hc => by
    obtain ⟨k, _, rfl⟩ := List.mem_map.mp hc
    refine ⟨tri_turn (bH_ok N) (bH_rise N) _, ?_⟩
    show toOk _ (((List.range (bN N).length).map (bM N)).map Md.n)
    rw [bM_n]
    exact opt_ok
  rS := fun r hr => by
    obtain ⟨k, hk, rfl⟩ := List.mem_map.mp hr
    have hk := List.mem_range.mp hk
    have hc : 0 < nC N := by
      unfold nR at hk
      split at hk
      · assumption
      · exact absurd hk (Nat.not_lt_zero _)
    refine ⟨?_, ?_, fun s hs => ?_⟩
    · show 1 ≤ ((List.range (nS N k)).map (bSt N k)).length
      rw [List.length_map, List.length_range]
      unfold nS
      omega
    · show ((List.range (nS N k)).map (bSt N k)).length ≤ 4
      rw [List.length_map, List.length_range]
      unfold nS
      omega
    · obtain ⟨n, hn, rfl⟩ := List.mem_map.mp hs
      refine ⟨?_, ?_, ?_⟩
      · unfold bSt
        generalize N (33 + k) / 3 ^ n = d
        show 1 ≤ 1 + _
        split <;> omega
      · unfold bSt
        generalize N (33 + k) / 3 ^ n = d
        show 1 + _ ≤ (9 : Int)
        split <;> omega
      · show nth cs0 _ ∈ ((List.range (nC N)).map (bC N)).map Cm.n
        rw [List.map_map]
        refine List.mem_map.mpr ⟨_, List.mem_range.mpr ?_, rfl⟩
        generalize N (33 + k) / 3 ^ n = d
        have := Int.emod_nonneg d (show (nC N : Int) ≠ 0 by omega)
        have := Int.emod_lt_of_pos d (show (0 : Int) < nC N by omega)
        omega
  q := fun q h => by
    have h : bQ N = some q := h
    unfold bQ at h
    split at h
    · cases h
    · split at h
      · cases h
        omega
      · cases h
        omega
  b1 := Nat.zero_le _
  b2 := List.nodup_nil
  b3 := fun l h => nomatch h
theorem bk_cn : (bkN N).cn = cs0.take (nC N) := bC_n N
theorem bk_sorted : sortS (bkN N).cn = (bkN N).cn := by
  rw [bk_cn]
  exact sortS_self (List.Pairwise.sublist (List.take_sublist _ _) (show cs0.Pairwise fun a b => leS a b = true by decide +kernel))
end
/-- a book of which the commands stand in order -/
def bD (b : Bk) : D := .tuple [.list (b.holds.map .str), .list (b.modes.map eM), .list (b.cmds.map eC), .list (b.alarms.map eA), .list (b.rows.map eR), eQ b.quiet]
structure BkL (b : Bk) : Prop where
  ok : BkOk b
  cs : sortS b.cn = b.cn
  hr : b.holds.Pairwise fun a b => ltS a b = true
  cI : ∀ x ∈ b.cn, x ∈ cs0
  aI : ∀ x ∈ b.an, x ∈ az0
  rI : ∀ x ∈ b.rn, x ∈ rs0
  br : b.barred = []
theorem bk_l (N : Nat → Int) : BkL (bkN N) := ⟨bk_ok N, bk_sorted N, bH_rise N, fun x hx => List.mem_of_mem_take (bk_cn N ▸ hx), fun x hx => by
  have hx : x ∈ ((List.range (nA N)).map (bA N)).map Al.n := hx
  rw [bA_n] at hx
  exact List.mem_of_mem_take hx, fun x hx => by
  have hx : x ∈ ((List.range (nR N)).map (bR N)).map Rw.n := hx
  rw [bR_n] at hx
  exact List.mem_of_mem_take hx, rfl⟩
theorem cutS {l : List Str} {i : Int} (h : 0 ≤ i) : slD (l.map PyData.str) none (some i) = (l.take i.toNat).map PyData.str := by
  have e : i = ((i.toNat : Nat) : Int) := by omega
  rw [e, cutHi, Int.toNat_natCast, List.map_take]
theorem rngN_get {n k : Nat} {d : D} (h : ((List.range n).map fun k => PyData.int ((k : Nat) : Int))[k]? = some d) : k < n ∧ d = .int (k : Int) := by
  rw [List.getElem?_map] at h
  obtain ⟨j, hj, rfl⟩ := Option.map_eq_some_iff.mp h
  obtain ⟨h1, h2⟩ := List.getElem?_eq_some_iff.mp hj
  rw [List.getElem_range] at h2
  rw [List.length_range] at h1
  subst h2
  exact ⟨h1, rfl⟩
theorem range_snoc {α : Type} (f : Nat → α) (n : Nat) : (List.range (n + 1)).map f = (List.range n).map f ++ [f n] := by
  rw [List.range_succ, List.map_append]
  rfl
theorem cs0_len {k : Nat} (h : k < 8) : ("c" : Str).length + ((toString (k : Int) : String) : Str).length ≤ sizeLine := by
  match k, h with
  | 0, _ => exact leZ (by decide +kernel)
  | 1, _ => exact leZ (by decide +kernel)
  | 2, _ => exact leZ (by decide +kernel)
  | 3, _ => exact leZ (by decide +kernel)
  | 4, _ => exact leZ (by decide +kernel)
  | 5, _ => exact leZ (by decide +kernel)
  | 6, _ => exact leZ (by decide +kernel)
  | 7, _ => exact leZ (by decide +kernel)
/-! ### what the law makes of its book -/
theorem idx_strs (l : List Str) (x : Str) : ((l.map PyData.str).findIdx fun z => PyData.eqv z (.str x)) = l.idxOf x := by
  rw [List.findIdx_map]
  unfold List.idxOf
  have e : ((fun z => PyData.eqv z (.str x)) ∘ PyData.str) = fun y => y == x := funext fun y => eqv_str y x
  rw [e]
theorem shp_strs {l : List Str} (h : ∀ x ∈ l, isNmB x = true) : SeqAt.shaped (.list (l.map .str)) = true := (Shp.list (n := 1) fun d hd => by
  obtain ⟨x, hx, rfl⟩ := List.mem_map.mp hd
  exact shp_nm (h x hx) 1).ok
def lawAs (b : Bk) (f : Int) : List Str := sortS (((List.range b.an.length).filter fun k => decide (f / 4 ^ k % 4 = 1)).map (nth b.an))
def lawO (b : Bk) (s : Int) : Od := if 0 < s % 3 then ((ordL b)[(s / 3 % ((ordL b).length : Int)).toNat]?).getD none else none
theorem ordL_len (b : Bk) : (ordL b).length = 2 + b.sn.length + b.rn.length := by
  unfold ordL
  simp only [List.length_append, List.length_map, List.length_cons, List.length_nil]
theorem ordL_idx (b : Bk) (s : Int) : 0 ≤ s / 3 % ((ordL b).length : Int) ∧ s / 3 % ((ordL b).length : Int) < ((ordL b).length : Int) := by
  have := ordL_len b
  exact ⟨Int.emod_nonneg _ (by omega), Int.emod_lt_of_pos _ (by omega)⟩
theorem ordL_at (b : Bk) (s : Int) : atI ((ordL b).map eOd) (s / 3 % ((ordL b).length : Int)) = some (eOd (((ordL b)[(s / 3 % ((ordL b).length : Int)).toNat]?).getD none)) := by
  have h := ordL_idx b s
  refine atI_get' (k := (s / 3 % ((ordL b).length : Int)).toNat) ?_ (by omega)
  rw [List.getElem?_map, List.getElem?_eq_getElem (by omega)]
  rfl
theorem lawO_mem (b : Bk) (s : Int) : lawO b s ∈ ordL b := by
  unfold lawO
  split
  · have h := ordL_idx b s
    rw [List.getElem?_eq_getElem (by omega)]
    exact List.getElem_mem _
  · exact ordL_iff.mpr (.inl rfl)
theorem lawAs_lot {b : Bk} (h : BkOk b) (f : Int) : lotOfB (lawAs b f) b.an = true := by
  refine pick_lot h.a.nm (pick_nd h.a.nd _) fun x hx => ?_
  obtain ⟨k, hk, rfl⟩ := List.mem_map.mp hx
  exact nth_mem (List.mem_range.mp (List.mem_filter.mp hk).1)
theorem sn_cn {b : Bk} (h : BkL b) : b.sn = b.cn := h.cs
theorem ordLD {b : Bk} (h : BkL b) : (([.none, .tuple [.str "stop"]] : List D) ++ b.cmds.map fun c => PyData.tuple [.str "do", .str c.n]) ++ b.rows.map (fun r => PyData.tuple [.str "run", .str r.n]) = (ordL b).map eOd := by
  unfold ordL
  rw [sn_cn h, List.map_append, List.map_append, List.map_map, List.map_map, List.map_map, List.map_map]
  rfl
theorem bits_law (names lot : List Str) : sumI (((List.range names.length).filter fun k => decide (nth names k ∈ lot)).map fun k => PyData.int (2 ^ k)) = (bitsN names lot : Int) := by
  have e : (fun k : Nat => PyData.int (2 ^ k)) = PyData.int ∘ (fun n : Nat => (n : Int)) ∘ fun k => 2 ^ k := funext fun k => by
    show PyData.int (2 ^ k) = PyData.int (((2 ^ k : Nat)) : Int)
    simp
  rw [e, ← List.map_map, sumI_ints, ← List.map_map, sum_cast]
  exact congrArg _ (bits_sum names lot)
/-! ### inputs that are none -/
def bad0 : List (List Str × Od) := [(["none"], none), ([], doO "none"), ([], runO "none"), ([], some ["halt"]), ([], some ["do"]), ([], some ["stop", "c0"])]
def bad1 (b : Bk) : List (List Str × Od) := [((sortS b.an).reverse, none), ([nth b.an 0, nth b.an 0], none)]
structure BadI (b : Bk) (i : List Str × Od) : Prop where
  l : LotS i.1
  o : ∀ l, i.2 = some l → OksS l
  n : inpB b i.1 i.2 = false
theorem lot_bad {b : Bk} {l : List Str} {o : Od} (h : lotOfB l b.an = false) : inpB b l o = false := by
  unfold inpB
  rw [h, Bool.false_and]
theorem ord_bad {b : Bk} {l os : List Str} (h : ordB b os = false) : inpB b l (some os) = false := by
  unfold inpB
  show (_ && ordB b os) = false
  rw [h, Bool.and_false]
theorem lotS0 : LotS [] := ⟨Nat.zero_le _, fun _ h => nomatch h⟩
theorem oksL {l : List Str} (h : (l.all PyData.strOk) = true) : ∀ l', some l = some l' → OksS l' := fun l' e => by
  cases e
  exact List.all_eq_true.mp h
theorem bad0_ok {b : Bk} (h : BkL b) : ∀ i ∈ bad0, BadI b i := by
  have hs : ∀ x ∈ b.sn, x ∈ cs0 := fun x hx => h.cI x (sn_cn h ▸ hx)
  intro i hi
  unfold bad0 at hi
  simp only [List.mem_cons, List.not_mem_nil, or_false] at hi
  rcases hi with rfl | rfl | rfl | rfl | rfl | rfl
  · refine ⟨⟨Nat.le_of_ble_eq_true rfl, fun x hx => by rw [List.mem_singleton.mp hx]; decide +kernel⟩, fun l e => (nomatch e), lot_bad ?_⟩
    rw [← Bool.not_eq_true]
    intro z
    exact absurd (h.aI _ ((lotOf z).2 "none" List.mem_cons_self)) (by decide +kernel)
  · refine ⟨lotS0, oksL (by decide +kernel), ord_bad ?_⟩
    show (if (("do" : Str) = "do") then decide (("none" : Str) ∈ b.sn) else if (("do" : Str) = "run") then decide (("none" : Str) ∈ b.rn) else false) = false
    rw [if_pos rfl]
    exact decide_eq_false fun z => absurd (hs _ z) (by decide +kernel)
  · refine ⟨lotS0, oksL (by decide +kernel), ord_bad ?_⟩
    show (if (("run" : Str) = "do") then decide (("none" : Str) ∈ b.sn) else if (("run" : Str) = "run") then decide (("none" : Str) ∈ b.rn) else false) = false
    rw [if_neg (by decide), if_pos rfl]
    exact decide_eq_false fun z => absurd (h.rI _ z) (by decide +kernel)
  · exact ⟨lotS0, oksL (by decide +kernel), ord_bad (show decide (([("halt" : Str)] : List Str) = ([("stop" : Str)] : List Str)) = false by decide)⟩
  · exact ⟨lotS0, oksL (by decide +kernel), ord_bad (show decide (([("do" : Str)] : List Str) = ([("stop" : Str)] : List Str)) = false by decide)⟩
  · refine ⟨lotS0, oksL (by decide +kernel), ord_bad ?_⟩
    show (if (("stop" : Str) = "do") then decide (("c0" : Str) ∈ b.sn) else if (("stop" : Str) = "run") then decide (("c0" : Str) ∈ b.rn) else false) = false
    rw [if_neg (by decide), if_neg (by decide)]
theorem lotS_in {l names : List Str} {lo hi : Nat} (h : NmsOk names lo hi) (hl : l.length ≤ 1000) (hs : ∀ x ∈ l, x ∈ names) : LotS l := ⟨hl, fun x hx => by
  have := nm_len (h.nm x (hs x hx))
  omega⟩
theorem bad1_ok {b : Bk} (h : BkL b) (h1 : 1 < b.an.length) : ∀ i ∈ bad1 b, BadI b i := by
  have h4 := h.ok.a.hi
  intro i hi
  unfold bad1 at hi
  simp only [List.mem_cons, List.not_mem_nil, or_false] at hi
  rcases hi with rfl | rfl
  · refine ⟨lotS_in h.ok.a (by rw [List.length_reverse, (sortS_perm _).length_eq]; omega) fun x hx => (sortS_perm _).mem_iff.mp (List.mem_reverse.mp hx), fun l e => (nomatch e), lot_bad ?_⟩
    rw [← Bool.not_eq_true]
    intro z
    have hp := lot_pw (lotOf z).1
    rw [List.pairwise_reverse] at hp
    have hq := sortS_pw b.an
    have hl : (sortS b.an).length = b.an.length := (sortS_perm _).length_eq
    revert hp hq hl
    generalize sortS b.an = l
    intro hp hq hl
    match l, hl with
    | [], hl => rw [List.length_nil] at hl; omega
    | [_], hl => rw [List.length_singleton] at hl; omega
    | x :: y :: r, _ =>
      have a1 := (List.pairwise_cons.mp hp).1 y List.mem_cons_self
      have a2 := (List.pairwise_cons.mp hq).1 y List.mem_cons_self
      obtain ⟨a3, a4⟩ := ltS_iff.mp a1
      exact a4 (leS_anti a3 a2)
  · have hm : nth b.an 0 ∈ b.an := nth_mem (by omega)
    refine ⟨lotS_in h.ok.a (Nat.le_of_ble_eq_true rfl) fun x hx => ?_, fun l e => (nomatch e), lot_bad ?_⟩
    · simp only [List.mem_cons, List.not_mem_nil, or_false, or_self] at hx
      rw [hx]
      exact hm
    · rw [← Bool.not_eq_true]
      intro z
      have hn := lot_nd (lotOf z).1
      exact (List.nodup_cons.mp hn).1 List.mem_cons_self
theorem lot_oks {b : Bk} (h : BkOk b) {as : List Str} (hl : lotOfB as b.an = true) : OksS as := fun x hx => nm_ok (h.a.nm x ((lotOf hl).2 x hx))
theorem inp_shp {b : Bk} (h : BkOk b) {as : List Str} (hl : lotOfB as b.an = true) {o : Od} (ho : o ∈ ordL b) : Shp 2 (.tuple [eL as, eOd o]) := Shp.tup fun d hd => by
  simp only [List.mem_cons, List.not_mem_nil, or_false] at hd
  rcases hd with rfl | rfl
  · exact shp_L (lot_oks h hl)
  · exact shp_Od (ords_oks h ho)
theorem due_shp {b : Bk} (h : BkOk b) {as : List Str} (hl : lotOfB as b.an = true) (n : Nat) : Shp 2 (dueI b as n (ordL b)) := by
  rw [due_at h]
  cases e : (ords b)[n]? with
  | none => exact Shp.non 2
  | some o =>
    show Shp 2 (if n > 0 ∧ o = none then PyData.none else .tuple [eL as, eOd o])
    split
    · exact Shp.non 2
    · rename_i c
      refine inp_shp h hl (ords_back h e ?_).1
      by_cases c0 : n = 0
      · exact .inl c0
      · exact .inr fun z => c ⟨by omega, z⟩
end PL

set_option maxHeartbeats 4000000
/-! sets of keys of any kind that are objects (tuples of texts and the like), fewer than 64, told by their members -/
namespace PL
open PySem PySem.Spec PyProof.Rows L2
/-- a kind of keys that are objects: what a set asks of them -/
structure KD (P : Program) (w : World) (κ : Type) [DecidableEq κ] where
  is : Heap → κ → Addr → Prop
  hash : κ → Int
  draws : κ → Nat
  mv : ∀ {h h' : Heap} {k : κ} {b : Addr}, is h k b → (∀ o, h.get? b = some o → h'.get? b = some o) → is h' k b
  noSet : ∀ {h : Heap} {k : κ} {b : Addr} {o : Obj} {es : Array (Int × Value)} {ep : Nat} {t : SetTable}, is h k b → h.get? b = some o → o.data = .set es ep t → False
  eqb : ∀ {A : Around} {E : Value → Shared → Prop} {s : Shared} {x y : κ} {b c : Addr} {Q : Bool → Shared → Prop}, A.units + 8 < cLine → is s.heap x b → is s.heap y c → Q (decide (x = y)) s → wpAny (model P w) A (eqBool (.ref b) (.ref c)) Q E s
  hsh : ∀ {A : Around} {E : Value → Shared → Prop} {s : Shared} {x : κ} {b : Addr} {Q : Int → Shared → Prop}, A.units + 8 < cLine → is s.heap x b → Q (hash x) { s with toks := s.toks + draws x } → wpAny (model P w) A (pyHash (.ref b)) Q E s
  quiet : ∀ {A : Around} {E : Value → Shared → Prop} {s : Shared} {x : κ} {b : Addr} {Q : Bool → Shared → Prop}, is s.heap x b → Q true s → wpAny (model P w) A (eqIsQuiet 8 (.ref b)) Q E s
  ofc : ∀ {A : Around} {E : Value → Shared → Prop} {s : Shared} {x : κ} {b : Addr} {Q : Bool → Shared → Prop}, is s.heap x b → Q false s → wpAny (model P w) A (ofAClassStatement 8 (.ref b)) Q E s
  hby : ∀ {A : Around} {E : Value → Shared → Prop} {s : Shared} {x : κ} {b : Addr} {Q : Bool → Shared → Prop}, is s.heap x b → (∀ v, Q v s) → wpAny (model P w) A (hashByValue 8 (.ref b)) Q E s
section
variable {P : Program} {w : World} {κ : Type} [DecidableEq κ] {D : KD P w κ} {A : Around} {E : Value → Shared → Prop} {s : Shared}
/-- the rows of the table -/
def rwG (D : KD P w κ) (l : List (Addr × κ)) : List (Int × Value) := l.map fun e => (D.hash e.2, .ref e.1)
theorem rwG_len (D : KD P w κ) (l : List (Addr × κ)) : (rwG D l).length = l.length := List.length_map _
theorem rwG_get (D : KD P w κ) {l : List (Addr × κ)} {i : Nat} {e : Addr × κ} (h : l[i]? = some e) : (rwG D l)[i]? = some (D.hash e.2, .ref e.1) := by
  unfold rwG
  rw [List.getElem?_map, h]
  rfl
structure SetG (D : KD P w κ) (h : Heap) (a : Addr) (l : List (Addr × κ)) (o : Obj) (es : Array (Int × Value)) (ep : Nat) (t : SetTable) : Prop where
  get : h.get? a = some o
  ex : o.ExactSet
  dat : o.data = .set es ep t
  rows : es.toList = rwG D l
  tab : TabOk t (l.map fun e => D.hash e.2)
  nd : (l.map (·.2)).Nodup
  keys : ∀ e ∈ l, D.is h e.2 e.1
  led : w.params.followText "set-order" = true ∨ t.led = true
  room : l.length * 5 < t.mask * 3
  few : l.length < 64
/-- a search shows nothing -/
theorem seenG {x : κ} {b : Addr} {Q : Bool → Shared → Prop} (hx : D.is s.heap x b) {ys : List Value} (hy : ∀ y ∈ ys, ∃ z c, y = Value.ref c ∧ D.is s.heap z c) (h : Q false s) :
    wpAny (model P w) A (searchCouldBeSeen (.ref b) ys) Q E s := by
  unfold searchCouldBeSeen
  refine wpAny_bind (wpAny_forIn_list _ (fun rest r s1 => r.1 = none ∧ s1 = s ∧ ∀ y ∈ rest, ∃ z c, y = Value.ref c ∧ D.is s.heap z c) _ ?_ ?_ _ _ ⟨rfl, rfl, hy⟩)
  · rintro v rest r s1 ⟨e1, rfl, all⟩
    obtain ⟨z, c, rfl, hz⟩ := all v List.mem_cons_self
    have more := fun u hu => all u (List.mem_cons_of_mem _ hu)
    dsimp only
    by_cases c0 : (b == c || (carriedByValue (.ref b) && carriedByValue (.ref c))) = true
    · exact wp_if_pos c0 (wpAny_pure ⟨rfl, rfl, more⟩)
    · refine wp_if_neg c0 (wpAny_bind (D.quiet hx ?_))
      simp only [Bool.not_true, Bool.false_eq_true, if_false]
      refine wpAny_bind (D.quiet hz ?_)
      simp only [Bool.not_true, Bool.false_eq_true, if_false]
      refine wpAny_bind (D.ofc hx ?_)
      simp only [Bool.false_eq_true, if_false]
      refine wpAny_bind (D.ofc hz ?_)
      simp only [Bool.false_eq_true, if_false]
      exact wpAny_pure ⟨rfl, rfl, more⟩
  · rintro ⟨r1, r2⟩ s1 ⟨e1, rfl, _⟩
    simp only at e1
    subst e1
    exact wpAny_pure h
variable {a : Addr} {l : List (Addr × κ)} {o : Obj} {es : Array (Int × Value)} {ep : Nat} {t : SetTable}
theorem SetG.size {h : Heap} (R : SetG D h a l o es ep t) : es.size = l.length := by rw [← rwG_len D l, ← R.rows, Array.length_toList]
theorem SetG.tsize {h : Heap} (R : SetG D h a l o es ep t) : t.place.size = l.length := by
  have := R.tab.sz
  rwa [List.length_map] at this
theorem SetG.ent {h : Heap} (R : SetG D h a l o es ep t) {i : Nat} {e : Addr × κ} (hi : l[i]? = some e) : es[i]? = some (D.hash e.2, .ref e.1) := by
  rw [← Array.getElem?_toList, R.rows]
  exact rwG_get D hi
theorem SetG.fit {h : Heap} (R : SetG D h a l o es ep t) : t.fits es.size = true := by
  have h1 := R.tsize
  have h2 := R.size
  have h3 := R.room
  unfold SetTable.fits SetTable.fill
  rw [R.tab.dm, Bool.and_eq_true, beq_iff_eq, decide_eq_true_eq]
  exact ⟨by omega, by show t.place.size + 0 ≤ t.mask; omega⟩
/-- the probe at the c-th step -/
abbrev stp (t : SetTable) (z : Int) (c : Nat) : SetTable.Probe := L2.nth t.mask (runAt t.mask (SetTable.bits z % (t.mask + 1)) (SetTable.bits z)) c
theorem stp_dummy (t : SetTable) (z : Int) (c : Nat) : (stp t z c).dummy = none := by
  have all : ∀ (n : Nat) (p : SetTable.Probe), p.dummy = none → (L2.nth t.mask p n).dummy = none := by
    intro n
    induction n with
    | zero => exact fun p h => h
    | succ n ih =>
      intro p h
      refine ih (adv t.mask p) ?_
      unfold adv
      split <;> exact h
  exact all c _ rfl
theorem stp_add (t : SetTable) (z : Int) (c q : Nat) : L2.nth t.mask (stp t z c) q = stp t z (c + q) := (nth_add t.mask c _ q).symm
/-- the search from the c-th step on -/
theorem searchG (R : SetG D s.heap a l o es ep t) {x : Addr} {k : κ} (hx : D.is s.heap k x) (hu : A.units + 8 < cLine) {K : Nat} (hKf : K < 10 * SetTable.turns t.mask) (hK : way t.mask (D.hash k) K ∉ t.place.toList)
    (hKb : ∀ c, c < K → way t.mask (D.hash k) c ∈ t.place.toList) {Q : SetFound → Shared → Prop} (hin : k ∈ l.map (·.2) → Q (.there none) s) (hout : k ∉ l.map (·.2) → Q (.free (way t.mask (D.hash k) K) false) s) :
    ∀ (f c : Nat) (st : Option SetTable.Probe), st.getD (t.probeStart (D.hash k)) = stp t (D.hash k) c → c ≤ K → K - c < f → (∀ (i : Nat) e, l[i]? = some e → e.2 = k → ∃ c1, c ≤ c1 ∧ c1 < K ∧ t.place.toList[i]? = some (way t.mask (D.hash k) c1)) →
      wpAny (model P w) A (setSearchFrom a (.ref x) (D.hash k) true f st) Q E s := by
  have odd : ¬ t.gaveWay = true := by
    unfold SetTable.gaveWay
    rw [mask_odd R.tab.mok]
    decide
  intro f
  induction f with
  | zero => exact fun c st _ _ hf => absurd hf (Nat.not_lt_zero _)
  | succ f ih =>
    intro c st hst hc hf hre
    rw [setSearchFrom_succ]
    refine wpAny_bind (wpAny_setState_of R.get R.dat R.fit ?_)
    dsimp only
    refine wp_if_neg odd ?_
    try refine wpAny_bind (wpAny_pure ?_)
    have ej : ∀ q, (L2.nth t.mask (stp t (D.hash k) c) q).j = way t.mask (D.hash k) (c + q) := fun q => congrArg SetTable.Probe.j (stp_add t _ c q)
    have hat : ∀ (i : Nat) e, l[i]? = some e → (fun i => (es[i]?.map (·.1)).getD 0) i = D.hash e.2 := fun i e he => by
      show (es[i]?.map (·.1)).getD 0 = _
      rw [R.ent he]
      rfl
    have bck : c + (K - c) = K := by omega
    have sp := go_spec t R.tab.ris R.tab.dm (fun i => (es[i]?.map (·.1)).getD 0) (D.hash k) (10 * SetTable.turns t.mask) (K - c) (stp t (D.hash k) c) (stp_dummy t _ c) (by omega) (fun q hq => by rw [ej]; exact hKb _ (by omega)) (by rw [ej, bck]; exact hK)
    rcases sp with ⟨q, i, hq, hi, hh, hno, hp⟩ | ⟨hno, hp⟩
    · rw [ej] at hi
      have hp2 : t.probe (fun i => (es[i]?.map (·.1)).getD 0) (D.hash k) (st.getD (t.probeStart (D.hash k))) = some (.candidate (way t.mask (D.hash k) (c + q)) i (stp t (D.hash k) (c + (q + 1)))) := by
        rw [hst, ← ej, ← stp_add]
        exact hp
      rw [hp2]
      dsimp only
      have hil : i < l.length := by
        have h1 := (List.getElem?_eq_some_iff.mp hi).1
        rw [Array.length_toList, R.tsize] at h1
        exact h1
      obtain ⟨e, he⟩ : ∃ e, l[i]? = some e := ⟨_, List.getElem?_eq_getElem hil⟩
      have hem := List.mem_of_getElem? he
      have hek := R.keys e hem
      have live : t.slot (way t.mask (D.hash k) (c + q)) = .live i := slot_live R.tab.ris hi
      have rest : wpAny (model P w) A (searchRest a (.ref x) (D.hash k) true f es t (way t.mask (D.hash k) (c + q)) i (stp t (D.hash k) (c + (q + 1)))) Q E s := by
        unfold searchRest
        rw [R.ent he]
        dsimp only
        refine wpAny_bind (wpAny_holding (D.eqb (by simpa using hu) hek hx (wpAny_bind (wpAny_setState_of R.get R.dat R.fit ?_))))
        dsimp only
        by_cases c1 : e.2 = k
        · exact wp_if_pos (by simp [c1]) (wpAny_pure (hin (List.mem_map.mpr ⟨e, hem, c1⟩)))
        · refine wp_if_neg (by simp [c1]) ?_
          try refine wpAny_bind (wpAny_pure ?_)
          rw [sameMem]
          dsimp only
          simp only [if_true, live, R.ent he]
          refine wpAny_bind (wpAny_isSame_ref_self (wpAny_bind (wpAny_pure ?_)))
          simp only [if_true]
          refine wp_if_neg (by simp [c1]) (ih (c + (q + 1)) _ rfl (by omega) (by omega) fun i0 e0 h0 k0 => ?_)
          obtain ⟨c2, a1, a2, a3⟩ := hre i0 e0 h0 k0
          refine ⟨c2, ?_, a2, a3⟩
          rcases Nat.lt_trichotomy c2 (c + q) with z | z | z
          · exact absurd ((hat i0 e0 h0).trans (congrArg D.hash k0)) (hno (c2 - c) i0 (by omega) (by rw [ej, show c + (c2 - c) = c2 by omega]; exact a3))
          · rw [z] at a3
            have s0 := slot_live R.tab.ris a3
            rw [live] at s0
            injection s0 with s0
            rw [← s0, he] at h0
            exact absurd ((congrArg Prod.snd (Option.some.inj h0)).trans k0) c1
          · omega
      by_cases c1 : t.led = true
      · refine wp_if_neg (by simp [c1]) ?_
        try refine wpAny_bind (wpAny_pure ?_)
        exact rest
      · refine wp_if_pos (by simp [c1]) (wpAny_bind (seenG hx (fun y hy => ?_) ?_))
        · obtain ⟨r, hr, rfl⟩ := List.mem_map.mp hy
          have hr1 : r ∈ es ∧ r.1 = D.hash k := by simpa using hr
          have hr2 : r ∈ es.toList := by simpa using hr1.1
          rw [R.rows] at hr2
          obtain ⟨g, hg, rfl⟩ := List.mem_map.mp hr2
          exact ⟨g.2, g.1, rfl, R.keys g hg⟩
        · refine wp_if_neg (by decide) ?_
          try refine wpAny_bind (wpAny_pure ?_)
          exact rest
    · have hp2 : t.probe (fun i => (es[i]?.map (·.1)).getD 0) (D.hash k) (st.getD (t.probeStart (D.hash k))) = some (.empty (way t.mask (D.hash k) K) none) := by
        have e2 := ej (K - c)
        rw [bck] at e2
        rw [hst, ← e2]
        exact hp
      rw [hp2]
      dsimp only
      refine wpAny_pure (hout fun hm => ?_)
      obtain ⟨e0, h0, k0⟩ := List.mem_map.mp hm
      obtain ⟨i0, g0⟩ := List.mem_iff_getElem?.mp h0
      obtain ⟨c2, a1, a2, a3⟩ := hre i0 e0 g0 k0
      exact hno (c2 - c) i0 (by omega) (by rw [ej, show c + (c2 - c) = c2 by omega]; exact a3) ((hat i0 e0 g0).trans (congrArg D.hash k0))
/-- the search as adding asks for it -/
theorem searchG0 (R : SetG D s.heap a l o es ep t) {x : Addr} {k : κ} (hx : D.is s.heap k x) (hu : A.units + 8 < cLine) {Q : SetFound → Shared → Prop} (hin : k ∈ l.map (·.2) → Q (.there none) s)
    (hout : ∀ K, k ∉ l.map (·.2) → way t.mask (D.hash k) K ∉ t.place.toList → (∀ c, c < K → way t.mask (D.hash k) c ∈ t.place.toList) → Q (.free (way t.mask (D.hash k) K) false) s) :
    wpAny (model P w) A (setSearch a (.ref x) (D.hash k) true) Q E s := by
  have r1 := R.room
  obtain ⟨K, k1, k2, k3⟩ := R.tab.first (by rw [List.length_map]; omega) (D.hash k)
  have big : K < 100000 := by
    have : 10 * SetTable.turns t.mask ≤ 1420 := by
      unfold SetTable.turns
      rcases R.tab.mok with e | e | e <;> omega
    omega
  unfold setSearch
  refine searchG R hx hu k1 k2 k3 hin (fun hn => hout K hn k2 k3) 100000 0 none rfl (Nat.zero_le _) (by omega) fun i e he hk => ?_
  have hi : (l.map fun e => D.hash e.2)[i]? = some (D.hash k) := by rw [List.getElem?_map, he, ← hk]; rfl
  have hil : i < t.place.toList.length := by
    rw [Array.length_toList, R.tsize]
    exact (List.getElem?_eq_some_iff.mp he).1
  have hj := List.getElem?_eq_getElem hil
  obtain ⟨c, hc, e2⟩ := R.tab.before k2 hi hj
  exact ⟨c, Nat.zero_le _, hc, by rw [hj, e2]⟩
end
end PL

set_option maxHeartbeats 4000000
namespace PL
open PySem PySem.Spec PyProof.Rows L2
section
variable {P : Program} {w : World} {κ : Type} [DecidableEq κ] {D : KD P w κ} {A : Around} {E : Value → Shared → Prop} {s : Shared}
theorem KD.same {h h' : Heap} {k : κ} {a b : Addr} {o : Obj} {es : Array (Int × Value)} {ep : Nat} {t : SetTable} (hb : D.is h k b) (ho : h.get? a = some o) (hd : o.data = .set es ep t) (hs : Heap.SameBut a h h') : D.is h' k b :=
  D.mv hb fun o' e => (hs.2 b fun z => D.noSet hb (z ▸ ho) hd).trans e
/-- rows in another order -/
theorem rowsOrder {l : List (Addr × κ)} {es : Array (Int × Value)} {order : Array Nat} (hr : es.toList = rwG D l) (hp : order.toList.Perm (List.range l.length)) :
    ∃ m, (order.filterMap (es[·]?)).toList = rwG D m ∧ m.Perm l ∧ (m.map fun e => D.hash e.2) = order.toList.map fun i => (es.map (·.1)).getD i 0 := by
  have hz : es.size = l.length := by rw [← rwG_len D l, ← hr, Array.length_toList]
  have one : ∀ (i : Nat) (e : Addr × κ), l[i]? = some e → es[i]? = some (D.hash e.2, Value.ref e.1) := fun i e he => by
    rw [← Array.getElem?_toList, hr]
    exact rwG_get D he
  have all : ∀ js : List Nat, (∀ i ∈ js, i < l.length) → js.filterMap (fun i => es[i]?) = rwG D (js.filterMap fun i => l[i]?) ∧ ((js.filterMap fun i => l[i]?).map fun e => D.hash e.2) = js.map fun i => (es.map (·.1)).getD i 0 := by
    intro js
    induction js with
    | nil => exact fun _ => ⟨rfl, rfl⟩
    | cons i js ih =>
      intro hj
      obtain ⟨i1, i2⟩ := ih fun j h => hj j (List.mem_cons_of_mem _ h)
      have he := List.getElem?_eq_getElem (hj i List.mem_cons_self)
      have hv := one i _ he
      rw [List.filterMap_cons_some hv, List.filterMap_cons_some he]
      refine ⟨by rw [i1]; rfl, ?_⟩
      rw [List.map_cons, List.map_cons, i2]
      have h5 : (es.map (·.1))[i]? = some (D.hash (l[i]'(hj i List.mem_cons_self)).2) := by
        rw [Array.getElem?_map, hv]
        rfl
      rw [Array.getD_eq_getD_getElem?, h5]
      rfl
  obtain ⟨q1, q2⟩ := all order.toList fun i hi => List.mem_range.mp (hp.mem_iff.mp hi)
  refine ⟨_, by first | (rw [Array.toList_filterMap]; exact q1) | simpa using q1, ?_, q2⟩
  have full : ∀ n, n ≤ l.length → (List.range n).filterMap (fun i => l[i]?) = l.take n := by
    intro n
    induction n with
    | zero => exact fun _ => rfl
    | succ n ih =>
      intro hn
      have hl : l[n]? = some l[n] := List.getElem?_eq_getElem hn
      rw [List.range_succ, List.filterMap_append, ih (by omega), List.take_add_one, List.filterMap_cons_some hl, hl]
      rfl
  have h1 := hp.filterMap fun i => l[i]?
  rw [full l.length (Nat.le_refl _), List.take_length] at h1
  exact h1
variable {a : Addr} {l : List (Addr × κ)} {o : Obj} {es : Array (Int × Value)} {ep : Nat} {t : SetTable}
/-- a set as it stands -/
def StdG (D : KD P w κ) (h : Heap) (a : Addr) (l : List (Addr × κ)) : Prop := ∃ o es ep t, SetG D h a l o es ep t
theorem relayG (ho : s.heap.get? a = some o) (hx : o.ExactSet) (hd : o.data = .set es ep t) (hrow : es.toList = rwG D l) (hsz : t.place.size = es.size) (hdm : t.dummies = #[]) (hfl : es.size ≤ t.mask) (hnd : (l.map (·.2)).Nodup) (hks : ∀ e ∈ l, D.is s.heap e.2 e.1)
    (hld : w.params.followText "set-order" = true ∨ t.led = true) (hfew : l.length < 64) {wanted M : Nat} (hw : SetTable.sizeAbove wanted - 1 = M) (hM : MaskOk M) (hw2 : SetTable.sizeAbove wanted ≤ 128) (hn : l.length * 5 < M * 3) {Q : Unit → Shared → Prop}
    (hQ : ∀ h' l', Heap.SameBut a s.heap h' → StdG D h' a l' → l'.Perm l → Q () { s with heap := h' }) : wpAny (model P w) A (setRelay a wanted) Q E s := by
  have hz : es.size = l.length := by rw [← rwG_len D l, ← hrow, Array.length_toList]
  have fit : t.fits es.size = true := by
    unfold SetTable.fits SetTable.fill
    rw [hdm, Bool.and_eq_true, beq_iff_eq, decide_eq_true_eq]
    exact ⟨hsz, by show t.place.size + 0 ≤ t.mask; omega⟩
  obtain ⟨t2, order, e1, e2, T, e3, e4, e5, e6⟩ := relaid_ok t (hs := es.map (·.1)) (wanted := wanted) hw hM (by rw [Array.size_map, hz]; omega)
  rw [Array.size_map, hz] at e2
  obtain ⟨m, r1, r2, r3⟩ := rowsOrder hrow e2
  rw [← r3] at T
  have hz2 : (order.filterMap (es[·]?)).size = es.size := by rw [← Array.length_toList, r1, rwG_len, r2.length_eq, hz]
  rw [setRelay_eq]
  refine wpAny_bind (wpAny_setState_of ho hd fit ?_)
  dsimp only
  refine wp_if_neg (by rw [sizeLine_eq]; omega) ?_
  try refine wpAny_bind (wpAny_pure ?_)
  rw [e1]
  dsimp only
  refine wpAny_bind (wp_if_neg (by rw [hz2]; simp) ?_)
  try refine wpAny_bind (wpAny_pure ?_)
  refine wpAny_pure ?_
  dsimp only
  have sb : Heap.SameBut a s.heap (s.heap.update a (Obj.putSet (order.filterMap (es[·]?)) t2)) := Heap.SameBut.update ..
  refine wpAny_storeSet_of ho hd (hQ _ m sb ⟨_, _, _, _, ⟨store_at ho hd, ⟨hx.1, hx.2.1, hx.2.2⟩, rfl, r1, T, (r2.map (·.2)).nodup_iff.mpr hnd, fun e he => KD.same (hks e (r2.mem_iff.mp he)) ho hd sb, by rw [e4]; exact hld, by rw [r2.length_eq, e3]; exact hn, by rw [r2.length_eq]; exact hfew⟩⟩ r2) (by rw [hz2, hz, sizeLine_eq]; omega)
/-- a key is added -/
theorem addG (R : StdG D s.heap a l) {x : Addr} {k : κ} (hx : D.is s.heap k x) (hu : A.units + 8 < cLine) (hfew : l.length + 1 < 64) {Q : Bool → Shared → Prop}
    (hQ : ∀ b h' l', Heap.SameBut a s.heap h' → StdG D h' a l' → (k ∈ l.map (·.2) → l' = l) → (k ∉ l.map (·.2) → l'.Perm ((x, k) :: l)) → Q b { s with heap := h' }) :
    wpAny (model P w) A (setAddHashed a (.ref x) (D.hash k)) Q E s := by
  obtain ⟨o, es, ep, t, R⟩ := R
  have hz := R.size
  have hroom := R.room
  unfold setAddHashed
  refine wpAny_holding ?_
  rw [show (100000 : Nat) = 99999 + 1 from rfl, setAddHashedIn_succ]
  refine wpAny_bind (wpAny_setState_of R.get R.dat R.fit ?_)
  dsimp only
  refine wp_if_neg (by simp [byScan, Value.scannable]) ?_
  try refine wpAny_bind (wpAny_pure ?_)
  refine wpAny_bind (searchG0 R hx (by simpa using hu) (fun hm => ?_) fun K hm hK hb => ?_)
  · dsimp only
    exact wpAny_pure (hQ false s.heap l (Heap.SameBut.refl a s.heap) ⟨_, _, _, _, R⟩ (fun _ => rfl) fun z => absurd hm z)
  dsimp only
  refine wpAny_bind (wpAny_setState_of R.get R.dat R.fit ?_)
  dsimp only
  obtain ⟨q1, q2, q3, q4, q5, q6, q7, q8, q9⟩ := R.tab.put hK hb
  generalize t.put (way t.mask (D.hash k) K) = pt at q1 q3 q4 q5 q6 q7 q8 q9 ⊢
  obtain ⟨t1, p⟩ := pt
  dsimp only at q1 q3 q4 q5 q6 q7 q8 q9 ⊢
  subst q1
  generalize SetTable.below t.place (way t.mask (D.hash k) K) = p at q2 q3 ⊢
  have rows1 : (SetTable.insertAt es p (D.hash k, Value.ref x)).toList = rwG D (l.take p ++ (x, k) :: l.drop p) := by
    rw [SetTable.toList_insertAt, R.rows]
    unfold rwG
    rw [List.map_append, List.map_cons, List.map_take, List.map_drop]
  have pm : (l.take p ++ (x, k) :: l.drop p).Perm ((x, k) :: l) := put_perm l p (x, k)
  have tab1 : (l.map fun e => D.hash e.2).take p ++ D.hash k :: (l.map fun e => D.hash e.2).drop p = (l.take p ++ (x, k) :: l.drop p).map fun e => D.hash e.2 := by rw [List.map_append, List.map_cons, List.map_take, List.map_drop]
  rw [tab1] at q3
  generalize l.take p ++ (x, k) :: l.drop p = m at pm q3 rows1
  have len1 : m.length = l.length + 1 := pm.length_eq
  have nd1 : (m.map (·.2)).Nodup := by
    refine (pm.map (·.2)).nodup_iff.mpr ?_
    rw [List.map_cons]
    exact List.nodup_cons.mpr ⟨hm, R.nd⟩
  have hz1 : (SetTable.insertAt es p (D.hash k, Value.ref x)).size = l.length + 1 := by rw [← Array.length_toList, rows1, rwG_len, len1]
  generalize SetTable.insertAt es p (D.hash k, Value.ref x) = es1 at rows1 hz1 ⊢
  suffices fin : ∀ t2 : SetTable, TabOk t2 (m.map fun e => D.hash e.2) → t2.mask = t.mask → t2.led = t.led → (t2.tooFull = true ↔ (l.length + 1) * 5 ≥ t2.mask * 3) →
      wpAny (model P w) A (do storeSet a es1 t2; if (!false && t2.tooFull) = true then (do setRelay a (SetTable.grown (es.size + 1)); pure true) else pure true) Q E s by
    have f1 : t1.tooFull = true ↔ (l.length + 1) * 5 ≥ t1.mask * 3 := by
      unfold SetTable.tooFull
      rw [decide_eq_true_eq, q9, List.length_map]
    by_cases pl : t1.plain = true
    · refine wp_if_pos pl (wpAny_bind (D.hby hx fun v => ?_))
      cases v with
      | true =>
        simp only [if_true]
        exact fin t1 q3 q4 q5 f1
      | false =>
        simp only [Bool.false_eq_true, if_false]
        exact fin { t1 with plain := false } ⟨q3.1, q3.2, q3.3, q3.4, q3.5, q3.6⟩ q4 q5 f1
    · refine wp_if_neg pl (wpAny_bind (wpAny_pure ?_))
      simp only [if_true]
      exact fin t1 q3 q4 q5 f1
  clear q2 q3 q4 q5 q6 q7 q8 q9
  intro t1 q3 q4 q5 full
  refine wpAny_bind (wpAny_storeSet_of R.get R.dat ?_ (by rw [hz1, sizeLine_eq]; omega))
  have sb : Heap.SameBut a s.heap (s.heap.update a (Obj.putSet es1 t1)) := Heap.SameBut.update ..
  have ho1 := store_at (es' := es1) (t' := t1) R.get R.dat
  generalize s.heap.update a (Obj.putSet es1 t1) = h1 at sb ho1 ⊢
  have ks1 : ∀ e ∈ m, D.is h1 e.2 e.1 := fun e he => by
    rcases List.mem_cons.mp (pm.mem_iff.mp he) with z | z
    · rw [z]
      exact KD.same hx R.get R.dat sb
    · exact KD.same (R.keys e z) R.get R.dat sb
  have ld1 : w.params.followText "set-order" = true ∨ t1.led = true := by rw [q5]; exact R.led
  have sz1 : t1.place.size = es1.size := by
    have h := q3.sz
    rw [List.length_map, len1] at h
    rw [h, hz1]
  by_cases hf : t1.tooFull = true
  · first
      | (refine wpAny_bind ?_; refine wp_if_pos (by simp [hf]) ?_)
      | (refine wp_if_pos (by simp [hf]) ?_; refine wpAny_bind ?_)
    have hfu := full.mp hf
    rw [hz]
    have two : (t.mask = 7 ∧ l.length = 4) ∨ (t.mask = 31 ∧ l.length = 18) := by
      rcases R.tab.mok with e | e | e
      · exact .inl ⟨e, by rw [q4, e] at hfu; rw [e] at hroom; omega⟩
      · exact .inr ⟨e, by rw [q4, e] at hfu; rw [e] at hroom; omega⟩
      · rw [q4, e] at hfu
        omega
    have go : ∀ M, SetTable.sizeAbove (SetTable.grown (l.length + 1)) - 1 = M → MaskOk M → SetTable.sizeAbove (SetTable.grown (l.length + 1)) ≤ 128 → (l.length + 1) * 5 < M * 3 →
        wpAny (model P w) A (setRelay a (SetTable.grown (l.length + 1))) (fun _ s' => wpAny (model P w) A (pure true) Q E s') E { s with heap := h1 } := fun M m1 m2 m3 m4 =>
      relayG (s := { s with heap := h1 }) ho1 ⟨R.ex.1, R.ex.2.1, R.ex.2.2⟩ rfl rows1 sz1 q3.dm (by rw [hz1, q4]; rcases two with ⟨e, e2⟩ | ⟨e, e2⟩ <;> omega) nd1 ks1 ld1 (by rw [len1]; exact hfew) m1 m2 m3 (by rw [len1]; exact m4)
        fun h2 l2 sb2 R2 pm2 => wpAny_pure (hQ true h2 l2 (sb.trans sb2) R2 (fun z => absurd z hm) fun _ => pm2.trans pm)
    rcases two with ⟨_, e2⟩ | ⟨_, e2⟩
    · exact go 31 (by rw [e2, size_20]) (.inr (.inl rfl)) (by rw [e2, size_20]; decide) (by omega)
    · exact go 127 (by rw [e2, size_76]) (.inr (.inr rfl)) (by rw [e2, size_76]; decide) (by omega)
  · have hfu : ¬ ((l.length + 1) * 5 ≥ t1.mask * 3) := fun z => hf (full.mpr z)
    first
      | refine wp_if_neg (by simp [hf]) ?_
      | (refine wpAny_bind ?_; refine wp_if_neg (by simp [hf]) ?_; refine wpAny_pure ?_)
    exact wpAny_pure (hQ true h1 m sb ⟨_, es1, ep + 1, t1, ⟨ho1, ⟨R.ex.1, R.ex.2.1, R.ex.2.2⟩, rfl, rows1, q3, nd1, ks1, ld1, by rw [len1]; omega, by rw [len1]; exact hfew⟩⟩ (fun z => absurd z hm) fun _ => pm)
end
end PL

set_option maxHeartbeats 4000000
namespace PL
open PySem PySem.Spec PyProof.Rows L2 PySem.Calls PySem.W
section
variable {P : Program} {w : World} {κ : Type} [DecidableEq κ] {D : KD P w κ} {A : Around} {E : Value → Shared → Prop} {s : Shared}
theorem StdG.keep {h h' : Heap} {a : Addr} {l : List (Addr × κ)} (R : StdG D h a l) (ha : ∀ o, h.get? a = some o → h'.get? a = some o) (hk : ∀ e ∈ l, D.is h' e.2 e.1) : StdG D h' a l := by
  obtain ⟨o, es, ep, t, R⟩ := R
  exact ⟨o, es, ep, t, { R with get := ha o R.get, keys := hk }⟩
theorem freshLed (w : World) : w.params.followText "set-order" = true ∨ (SetTable.fresh 0 0 (!w.params.followText "set-order")).led = true := by
  show _ ∨ (!w.params.followText "set-order") = true
  cases w.params.followText "set-order"
  · exact .inr rfl
  · exact .inl rfl
theorem stdG_fresh {h : Heap} {a : Addr} (g : h.get? a = some (sob w)) : StdG D h a [] :=
  ⟨_, #[], 0, _, { get := g, ex := ⟨rfl, rfl, rfl⟩, dat := rfl, rows := rfl, tab := ⟨List.Pairwise.nil, rfl, rfl, .inl rfl, fun x hx => (by cases hx), fun i h j hi => (by simp at hi)⟩, nd := List.nodup_nil, keys := fun e he => (by cases he), led := freshLed w, room := (by decide : 0 * 5 < 7 * 3), few := (by decide : 0 < 64) }⟩
/-- what the set holds behind the first i ones -/
structure HoldG (D : KD P w κ) (h : Heap) (S : Addr) (xs : List (Addr × κ)) (i : Nat) (l : List (Addr × κ)) : Prop where
  std : StdG D h S l
  sub : ∀ e ∈ l, e ∈ xs
  has : ∀ k, k ∈ l.map (·.2) ↔ k ∈ (xs.take i).map (·.2)
  len : l.length ≤ i
theorem loopG {I : Addr} {fp wr : List Addr} {G : Array GenState → Array GenState → Prop} {n : Nat} {Pv : Nat → Value → Prop} {St : Nat → Shared → Prop} {R : Result → Shared → Prop} (W : WalksS P w A.in1 I fp wr G n Pv St) (S : Addr) (hS0 : S ∉ fp) (xs : List (Addr × κ)) (hn : n = xs.length) (hfew : xs.length < 64)
    (hval : ∀ i v, Pv i v → ∃ e, xs[i]? = some e ∧ v = .ref e.1) (h0 : Heap) (hks : ∀ e ∈ xs, D.is h0 e.2 e.1) (hS1 : h0.get? S = none) (hw : ∀ b ∈ wr, h0.get? b = none) (hu : A.units + 16 < cLine) :
    ∀ (m i : Nat) (s : Shared) (l : List (Addr × κ)), n - i = m → i ≤ n → St i s → (∀ b o, h0.get? b = some o → s.heap.get? b = some o) → HoldG D s.heap S xs i l →
      (∀ s' l', Moved (S :: wr) G s s' → HoldG D s'.heap S xs n l' → (∀ b o, h0.get? b = some o → s'.heap.get? b = some o) → R (.ok (.ret .none)) s') →
      codeAny (model P w) A (.builtin "set.update.loop" ⟨[.ref S, .ref I], []⟩) R s := by
  have nw : S ∉ wr := fun h => hS0 (W.sub _ h)
  have up : ∀ b ∈ wr, b ∈ S :: wr := fun b h => List.mem_cons_of_mem _ h
  have old : ∀ {s s' : Shared}, Moved wr G s s' → (∀ b o, h0.get? b = some o → s.heap.get? b = some o) → ∀ b o, h0.get? b = some o → s'.heap.get? b = some o := fun hm k b o e =>
    hm.heap b o (fun z => nomatch (hw b z).symm.trans e) (k b o e)
  have isK : ∀ {h : Heap}, (∀ b o, h0.get? b = some o → h.get? b = some o) → ∀ e ∈ xs, D.is h e.2 e.1 := fun k e he => D.mv (hks e he) fun o => k _ o
  have carry : ∀ {i : Nat} {s s' : Shared} {l : List (Addr × κ)}, Moved wr G s s' → (∀ b o, h0.get? b = some o → s'.heap.get? b = some o) → HoldG D s.heap S xs i l → HoldG D s'.heap S xs i l := fun hm k r =>
    { r with std := r.std.keep (fun o ho => hm.heap S _ nw ho) fun e he => isK k e (r.sub e he) }
  intro m
  induction m with
  | zero =>
    intro i s l em hi hst hk hS fin
    obtain rfl : i = n := by omega
    refine codeAny_builtin F.entry_set_update_loop ?_
    rw [Around.under_plainId F.plain_set_update_loop _]
    show wpAny _ A.in1 (pyNext (.ref I) >>= _) _ _ s
    exact wpAny_bind (W.done s _ _ hst fun s' hm => by
      show wpAny _ A.in1 (ret Value.none) _ _ s'
      exact wpAny_pure (fin s' l (hm.mono up) (carry hm (old hm hk) hS) (old hm hk)))
  | succ m ih =>
    intro i s l em hi hst hk hS fin
    have lt : i < n := by omega
    refine codeAny_builtin F.entry_set_update_loop ?_
    rw [Around.under_plainId F.plain_set_update_loop _]
    show wpAny _ A.in1 (pyNext (.ref I) >>= _) _ _ s
    refine wpAny_bind (W.item i s _ _ lt hst fun v s' hP hst' hm => ?_)
    obtain ⟨e, he, rfl⟩ := hval i v hP
    have hk' := old hm hk
    have hx := isK hk' e (List.mem_of_getElem? he)
    have hS' := carry hm hk' hS
    show wpAny _ A.in1 (holding [Value.ref e.1] (setAdd S (.ref e.1)) >>= _) _ _ s'
    refine wpAny_bind (wpAny_holding ?_)
    unfold setAdd
    refine wpAny_holding (wpAny_bind (D.hsh (by simp; omega) hx ?_))
    refine addG (s := { s' with toks := s'.toks + D.draws e.2 }) hS'.std hx (by simp; omega) (by have := hS'.len; omega) fun b h' l' sb R' c1 c2 => ?_
    have kk : ∀ b o, h0.get? b = some o → h'.get? b = some o := fun b o z => (sb.2 b fun q => nomatch (q ▸ hS1).symm.trans z).trans (hk' b o z)
    have tk : (xs.take (i + 1)).map (·.2) = (xs.take i).map (·.2) ++ [e.2] := by rw [List.take_add_one, he, List.map_append]; rfl
    have next : HoldG D h' S xs (i + 1) l' := by
      by_cases c : e.2 ∈ l.map (·.2)
      · obtain rfl := c1 c
        refine ⟨R', hS'.sub, fun k => ?_, Nat.le_succ_of_le hS'.len⟩
        rw [tk, List.mem_append, List.mem_singleton, ← hS'.has k]
        exact ⟨.inl, fun z => z.elim id fun z => z ▸ c⟩
      · have pm := c2 c
        refine ⟨R', fun g hg => ?_, fun k => ?_, by rw [pm.length_eq]; exact Nat.succ_le_succ hS'.len⟩
        · rcases List.mem_cons.mp (pm.mem_iff.mp hg) with z | z
          · exact z ▸ List.mem_of_getElem? he
          · exact hS'.sub g z
        · rw [(pm.map (·.2)).mem_iff, List.map_cons, List.mem_cons, tk, List.mem_append, List.mem_singleton, ← hS'.has k]
          exact Or.comm
    refine wpAny_pure ⟨plainId_quiet F.plain_set_update_loop _, ih (i + 1) _ l' (by omega) lt (W.frame _ s' _ _ hst' (Nat.le_add_right _ _) fun b hbf o z => (sb.2 b fun q : b = S => hS0 (q ▸ hbf)).trans z) kk next fun s'' l'' hm2 hS2 k2 => ?_⟩
    exact fin s'' l'' (Moved.trans W.gtrans ((hm.mono up).then_heap (Nat.le_add_right _ _) fun b o nb z => (sb.2 b fun q : b = S => nb (q ▸ List.mem_cons_self)).trans z) hm2) hS2 k2
structure MadeG (D : KD P w κ) (xs : List (Addr × κ)) (s s' : Shared) : Prop where
  set : ∃ l, HoldG D s'.heap s.heap.objs.size xs xs.length l
  heap : ∀ b o, s.heap.get? b = some o → s'.heap.get? b = some o
  gens : s'.gens = s.gens
  drawn : s'.drawn = s.drawn
  os : s'.os = s.os
set_option maxHeartbeats 3200000 in
/-- set(xs) of a list of such keys -/
theorem setG_list {l : Addr} {its : Array Value} (xs : List (Addr × κ)) {Q : Value → Shared → Prop} (hh : A.handled = none) (hl : s.heap.IsList l its) (hi : its.toList = xs.map fun e => Value.ref e.1) (hks : ∀ e ∈ xs, D.is s.heap e.2 e.1) (hfew : xs.length < 64) (hu : A.units + 24 < cLine)
    (h : ∀ s', MadeG D xs s s' → Q (.ref s.heap.objs.size) s') : wpAny (model P w) A (call (.type "set") [.ref l]) Q E s := by
  have sz : its.size = xs.length := by rw [← Array.length_toList, hi, List.length_map]
  obtain ⟨c0, t0, mr0⟩ := F.called_set.mro
  have md0 := F.called_set.made
  have sb0 := F.called_set.sub
  refine wpAny_call (codeAny_of_tree ?_); show wpAny _ _ (callAny (.type "set") _) _ _ _
  refine wpAny_pure ⟨Code.quiet_builtin _ (by decide +kernel), codeAny_builtin F.entry_type_call ?_⟩; rw [Around.under_plain (weight_type_call_type "set" [.ref l] []) rfl]
  have nt0 := F.called_set.notType
  have cc0 := F.called_set.canCreate
  have tc0 := F.typeCall_set_1 (.ref l)
  repeat (any_goals (first | assumption | wp_step))
  refine codeAny_mono (code_set_led1 (.ref l) (E := E) (Q₁ := fun obj s₁ => obj = .ref s.heap.objs.size ∧ s₁ = { s with heap := s.heap.push (sob w) }) ⟨rfl, rfl⟩) fun r s₁ hr => ?_
  cases r with
  | error e => exact hr
  | ok fl =>
    cases fl with
    | ret obj =>
      obtain ⟨rfl, rfl⟩ := hr
      have g0 : (s.heap.push (sob w)).get? s.heap.objs.size = some (sob w) := Heap.get?_push_size _ rfl
      have ty0 : Shared.TypeIs { s with heap := s.heap.push (sob w) } (.ref s.heap.objs.size) "set" := ⟨_, g0, rfl⟩
      have li0 := F.called_set.init.lookup
      have bi0 := F.called_set.init.bind (.ref s.heap.objs.size)
      repeat (any_goals (first | assumption | wp_step))
      refine codeAny_mono (codeAny_call_builtin (R := wants (fun r s₂ => r = .none ∧ MadeG D xs s s₂) E) F.called_set.init.plain F.entry_set_init (check_set_init_1 ty0 ?_)) fun r₂ s₂ hr₂ => ?_
      · obtain ⟨ol, gl, cl, nl, dl⟩ := hl
        obtain ⟨ocls, odict, odata, oslots⟩ := ol
        simp only at cl dl
        subst cl; subst dl
        have gl' : (s.heap.push (sob w)).get? l = some { cls := .type "list", dict := odict, data := .seq its nl, slots := oslots } := Heap.get?_push_of_some _ gl
        have s1 := F.sub_list_set
        have s2 := F.sub_list_frozenset
        have s3 : (Value.type "list" == Value.type "dict") = false := by decide
        have il : (s.heap.push (sob w)).IsList l its := ⟨_, gl', rfl, nl, rfl⟩
        unfold Builtin.«set.__init__» noKeywords Builtin.Frozenset.updateFrom
        generalize hPI : pyIter = PI
        wp_walk
        subst hPI
        refine wpAny_pyIter_list il (wpAny_bind (wpAny_runValue ?_))
        have lt0 : l < s.heap.objs.size := Heap.lt_size gl
        have h3 : A.in1.in1.in1.handled = none := by simp [hh]
        have ne0 : l ≠ (s.heap.push (sob w)).objs.size := by rw [Heap.size_push]; exact Nat.ne_of_lt (Nat.lt_succ_of_lt lt0)
        have no0 : s.heap.objs.size ∉ [(s.heap.push (sob w)).objs.size, l] := by
          rw [Heap.size_push]
          intro z
          rcases List.mem_cons.mp z with z | z
          · exact absurd z (Nat.ne_of_lt (Nat.lt_succ_self _))
          · exact absurd (List.mem_singleton.mp z) (Nat.ne_of_gt lt0)
        have val0 : ∀ (i : Nat) (v : Value), its[i]? = some v → ∃ e, xs[i]? = some e ∧ v = .ref e.1 := fun i v hv => by
          have q : its.toList[i]? = some v := by rw [Array.getElem?_toList]; exact hv
          rw [hi, List.getElem?_map] at q
          obtain ⟨e, h1, h2⟩ := Option.map_eq_some_iff.mp q
          exact ⟨e, h1, h2.symm⟩
        have gone : ∀ b, s.heap.objs.size ≤ b → s.heap.get? b = none := fun b hb => by
          cases q : s.heap.get? b with
          | none => rfl
          | some o => exact absurd (Nat.lt_of_lt_of_le (Heap.lt_size q) hb) (Nat.lt_irrefl _)
        refine loopG (D := D) ((Walks.list h3 _ l ne0 its).toS) s.heap.objs.size no0 xs sz hfew val0 s.heap hks (gone _ (Nat.le_refl _)) (fun b hb => gone b (by
          rw [List.mem_singleton.mp hb, Heap.size_push]
          exact Nat.le_succ _)) (by simp; omega) (its.size - 0) 0 _ [] (by omega) (Nat.zero_le _) ⟨⟨_, Heap.get?_push_size _ rfl, rfl, rfl⟩, (il.push _)⟩ (fun b o e => Heap.get?_push_of_some _ (Heap.get?_push_of_some _ e)) ?st0 ?en0
        case st0 => exact ⟨stdG_fresh (Heap.get?_push_of_some _ g0), fun e he => (by cases he), fun k => by simp, Nat.le_refl _⟩
        case en0 =>
          intro s' l' hm hS kp
          exact wpAny_pure (wpAny_pure ⟨rfl, ⟨⟨l', by rw [← sz]; exact hS⟩, kp, hm.gens, hm.drawn, hm.os⟩⟩)
      · cases r₂ with
        | error e => exact hr₂
        | ok fl₂ =>
          cases fl₂ with
          | ret r =>
            obtain ⟨rfl, M⟩ := hr₂
            repeat (any_goals (first | assumption | wp_step))
            exact h _ M
          | _ => exact hr₂.elim
    | _ => exact hr.elim
end
/-! ### tuples of texts -/
section
variable {P : Program} {w : World}
theorem itemsS : ∀ {k : List Str} {vs : List Value}, ItemsAre (strKind P w) k vs → ∀ v ∈ vs, ∃ x t, v = Value.str x t
  | _, _, .nil, v, hv => by cases hv
  | _, _, .cons (v := u) h1 h2, v, hv => by
    rcases List.mem_cons.mp hv with e | hv
    · obtain ⟨t, e2⟩ := Value.isStrOf_shape h1
      exact ⟨_, t, e.trans e2⟩
    · exact itemsS h2 v hv
/-- the kind of tuples of texts -/
def kdTS (P : Program) (w : World) : KD P w (List Str) where
  is h k a := IsTupleKey (strKind P w) h k a
  hash k := tupleKeyHash (strKind P w) k
  draws k := k.length + 1
  mv := fun ⟨o, items, n, ho, r⟩ hk => ⟨o, items, n, hk o ho, r⟩
  noSet := fun ⟨o, items, n, ho, _, hd, _⟩ ho2 hd2 => by
    rw [ho] at ho2
    cases ho2
    rw [hd] at hd2
    cases hd2
  eqb := fun hu hx hy h => wpAny_eqBool_tuple (by omega) hx hy h
  hsh := fun hu hx h => wpAny_pyHash_tuple (by omega) hx h
  quiet := fun hx h => wpAny_eqIsQuiet_tuple hx h
  ofc := fun {A E s x b Q} hx h => by
    have hT := IsTupleKey.typeIs hx
    obtain ⟨o, items, n, ho, _, hd, hi⟩ := hx
    unfold ofAClassStatement
    refine wpAny_bind (wpAny_typeOf hT ?_)
    dsimp only
    have e : (("tuple" : String) == "tuple") = true := by decide
    simp only [e, if_true, Bool.not_true, Bool.false_eq_true, if_false]
    try refine wpAny_bind (wpAny_pure ?_)
    try simp only [Bool.not_true, Bool.false_eq_true, if_false]
    show wpAny _ _ (seqItems? (.ref b) >>= _) _ _ s
    refine wpAny_bind (wpAny_seqItems ho hd ?_)
    dsimp only
    refine wpAny_bind ?_
    show wpAny _ _ (forIn items _ _) _ _ s
    rw [← Array.forIn_toList]
    refine wpAny_forIn_list _ (fun rest r s1 => r.1 = none ∧ s1 = s ∧ ∀ v ∈ rest, ∃ x t, v = Value.str x t) _ ?_ ?_ _ _ ⟨rfl, rfl, itemsS hi⟩
    · rintro v rest r s1 ⟨e1, rfl, all⟩
      obtain ⟨x, t, rfl⟩ := all v List.mem_cons_self
      rw [show ofAClassStatement 7 (.str x t) = pure false from rfl]
      refine wpAny_bind (wpAny_pure ?_)
      simp only [Bool.false_eq_true, if_false]
      exact wpAny_pure ⟨rfl, rfl, fun u hu => all u (List.mem_cons_of_mem _ hu)⟩
    · rintro ⟨r1, r2⟩ s1 ⟨e1, rfl, _⟩
      simp only at e1
      subst e1
      exact wpAny_pure h
  hby := fun {A E s x b Q} hx h => by
    have hT := IsTupleKey.typeIs hx
    obtain ⟨o, items, n, ho, _, hd, hi⟩ := hx
    unfold hashByValue
    refine wpAny_bind (wpAny_specialOf hT F.slot_tuple_hash.lookup ?_)
    show wpAny _ _ (seqItems? (.ref b) >>= _) _ _ s
    refine wpAny_bind (wpAny_seqItems ho hd (wpAny_bind ?_))
    show wpAny _ _ (forIn items _ _) _ _ s
    rw [← Array.forIn_toList]
    have all := itemsS hi
    clear hi hd
    generalize items.toList = il at all ⊢
    cases il with
    | nil =>
      rw [List.forIn_nil]
      exact wpAny_pure (wpAny_pure (h true))
    | cons v rest =>
      obtain ⟨x, t, rfl⟩ := all v List.mem_cons_self
      rw [List.forIn_cons, show hashByValue 7 (.str x t) = pure false from by first | rfl | (unfold hashByValue; rfl) | simp [hashByValue]]
      exact wpAny_pure (wpAny_pure (h false))
end
end PL

set_option maxHeartbeats 4000000
namespace PL
open PySem PySem.Spec PyProof.Rows L2
/-! ### len(set(xs)) of tuples of texts -/
def ddL {α : Type} [DecidableEq α] : List α → List α
  | [] => []
  | x :: r => if x ∈ r then ddL r else x :: ddL r
theorem mem_ddL {α : Type} [DecidableEq α] {y : α} : ∀ {l : List α}, y ∈ ddL l ↔ y ∈ l
  | [] => Iff.rfl
  | x :: r => by
    have ih := mem_ddL (y := y) (l := r)
    unfold ddL
    split
    · rw [ih, List.mem_cons]
      rename_i hx
      exact ⟨.inr, fun h => h.elim (fun e => e ▸ hx) id⟩
    · rw [List.mem_cons, List.mem_cons, ih]
theorem nd_ddL {α : Type} [DecidableEq α] : ∀ l : List α, (ddL l).Nodup
  | [] => List.nodup_nil
  | x :: r => by
    have ih := nd_ddL r
    unfold ddL
    split
    · exact ih
    · rename_i hx
      exact List.nodup_cons.mpr ⟨fun h => hx (mem_ddL.mp h), ih⟩
theorem ddL_perm {α : Type} [DecidableEq α] {l m : List α} (h1 : l.Nodup) (h2 : ∀ x, x ∈ l ↔ x ∈ m) : l.Perm (ddL m) := nodup_perm h1 (nd_ddL m) fun x => (h2 x).trans mem_ddL.symm
theorem ddL_len {α : Type} [DecidableEq α] {l : List α} (h : l.Nodup) : (ddL l).length = l.length := (ddL_perm h fun _ => Iff.rfl).length_eq.symm
theorem ddL_le {α : Type} [DecidableEq α] : ∀ l : List α, (ddL l).length ≤ l.length
  | [] => Nat.le_refl _
  | x :: r => by
    have ih := ddL_le r
    unfold ddL
    split
    · rw [List.length_cons]
      omega
    · rw [List.length_cons, List.length_cons]
      omega
theorem ddL_lt {α : Type} [DecidableEq α] {l : List α} (h : ¬ l.Nodup) : (ddL l).length < l.length := by
  rcases Nat.lt_or_ge (ddL l).length l.length with q | q
  · exact q
  · exact absurd ((sub_perm (nd_ddL l) (fun x hx => mem_ddL.mp hx) q).nodup_iff.mp (nd_ddL l)) h
section
variable {X : Cx} {Γ : Ga} {a : Expr} {pos p p2 q : Pos}
theorem dp_lots {K : PySem.W.Frag} {H : Hp} : ∀ {xs : List (List Str)} {vs : List V}, DpAll K H vs (xs.map eL) → ∃ ys : List (Addr × List Str), vs = ys.map (fun e => V.ref e.1) ∧ ys.map (·.2) = xs ∧ ∀ e ∈ ys, SqT K H e.1 (e.2.map V.str)
  | [], _, .nil => ⟨[], rfl, rfl, fun _ h => nomatch h⟩
  | x :: xs, _, .cons h t => by
    obtain ⟨ys, e1, e2, e3⟩ := dp_lots t
    obtain ⟨b, us, rfl, h2, h3⟩ := dp_tup h
    rw [dps_strs_inv h3] at h2
    refine ⟨(b, x) :: ys, by rw [e1]; rfl, by rw [List.map_cons, e2], fun e he => ?_⟩
    rcases List.mem_cons.mp he with z | z
    · rw [z]
      exact h2
    · exact e3 e z
theorem items_str {P : Program} {w : World} : ∀ {k : List Str} {us : List Value}, Vals (k.map V.str) us → ItemsAre (strKind P w) k us
  | [], _, .nil => .nil
  | x :: k, _, .cons r t => by
    obtain ⟨tk, rfl⟩ := r
    exact .cons (strKind_is P w x tk) (items_str t)
theorem refsV : ∀ {ys : List (Addr × List Str)} {us : List Value}, Vals (ys.map fun e => V.ref e.1) us → us = ys.map fun e => Value.ref e.1
  | [], _, .nil => rfl
  | e :: ys, _, .cons r t => by
    rw [refsV t, show _ = Value.ref e.1 from r]
    rfl
theorem go_lenSetT {xs : List (List Str)} (hu : UOk X) (hc : X.calm = true) (hm : X.mg "len" = none) (hm2 : X.mg "set" = none) (ha : Go X Γ a (.list (xs.map eL))) (hl : xs.length < 64) (hg : Gl X "len" := by rfl) (hg2 : Gl X "set" := by rfl)
    (na : starEach [a] X.env = (false, eval a X.env) :: starEach [] X.env := by rfl) : Go X Γ (.Call (.Name "len" p) [.Call (.Name "set" p2) [a] [] q] [] pos) (.int ((ddL xs).length : Nat)) := .mk fun σ B H Fs E Q q0 => by
  have step : wpE X a σ H fun v H1 => ∃ B1 l vs, Nw B H B1 H1 ∧ v = .ref l ∧ SqL X.K H1 l vs ∧ DpAll X.K H1 vs (xs.map eL) := ha σ B H Fs E _ fun v B1 H1 n1 r1 => by
    obtain ⟨l, us, rfl, h3, h4⟩ := dp_lst r1
    exact ⟨B1, l, us, n1, rfl, n1.bh.sl h3, dpsUp n1.bh h4⟩
  intro pins s I
  refine Call_ (ld_blt I hg hm PySem.boot_len ?_)
  refine PyProof.Rows.callWith_builtin1 (PyProof.Rows.args_cons ?_ rfl) rfl rfl
  refine Call_ (ld_blt I hg2 hm2 PyProof.Rows.boot_set ?_)
  refine PyProof.Rows.callWith_type1 (PyProof.Rows.args_cons (thn (step pins s I) fun v s1 ⟨x, H1, I1, r1, B1, l, vs, n1, hx, hq, hd⟩ => PyProof.Rows.args_nil ?_) na) na rfl
  subst hx
  cases r1
  obtain ⟨ys, rfl, e2, e3⟩ := dp_lots hd
  have yl : ys.length = xs.length := by rw [← e2, List.length_map]
  obtain ⟨its, r, pl, _⟩ := I1.list hq
  have hks : ∀ e ∈ ys, (kdTS X.prog X.w).is s1.heap e.2 e.1 := fun e he => by
    obtain ⟨us, r2, ⟨o, ho, hcl, n, hdt⟩, _⟩ := I1.tuple (e3 e he)
    exact ⟨o, us.toArray, n, ho, hcl, hdt, by simpa using items_str r2⟩
  have u65 := hu.u65
  refine setG_list (D := kdTS X.prog X.w) ys (I1.ok.hd hc) pl.isList (by simpa using refsV r) hks (by omega) (by omega) fun s2 M => PyProof.Rows.args_nil ?_
  have I2 : Inv X pins σ H1 s2 := by
    obtain ⟨h', g', d', t', o'⟩ := s2
    have c1 : g' = s1.gens := M.gens
    have c2 : d' = s1.drawn := M.drawn
    have c3 : o' = s1.os := M.os
    subst c1 c2 c3
    exact I1.kept M.heap
  obtain ⟨m, Hm⟩ := M.set
  obtain ⟨o, es, ep, t, T⟩ := Hm.std
  have hz : es.size = (ddL xs).length := by
    rw [T.size, ← List.length_map (f := fun e : Addr × List Str => e.2)]
    refine (ddL_perm T.nd fun k => ?_).length_eq
    have := Hm.has k
    rw [List.take_length, e2] at this
    exact this
  have hle := ddL_le xs
  refine PySem.call_len_set T.get T.ex T.dat T.fit (by rw [hz]; omega) ⟨.int ((ddL xs).length : Nat), H1, I2.tok _, ⟨_, by rw [hz]⟩, q0 _ B1 H1 n1 (Dp.int _)⟩
end
end PL
namespace PL
open PySem PySem.Spec PyProof.Rows L2 PySem.W
/-! ### sorted(xs) of tuples of texts -/
theorem alike_strs : ∀ a b : List Str, alikeAll (a.map PyData.str) (b.map PyData.str) = true
  | [], _ => by simp [alikeAll]
  | _ :: _, [] => by simp [alikeAll]
  | x :: a, y :: b => by
    show alikeAll (PyData.str x :: a.map PyData.str) (PyData.str y :: b.map PyData.str) = true
    rw [alikeAll, alike_strs a b]
    rfl
theorem alike_L (a b : List Str) : alike (eL a) (eL b) = true := by
  unfold eL
  rw [alike]
  exact alike_strs a b
theorem depth_L (a : List Str) : (eL a).depth ≤ 60 := by
  have h : ∀ l : List Str, PyData.depthAll (l.map PyData.str) = 0 := fun l => by
    induction l with
    | nil => rfl
    | cons x l ih => rw [List.map_cons, PyData.depthAll, ih]; rfl
  unfold eL
  rw [PyData.depth, h]
  decide
def leL (a b : List Str) : Bool := dataLe false id (eL a) (eL b)
def sortL (xs : List (List Str)) : List (List Str) := xs.mergeSort leL
theorem srt_L (xs : List (List Str)) : srt (xs.map eL) = (sortL xs).map eL := merge_map eL (le' := leL) (fun _ _ => rfl) xs
theorem sortOk_L {xs : List (List Str)} (h : xs.length ≤ 1000) (hn : ∀ l ∈ xs, l ≠ []) : SortOk (xs.map eL) where
  al := AllAlike.of fun b b' => alike_L b b'
  so := .inl fun d hd => by
    obtain ⟨l, hl, rfl⟩ := List.mem_map.mp hd
    cases l with
    | nil => exact absurd rfl (hn _ hl)
    | cons x r => exact ⟨_, _, rfl⟩
  dp := fun d hd => by
    obtain ⟨x, _, rfl⟩ := List.mem_map.mp hd
    exact depth_L x
  ln := by
    rw [List.length_map]
    exact leZ (by omega)
theorem goN_sortL {X : Cx} {Γ : Ga} {a : Expr} {p pos : Pos} {xs : List (List Str)} (hu : UOk X) (hm : X.mg "sorted" = none) (ha : Go X Γ a (.list (xs.map eL))) (hl : xs.length ≤ 1000) (hn : ∀ l ∈ xs, l ≠ []) (hg : Gl X "sorted" := by rfl) (he : starEach [a] X.env = (false, eval a X.env) :: starEach [] X.env := by rfl) :
    GoN X Γ (.Call (.Name "sorted" p) [a] [] pos) ((sortL xs).map eL) := by
  rw [← srt_L]
  exact goN_sortD hu hm ha rfl (sortOk_L hl hn) hg he
theorem sortL_perm (xs : List (List Str)) : (sortL xs).Perm xs := List.mergeSort_perm _ _
end PL

set_option maxHeartbeats 4000000
namespace PL
open PySem PySem.Spec PyProof.Rows L2
/-- what isinstance tells of an error of the class x: it stands under y and under ValueError -/
structure IsE0 (K : PySem.W.Frag) (mg : Str → Option Value) (x y : Str) : Prop where
  ex : ∃ C CF, ClsAt K x C ∧ ExcC K C ∧ mg y = some (.ref CF) ∧ PySem.W.kitOne K (.ref C) (.ref CF) = some true ∧ PySem.W.kitOne K (.ref C) (.type "ValueError") = some true ∧ mg "ValueError" = none
section
variable {X : Cx} {Γ : Ga} {a : Expr} {ds : List D} {pos p p2 : Pos} {A C : Addr} {oe : Obj} {pn : List (Addr × Obj)} {x y : Str}
theorem go_isEF (T : IsE0 X.K X.mg x y) (hC : ClsAt X.K x C) (hz : Zc (.ref C) none oe) (hf : ∃ vs, oe.data = .fields vs) (he : GoP (X.suite A ((A, oe) :: pn)) Γ a (errI A)) (hmi : X.mg "isinstance" = none) (hgi : Gl X "isinstance" := by rfl) (hg : Gl X y := by rfl) (hd : (y == ("__debug__" : Str)) = false := by decide)
    (he1 : starEach [a, .Name y p2] X.env = (false, eval a X.env) :: starEach [.Name y p2] X.env := by rfl) (he2 : starEach [.Name y p2] X.env = (false, eval (.Name y p2) X.env) :: starEach [] X.env := by rfl) :
    Go (X.suite A ((A, oe) :: pn)) Γ (.Call (.Name "isinstance" p) [a, .Name y p2] [] pos) (.bool true) := by
  obtain ⟨C', CF, h1, h2, h3, h4, h5, h6⟩ := T.ex
  cases hC.eq h1
  exact go_isE0 (v := .ref CF) h2 hz hf h4 (fun u r => r) he (go_glob (X := X.suite A ((A, oe) :: pn)) h3 hg hd) hmi hgi he1 he2
theorem go_isEV (T : IsE0 X.K X.mg x y) (hC : ClsAt X.K x C) (hz : Zc (.ref C) none oe) (hf : ∃ vs, oe.data = .fields vs) (he : GoP (X.suite A ((A, oe) :: pn)) Γ a (errI A)) (hmi : X.mg "isinstance" = none) (hgi : Gl X "isinstance" := by rfl) (hg : Gl X "ValueError" := by rfl)
    (he1 : starEach [a, .Name "ValueError" p2] X.env = (false, eval a X.env) :: starEach [.Name "ValueError" p2] X.env := by rfl) (he2 : starEach [.Name "ValueError" p2] X.env = (false, eval (.Name "ValueError" p2) X.env) :: starEach [] X.env := by rfl) :
    Go (X.suite A ((A, oe) :: pn)) Γ (.Call (.Name "isinstance" p) [a, .Name "ValueError" p2] [] pos) (.bool true) := by
  obtain ⟨C', CF, h1, h2, h3, h4, h5, h6⟩ := T.ex
  cases hC.eq h1
  exact go_isE0 (v := .ty "ValueError") h2 hz hf h5 (fun u r => r) he (go_ty (X := X.suite A ((A, oe) :: pn)) h6 (by decide +kernel) hg (by decide) (by decide)) hmi hgi he1 he2
/-- xs[::-1] -/
theorem goN_rev {e : Expr} {k : Nat} {p1 p2 p3 : Pos} (he : Go X Γ e (.list ds)) : GoN X Γ (.Subscript e (.Slice none none (some (.UnaryOp .USub (.Constant (.int 1) k p1) p2)) p3) pos) ds.reverse := .mk fun σ B H Fs E Q q =>
  toE (pe_revL sE) (he σ B H Fs E _ fun v B2 H2 n r => by
    obtain ⟨l, vs, rfl, h2, h3⟩ := dp_lst r
    exact ⟨l, vs, rfl, n.bh.sl h2, fun p hp => q p _ B2 _ (n.trans (.lay n.bh hp)) (n.hh.none hp) (n.bh.none hp) upd_same (dps_rev h3)⟩)
end
end PL
namespace PL
open PySem PySem.Spec PyProof.Rows L2
section
variable {X : Cx} {Wx : WX} {Γ : Ga} {e : Expr} {es : List Expr} {r : Er} {pos : Pos}
/-- the first one raises -/
theorem goea_hd (he : GoE X Wx Γ e r) (hs : starEach (e :: es) X.env = (false, eval e X.env) :: starEach es X.env := by rfl) : GoEA X Wx Γ (e :: es) r := ⟨fun σ B H Fs E hw Q => toA (pa_cons sE sA hs) (he.run σ B H Fs E hw _)⟩
/-- a list of which a member raises -/
theorem goe_lst (h : GoEA X Wx Γ es r) : GoE X Wx Γ (.List es pos) r := ⟨fun σ B H Fs E hw Q => toE (pe_lst sA) (h.run σ B H Fs E hw _)⟩
end
end PL

set_option maxHeartbeats 1000000
/-! standings and their words: the plain law -/
namespace PL
open PySem PySem.Spec PyProof.Rows L2 RZ
structure Sg where
  m : Str
  on : List Str
  r : Option Str
  p : Int
  l : Int
  s : Int
def eG (s : Sg) : D := .tuple [.str s.m, eL s.on, eO s.r, .int s.p, .int s.l, .int s.s]
def stAt (st : List (Int × Str)) (p : Int) : Int × Str := st.getD p.toNat (0, ⟨#[]⟩)
def rowB (b : Bk) (r : Option Str) (p l : Int) : Bool := match r with
  | none => decide (p = 0) && decide (l = 0)
  | some r => match b.rows.find? fun w => decide (w.n = r) with
    | none => false
    | some w => (decide (0 ≤ p) && decide (p < (w.st.length : Int))) && (decide (1 ≤ l) && decide (l ≤ (stAt w.st p).1))
def mostZ (b : Bk) : Int := match b.quiet with
  | none => 1
  | some q => q
def isSt (b : Bk) (s : Sg) : Bool := (decide (s.m ∈ b.mn) && (isLotB s.on && inB s.on b.holds)) && (rowB b s.r s.p s.l && (decide (0 ≤ s.s) && decide (s.s < mostZ b)))
theorem isSt_lot {b : Bk} {s : Sg} (h : isSt b s = true) : lotOfB s.on b.holds = true := by
  unfold isSt at h
  rw [Bool.and_eq_true, Bool.and_eq_true] at h
  exact h.1.2
theorem isSt_iff {b : Bk} {s : Sg} : isSt b s = true ↔ s.m ∈ b.mn ∧ lotOfB s.on b.holds = true ∧ rowB b s.r s.p s.l = true ∧ 0 ≤ s.s ∧ s.s < mostZ b := by
  unfold isSt lotOfB
  simp only [Bool.and_eq_true, decide_eq_true_iff]
  constructor
  · rintro ⟨⟨h1, h2⟩, h3, h4, h5⟩
    exact ⟨h1, h2, h3, h4, h5⟩
  · rintro ⟨h1, h2, h3, h4, h5⟩
    exact ⟨⟨h1, h2⟩, h3, h4, h5⟩
theorem row_some {b : Bk} {r : Str} {p l : Int} (h : rowB b (some r) p l = true) : ∃ w ∈ b.rows, w.n = r ∧ 0 ≤ p ∧ p < (w.st.length : Int) ∧ 1 ≤ l ∧ l ≤ (stAt w.st p).1 := by
  unfold rowB at h
  dsimp only at h
  cases e : b.rows.find? fun w => decide (w.n = r) with
  | none => rw [e] at h; cases h
  | some w =>
    rw [e] at h
    dsimp only at h
    simp only [Bool.and_eq_true, decide_eq_true_iff] at h
    exact ⟨w, List.mem_of_find?_eq_some e, of_decide_eq_true (List.find?_some (p := fun w : Rw => decide (w.n = r)) e), h.1.1, h.1.2, h.2.1, h.2.2⟩
theorem find_row {b : Bk} (h : BkOk b) {w : Rw} (hw : w ∈ b.rows) : (b.rows.find? fun v => decide (v.n = w.n)) = some w := by
  cases e : b.rows.find? fun v => decide (v.n = w.n) with
  | none => exact absurd rfl (of_decide_eq_false (Bool.eq_false_iff.mpr (List.find?_eq_none.mp e w hw)))
  | some v =>
    have h1 := List.mem_of_find?_eq_some e
    have h2 : v.n = w.n := of_decide_eq_true (List.find?_some (p := fun v : Rw => decide (v.n = w.n)) e)
    obtain ⟨i, hi, rfl⟩ := List.mem_iff_getElem.mp h1
    obtain ⟨j, hj, rfl⟩ := List.mem_iff_getElem.mp hw
    have h3 : b.rn[i]'(by rw [List.length_map]; exact hi) = b.rn[j]'(by rw [List.length_map]; exact hj) := by rw [List.getElem_map, List.getElem_map]; exact h2
    have := (List.getElem_inj h.r.nd).mp h3
    subst this
    rfl
theorem row_mk {b : Bk} (h : BkOk b) {w : Rw} (hw : w ∈ b.rows) {p l : Int} (h1 : 0 ≤ p ∧ p < (w.st.length : Int)) (h2 : 1 ≤ l ∧ l ≤ (stAt w.st p).1) : rowB b (some w.n) p l = true := by
  unfold rowB
  dsimp only
  rw [find_row h hw]
  dsimp only
  simp only [Bool.and_eq_true, decide_eq_true_iff]
  exact ⟨h1, h2⟩
theorem st_mem {st : List (Int × Str)} {p : Int} (h : 0 ≤ p ∧ p < (st.length : Int)) : stAt st p ∈ st := by
  unfold stAt
  rw [List.getD_eq_getElem?_getD, List.getElem?_eq_getElem (by omega)]
  exact List.getElem_mem _
theorem st_at {st : List (Int × Str)} {p : Int} (h : 0 ≤ p ∧ p < (st.length : Int)) : atI (st.map eSt) p = some (eSt (stAt st p)) := by
  refine atI_get' (k := p.toNat) ?_ (by omega)
  unfold stAt
  rw [List.getElem?_map, List.getD_eq_getElem?_getD, List.getElem?_eq_getElem (by omega)]
  rfl
theorem row_idx {b : Bk} {w : Rw} (hw : w ∈ b.rows) : w.n ∈ b.rn := List.mem_map.mpr ⟨w, hw, rfl⟩
/-- the number of a row -/
def rowN (b : Bk) : Option Str → Int
  | none => 0
  | some r => 512 * (1 + (b.rn.idxOf r : Int))
def swN (b : Bk) (s : Sg) : Int := (b.mn.idxOf s.m : Int) + 8 * (bitsN b.holds s.on : Int) + rowN b s.r + 2048 * s.p + 8192 * s.l + 131072 * s.s
theorem holds_sorted {b : Bk} (h : BkL b) : sortS b.holds = b.holds := sortS_self (h.hr.imp fun h => (ltS_iff.mp h).1)
/-- what a word tells -/
def wdS (b : Bk) (w : Int) : Sg := ⟨nth b.mn (w % 8).toNat, lotN b.holds (w / 8 % 64), if w / 512 % 4 = 0 then none else some (nth b.rn (w / 512 % 4 - 1).toNat), w / 2048 % 4, w / 8192 % 16, w / 131072⟩
def wdOk (b : Bk) (w : Int) : Bool := (decide (w % 8 < (b.mn.length : Int)) && decide (w / 512 % 4 < (b.rn.length : Int) + 1)) && (isSt b (wdS b w) && decide (swN b (wdS b w) = w))
def wdD (b : Bk) (w : Int) : D := if wdOk b w = true then eG (wdS b w) else .none
theorem wd_of {b : Bk} {w : Int} : wdD b w = .none ∨ ∃ s, wdD b w = eG s ∧ isSt b s = true ∧ swN b s = w := by
  unfold wdD
  by_cases c : wdOk b w = true
  · rw [if_pos c]
    unfold wdOk at c
    rw [Bool.and_eq_true, Bool.and_eq_true (isSt b _), decide_eq_true_iff] at c
    exact .inr ⟨_, rfl, c.2.1, c.2.2⟩
  · rw [if_neg c]
    exact .inl rfl
theorem row_num {b : Bk} (h : BkOk b) {s : Sg} (hs : isSt b s = true) : ∃ k : Nat, k ≤ b.rn.length ∧ rowN b s.r = 512 * (k : Int) ∧ (if (k : Int) = 0 then none else some (nth b.rn ((k : Int) - 1).toNat)) = s.r := by
  obtain ⟨_, _, h3, _⟩ := isSt_iff.mp hs
  cases hr : s.r with
  | none => exact ⟨0, Nat.zero_le _, rfl, rfl⟩
  | some r =>
    rw [hr] at h3
    obtain ⟨w, hw, rfl, _⟩ := row_some h3
    have hk := List.idxOf_lt_length_of_mem (row_idx hw)
    refine ⟨1 + b.rn.idxOf w.n, (Nat.add_comm 1 _).symm ▸ hk, by show 512 * (1 + (b.rn.idxOf w.n : Int)) = _; rw [Int.natCast_add]; rfl, ?_⟩
    rw [if_neg (by omega), show (((1 + b.rn.idxOf w.n : Nat) : Int) - 1).toNat = b.rn.idxOf w.n by omega]
    unfold nth
    rw [List.getD_eq_getElem?_getD, List.getElem?_eq_getElem hk, List.getElem_idxOf hk]
    rfl
theorem row_pl {b : Bk} (h : BkOk b) {s : Sg} (hs : isSt b s = true) : (0 ≤ s.p ∧ s.p < 4) ∧ (0 ≤ s.l ∧ s.l < 16) := by
  obtain ⟨_, _, h3, _⟩ := isSt_iff.mp hs
  cases hr : s.r with
  | none =>
    rw [hr] at h3
    have h3 : (decide (s.p = 0) && decide (s.l = 0)) = true := h3
    rw [Bool.and_eq_true, decide_eq_true_iff, decide_eq_true_iff] at h3
    omega
  | some r =>
    rw [hr] at h3
    obtain ⟨w, hw, rfl, h4, h5, h6, h7⟩ := row_some h3
    have h8 := (h.rS w hw).2.1
    have h9 := ((h.rS w hw).2.2 _ (st_mem ⟨h4, h5⟩)).2.1
    omega
/-- a word of a standing tells it -/
theorem wd_back {b : Bk} (h : BkOk b) {s : Sg} (hs : isSt b s = true) : wdD b (swN b s) = eG s := by
  obtain ⟨h1, h2, h3, h4, h5⟩ := isSt_iff.mp hs
  obtain ⟨k, k1, k2, k3⟩ := row_num h hs
  obtain ⟨⟨p1, p2⟩, l1, l2⟩ := row_pl h hs
  have hm := List.idxOf_lt_length_of_mem h1
  have m5 := h.m.hi
  have r3 := h.r.hi
  have hb : bitsN b.holds s.on < 64 := by
    have q1 := bitsN_lt b.holds s.on
    have q2 : 2 ^ b.holds.length ≤ 2 ^ 6 := Nat.pow_le_pow_right (by decide) h.h.hi
    omega
  have e : swN b s = (b.mn.idxOf s.m : Int) + 8 * (bitsN b.holds s.on : Int) + 512 * (k : Int) + 2048 * s.p + 8192 * s.l + 131072 * s.s := by
    unfold swN
    rw [k2]
  have e1 : swN b s % 8 = (b.mn.idxOf s.m : Int) := by omega
  have e2 : swN b s / 8 % 64 = (bitsN b.holds s.on : Int) := by omega
  have e3 : swN b s / 512 % 4 = (k : Int) := by omega
  have e4 : swN b s / 2048 % 4 = s.p := by omega
  have e5 : swN b s / 8192 % 16 = s.l := by omega
  have e6 : swN b s / 131072 = s.s := by omega
  have hw : wdS b (swN b s) = s := by
    unfold wdS
    rw [e1, e2, e3, e4, e5, e6, lotN_bits h.h h2 _ fun j hj => (bit_cast _ _).trans (bits_bit hj), k3, Int.toNat_natCast]
    have : nth b.mn (b.mn.idxOf s.m) = s.m := by
      unfold nth
      rw [List.getD_eq_getElem?_getD, List.getElem?_eq_getElem hm, List.getElem_idxOf hm]
      rfl
    rw [this]
  unfold wdD wdOk
  rw [hw, hs, e1, e3, decide_eq_true (show (b.mn.idxOf s.m : Int) < (b.mn.length : Int) by omega), decide_eq_true (show (k : Int) < (b.rn.length : Int) + 1 by omega), decide_eq_true rfl]
  rfl
theorem most_pos {b : Bk} (h : BkOk b) : 1 ≤ mostZ b ∧ mostZ b ≤ 30 := by
  unfold mostZ
  cases e : b.quiet with
  | none => exact ⟨by decide, by decide⟩
  | some q => exact h.q q e
theorem st_oks {b : Bk} (h : BkOk b) {s : Sg} (hs : isSt b s = true) : Shp 3 (eG s) := by
  obtain ⟨h1, h2, h3, h4, h5⟩ := isSt_iff.mp hs
  refine Shp.tup fun d hd => ?_
  simp only [List.mem_cons, List.not_mem_nil, or_false] at hd
  rcases hd with rfl | rfl | rfl | rfl | rfl | rfl
  · exact shp_nm (h.m.nm _ h1) 2
  · exact (shp_L fun x hx => nm_ok (lot_nm (lotOf h2).1 x hx)).up (by decide)
  · cases hr : s.r with
    | none => exact Shp.non 2
    | some r =>
      rw [hr] at h3
      obtain ⟨w, hw, rfl, _⟩ := row_some h3
      exact shp_nm (h.r.nm _ (row_idx hw)) 2
  · exact Shp.int _ 2
  · exact Shp.int _ 2
  · exact Shp.int _ 2
/-! ### effects -/
/-- of the holds that are on, some turned on, some off -/
def appL (on : List Str) (t : List Str × List Str) : List Str := (on.filter fun x => !decide (x ∈ t.2) && !decide (x ∈ t.1)) ++ t.1
/-- holds without a double -/
structure HsOk (b : Bk) (l : List Str) : Prop where
  nd : l.Nodup
  sub : ∀ x ∈ l, x ∈ b.holds
theorem hs_app {b : Bk} {l : List Str} {t : List Str × List Str} (h : HsOk b l) (h1 : HsOk b t.1) : HsOk b (appL l t) where
  nd := by
    unfold appL
    rw [List.nodup_append]
    refine ⟨h.nd.sublist List.filter_sublist, h1.nd, fun x hx y hy e => ?_⟩
    subst e
    have := (List.mem_filter.mp hx).2
    rw [Bool.and_eq_true, Bool.not_eq_true', Bool.not_eq_true', decide_eq_false_iff_not, decide_eq_false_iff_not] at this
    exact this.2 hy
  sub := fun x hx => by
    unfold appL at hx
    rcases List.mem_append.mp hx with hx | hx
    · exact h.sub x (List.mem_filter.mp hx).1
    · exact h1.sub x hx
theorem hs_len {b : Bk} {l : List Str} (hb : BkOk b) (h : HsOk b l) : l.length ≤ 6 := Nat.le_trans (nodup_len h.nd h.sub) hb.h.hi
theorem hs_lot {b : Bk} {l : List Str} (hb : BkOk b) (h : HsOk b l) : lotOfB (sortS l) b.holds = true := pick_lot hb.h.nm h.nd h.sub
theorem lot_hs {b : Bk} {l : List Str} (h : lotOfB l b.holds = true) : HsOk b l := ⟨lot_nd (lotOf h).1, (lotOf h).2⟩
theorem turn_hs {b : Bk} {on off : List Str} (h : turnB on off b.holds = true) : HsOk b on := lot_hs (turn_of h).1
theorem hs_nil (b : Bk) : HsOk b [] := ⟨List.nodup_nil, fun _ h => nomatch h⟩
section
variable {X : Cx} {Γ : Ga} {a b : Expr} {pos : Pos}
theorem goP_ixEx {α : Type} {p : α → Prop} {f : α → List D} {g : α → D} {i : Int} (ha : GoP X Γ a (exP p fun x => datP (.tuple (f x)))) (hb : Go X Γ b (.int i)) (hi : ∀ x, p x → atI (f x) i = some (g x)) (hs : PlainIx b := by exact fun _ _ => rfl) : GoP X Γ (.Subscript a b pos) (exP p fun x => datP (g x)) := .mk fun σ B H Fs E Q q =>
  toE (pe_ix ix_tup sE sE hs) (ha σ B H Fs E _ fun v B1 H1 n1 ⟨x, hx, r1⟩ => hb σ B1 H1 Fs (E.nw n1) _ fun w B2 H2 n2 r2 => by
    obtain ⟨p, vs, e1, e2, e3⟩ := dp_tup (dpUp n2.bb r1)
    obtain ⟨u, e4, e5⟩ := dps_atI e3 (hi x hx)
    exact ⟨p, vs, i, u, e1, dp_int r2, n2.bh.st e2, e4, q u B2 H2 (n1.trans n2) ⟨x, hx, e5⟩⟩)
end
def eT (t : List Str × List Str) : D := .tuple [eL t.1, eL t.2]
def rowsE (b : Bk) (t : List Str × List Str) (to : Option Str) : List (List Str × List Str) := t :: (match to with | none => [] | some x => (b.modes.filter fun m => decide (m.n = x)).map fun m => (m.on, m.off))
def effR (b : Bk) (on : List Str) (t : List Str × List Str) (to : Option Str) : List Str := (rowsE b t to).foldl appL on
theorem fold_hs {b : Bk} : ∀ (ts : List (List Str × List Str)) (on : List Str), HsOk b on → (∀ t ∈ ts, HsOk b t.1) → HsOk b (ts.foldl appL on)
  | [], on, h, _ => h
  | t :: r, on, h, ht => fold_hs r _ (hs_app h (ht t List.mem_cons_self)) fun x hx => ht x (List.mem_cons_of_mem _ hx)
theorem rowsE_hs {b : Bk} (h : BkOk b) {t : List Str × List Str} (ht : HsOk b t.1) (to : Option Str) : ∀ x ∈ rowsE b t to, HsOk b x.1 := fun x hx => by
  rcases List.mem_cons.mp hx with rfl | hx
  · exact ht
  · cases to with
    | none => cases hx
    | some y =>
      obtain ⟨m, hm, rfl⟩ := List.mem_map.mp hx
      exact turn_hs (h.mT m (List.mem_filter.mp hm).1)
theorem rowsE_len {b : Bk} (h : BkOk b) (t : List Str × List Str) (to : Option Str) : (rowsE b t to).length ≤ 6 := by
  have h5 := h.m.hi
  rw [List.length_map] at h5
  cases to with
  | none => exact Nat.le_of_ble_eq_true rfl
  | some y =>
    have := List.length_filter_le (fun m : Md => decide (m.n = y)) b.modes
    show (((b.modes.filter fun m => decide (m.n = y)).map fun m => (m.on, m.off)).length) + 1 ≤ 6
    rw [List.length_map]
    omega
theorem eff_hs {b : Bk} (h : BkOk b) {on : List Str} (ho : HsOk b on) {t : List Str × List Str} (ht : HsOk b t.1) (to : Option Str) : HsOk b (effR b on t to) := fold_hs _ _ ho (rowsE_hs h ht to)
theorem filter_one {α : Type} (f : α → Str) : ∀ {l : List α}, (l.map f).Nodup → ∀ m ∈ l, (l.filter fun x => decide (f x = f m)) = [m]
  | x :: l, h, m, hm => by
    obtain ⟨h1, h2⟩ := List.nodup_cons.mp h
    rcases List.mem_cons.mp hm with rfl | hm
    · rw [List.filter_cons_of_pos (by simp), List.filter_eq_nil_iff.mpr fun y hy e => ?_]
      exact h1 (of_decide_eq_true e ▸ List.mem_map_of_mem hy)
    · rw [List.filter_cons_of_neg, filter_one f h2 m hm]
      intro e
      exact h1 (of_decide_eq_true e ▸ List.mem_map_of_mem hm)
theorem mode_one {b : Bk} (h : BkOk b) {m : Md} (hm : m ∈ b.modes) : (b.modes.filter fun x => decide (x.n = m.n)) = [m] := filter_one Md.n h.m.nd m hm
theorem cmd_one {b : Bk} (h : BkOk b) {m : Cm} (hm : m ∈ b.cmds) : (b.cmds.filter fun x => decide (x.n = m.n)) = [m] := filter_one Cm.n h.c.nd m hm
theorem row_one {b : Bk} (h : BkOk b) {m : Rw} (hm : m ∈ b.rows) : (b.rows.filter fun x => decide (x.n = m.n)) = [m] := filter_one Rw.n h.r.nd m hm
theorem eff_first {b : Bk} (h : BkOk b) {m : Md} (hm : m ∈ b.modes) : effR b [] ([], []) (some m.n) = m.on := by
  unfold effR rowsE
  dsimp only
  rw [mode_one h hm]
  rfl
theorem eff_to {b : Bk} {to : Option Str} {m : Str} (h : toOk to b.mn) (hm : m ∈ b.mn) : to.getD m ∈ b.mn := by
  cases to with
  | none => exact hm
  | some x => exact h x rfl
/-- what holds within a step: mode, holds that are on, row -/
structure MidS (b : Bk) (m : Str) (on : List Str) (r : Option Str) (p l : Int) : Prop where
  m : m ∈ b.mn
  on : lotOfB on b.holds = true
  row : rowB b r p l = true
theorem mid_eff {b : Bk} (h : BkOk b) {m : Str} {on : List Str} {r r' : Option Str} {p l p' l' : Int} (hm : MidS b m on r p l) {t : List Str × List Str} (ht : HsOk b t.1) {to : Option Str} (hto : toOk to b.mn) (hr : rowB b r' p' l' = true) : MidS b (to.getD m) (sortS (effR b on t to)) r' p' l' :=
  ⟨eff_to hto hm.m, hs_lot h (eff_hs h (lot_hs hm.on) ht to), hr⟩
theorem row_none {b : Bk} : rowB b none 0 0 = true := rfl
theorem mid_st {b : Bk} {m : Str} {on : List Str} {r : Option Str} {p l s : Int} (h : MidS b m on r p l) (h1 : 0 ≤ s) (h2 : s < mostZ b) : isSt b ⟨m, on, r, p, l, s⟩ = true := isSt_iff.mpr ⟨h.m, h.on, h.row, h1, h2⟩
theorem nmStr {b : Bk} (h : BkOk b) {x : Str} (hx : x ∈ b.cn) : ∃ c ∈ b.cmds, c.n = x := List.mem_map.mp hx
end PL

set_option maxHeartbeats 1000000
namespace PL
open PySem PySem.Spec PyProof.Rows L2 RZ
section
variable {X : Cx} {J : Jd} {N : Nd} {Γ : Ga} {a b c : Expr} {pos : Pos} {d1 d2 d3 : List D}
/-- x, y, z = a, b, c, all of them new lists -/
theorem rs_par3N (i j l : Nat) {x y z : Str} {px py pz pt pt2 : Pos} {kt k2} (ha : GoN X Γ a d1) (hb : GoN X Γ b d2) (hc3 : GoN X Γ c d3) (h : N.nx (((Γ.set i (.own d1)).set j (.own d2)).set l (.own d3))) (hN : X.N.Nodup) (hc : X.calm = true) (hij : i ≠ j) (hil : i ≠ l) (hjl : j ≠ l) (hi : X.N[i]? = some x := by rfl) (hj : X.N[j]? = some y := by rfl) (hl : X.N[l]? = some z := by rfl)
    (hx : X.env.scope.names.lookup x = some .local := by rfl) (hy : X.env.scope.names.lookup y = some .local := by rfl) (hz : X.env.scope.names.lookup z = some .local := by rfl)
    (hw : swappedStores [.Tuple [.Name x px, .Name y py, .Name z pz] kt pt] (.Tuple [a, b, c] k2 pt2) X.env = pure (some [x, y, z]) := by rfl)
    (hs : swapsWithSole [.Tuple [.Name x px, .Name y py, .Name z pz] kt pt] (.Tuple [a, b, c] k2 pt2) pos.line X.env = pure false := by rfl)
    (he1 : starEach [a, b, c] X.env = (false, eval a X.env) :: starEach [b, c] X.env := by rfl) (he2 : starEach [b, c] X.env = (false, eval b X.env) :: starEach [c] X.env := by rfl) (he3 : starEach [c] X.env = (false, eval c X.env) :: starEach [] X.env := by rfl) :
    RnS X J N Γ (.Assign [.Tuple [.Name x px, .Name y py, .Name z pz] kt pt] (.Tuple [a, b, c] k2 pt2) pos) := .mk fun B0 σ B H Fs E jn =>
  toS (ps_par3 hc hN hi hj hl hij hil hjl hx hy hz (pa_cons sE (pa_cons sE (pa_cons sE pa_nil he3) he2) he1) hw hs) (ha σ B H Fs E _ fun p1 v1 B1 H1 n1 a1 a2 a3 a4 => hb σ B1 H1 Fs (E.nw n1) _ fun p2 v2 B2 H2 n2 b1 b2 b3 b4 => hc3 σ B2 H2 Fs ((E.nw n1).nw n2) _ fun p3 v3 B3 H3 n3 c1 c2 c3 c4 => by
    have ne1 : H1 p1 ≠ none := fun q => by rw [a3] at q; cases q
    have ne2 : H2 p2 ≠ none := fun q => by rw [b3] at q; cases q
    have n23 := n2.trans n3
    have n := n1.trans n23
    have q1 : H3 p1 = some (.lst v1) := n23.hh _ _ a3
    have q2 : H3 p2 = some (.lst v2) := n3.hh _ _ b3
    have r1 : B3 p1 = none := n23.nu p1 a2 ne1
    have r2 : B3 p2 = none := n3.nu p2 b2 ne2
    have d12 : p1 ≠ p2 := fun e => ne1 (e ▸ b1)
    have d13 : p1 ≠ p3 := fun e => by
      rw [← e] at c1
      exact absurd (n2.hh _ _ a3) (by rw [c1]; exact fun z => nomatch z)
    have d23 : p2 ≠ p3 := fun e => ne2 (e ▸ c1)
    have m2 : H p2 = none := n1.hh.none b1
    have m3 : H p3 = none := (n1.trans n2).hh.none c1
    have f1 : ∀ k a, a ∈ Fs k → a ∉ [p1] := fun k a ha hm => (E.fre k a ha).2 (by rw [List.mem_singleton.mp hm]; exact a1)
    have f2 : ∀ k a, a ∈ off Fs i [p1] k → a ∉ [p2] := fun k a ha hm => by
      rw [List.mem_singleton.mp hm] at ha
      unfold off at ha
      split at ha
      · exact d12 (List.mem_singleton.mp ha).symm
      · exact (E.fre k _ ha).2 m2
    have f3 : ∀ k a, a ∈ off (off Fs i [p1]) j [p2] k → a ∉ [p3] := fun k a ha hm => by
      rw [List.mem_singleton.mp hm] at ha
      unfold off at ha
      split at ha
      · exact d23 (List.mem_singleton.mp ha).symm
      · split at ha
        · exact d13 (List.mem_singleton.mp ha).symm
        · exact (E.fre k _ ha).2 m3
    have E1 := (E.nw n).setO (P := lstO d1) (F := [p1]) i ⟨p1, v1, rfl, rfl, q1, dpsUp n23.bb a4⟩ (fun a ha => by rw [List.mem_singleton.mp ha]; exact r1) f1
    have E2 := E1.setO (P := lstO d2) (F := [p2]) j ⟨p2, v2, rfl, rfl, q2, dpsUp n3.bb b4⟩ (fun a ha => by rw [List.mem_singleton.mp ha]; exact r2) f2
    have E3 := E2.setO (P := lstO d3) (F := [p3]) l ⟨p3, v3, rfl, rfl, c3, c4⟩ (fun a ha => by rw [List.mem_singleton.mp ha]; exact c2) f3
    have jz : ∀ p, H p = none → ∀ a ∈ [p], J.H a = none := fun p hp a ha => by
      rw [List.mem_singleton.mp ha]
      cases q : J.H p with
      | none => rfl
      | some o => exact absurd hp (jn.h1 p (by rw [q]; exact fun z => nomatch z))
    exact ⟨_, _, _, rfl, B3, _, _, E3, (((jn.nw n).lay (jz p1 a1)).lay (jz p2 m2)).lay (jz p3 m3), h⟩)
end
section
variable {X : Cx} {Γ : Ga} {a b : Expr} {i j : Bool}
theorem gc_isB (ha : Go X Γ a (.bool i)) (hb : Go X Γ b (.bool j)) : GoC X Γ .Is a b (decide (i = j)) := go_cmp2 op_is_bl ha hb (fun v w B H hB r1 r2 Q q => by
  rw [dp_bl r1, dp_bl r2]
  exact ⟨i, j, rfl, rfl, q⟩)
theorem gc_notB (ha : Go X Γ a (.bool i)) (hb : Go X Γ b (.bool j)) : GoC X Γ .IsNot a b (!decide (i = j)) := go_cmp2 op_isnot_bl ha hb (fun v w B H hB r1 r2 Q q => by
  rw [dp_bl r1, dp_bl r2]
  exact ⟨i, j, rfl, rfl, q⟩)
end
theorem enumD_strs (hs : List Str) : enumD (hs.map .str) = (List.range hs.length).map fun k => PyData.tuple [.int ((k : Nat) : Int), .str (nth hs k)] := by
  unfold enumD
  refine List.ext_getElem (by simp) fun k h1 h2 => ?_
  have hk : k < hs.length := by simpa using h2
  rw [List.getElem_map, List.getElem_map, List.getElem_range, List.getElem_zipIdx, List.getElem_map]
  unfold PL.nth
  rw [List.getD_eq_getElem?_getD, List.getElem?_eq_getElem hk]
  simp
/-- a drawn standing -/
def drawOn (b : Bk) (f : Int) : List Str := ((List.range b.holds.length).filter fun k => decide (f / 2 ^ k % 2 = 1)).map (nth b.holds)
def drawM (b : Bk) (s : Int) : Str := nth b.mn (s % (b.mn.length : Int)).toNat
def drawQ (b : Bk) (t : Int) : Int := match b.quiet with
  | none => 0
  | some q => t % q
def drawW (b : Bk) (s : Int) : Rw := b.rows.getD (s / 15 % (b.rows.length : Int)).toNat ⟨⟨#[]⟩, []⟩
def drawP (b : Bk) (s t : Int) : Int := t / 30 % ((drawW b s).st.length : Int)
def drawS (b : Bk) (f s t : Int) : Sg := if b.rows.length = 0 ∨ s / 5 % 3 = 0 then ⟨drawM b s, drawOn b f, none, 0, 0, drawQ b t⟩ else ⟨drawM b s, drawOn b f, some (drawW b s).n, drawP b s t, 1 + f / 64 % (stAt (drawW b s).st (drawP b s t)).1, drawQ b t⟩
theorem drawW_at {b : Bk} {s : Int} (h : b.rows.length ≠ 0) : drawW b s ∈ b.rows ∧ atI (b.rows.map eR) (s / 15 % (b.rows.length : Int)) = some (eR (drawW b s)) := by
  have h1 : 0 ≤ s / 15 % (b.rows.length : Int) ∧ s / 15 % (b.rows.length : Int) < (b.rows.length : Int) := ⟨Int.emod_nonneg _ (by omega), Int.emod_lt_of_pos _ (by omega)⟩
  have h2 : (s / 15 % (b.rows.length : Int)).toNat < b.rows.length := by omega
  have e : drawW b s = b.rows[(s / 15 % (b.rows.length : Int)).toNat] := by
    unfold drawW
    rw [List.getD_eq_getElem?_getD, List.getElem?_eq_getElem h2]
    rfl
  rw [e]
  refine ⟨List.getElem_mem _, atI_get' (k := (s / 15 % (b.rows.length : Int)).toNat) ?_ (by omega)⟩
  rw [List.getElem?_map, List.getElem?_eq_getElem h2]
  rfl
theorem draw_p {b : Bk} (h : BkOk b) {s t : Int} (h0 : b.rows.length ≠ 0) : 0 ≤ drawP b s t ∧ drawP b s t < ((drawW b s).st.length : Int) := by
  have := (h.rS _ (drawW_at (s := s) h0).1).1
  unfold drawP
  exact ⟨Int.emod_nonneg _ (by omega), Int.emod_lt_of_pos _ (by omega)⟩
theorem draw_ok {b : Bk} (hb : BkL b) (f s t : Int) : isSt b (drawS b f s t) = true := by
  have hm : drawM b s ∈ b.mn := by
    have h1 := hb.ok.m.lo
    have : 0 ≤ s % (b.mn.length : Int) ∧ s % (b.mn.length : Int) < (b.mn.length : Int) := ⟨Int.emod_nonneg _ (by omega), Int.emod_lt_of_pos _ (by omega)⟩
    exact nth_mem (by omega)
  have ho : lotOfB (drawOn b f) b.holds = true := by
    have hs : (drawOn b f).Sublist b.holds := by
      have h : (drawOn b f).Sublist ((List.range b.holds.length).map (nth b.holds)) := List.filter_sublist.map _
      rwa [nth_self] at h
    unfold lotOfB isLotB inB
    rw [Bool.and_eq_true, Bool.and_eq_true]
    exact ⟨⟨List.all_eq_true.mpr fun x hx => hb.ok.h.nm x (hs.subset hx), ris_iff.mpr (hb.hr.sublist hs)⟩, List.all_eq_true.mpr fun x hx => decide_eq_true (hs.subset hx)⟩
  have hq : 0 ≤ drawQ b t ∧ drawQ b t < mostZ b := by
    unfold drawQ mostZ
    cases e : b.quiet with
    | none => exact ⟨Int.le_refl _, (by decide : (0 : Int) < 1)⟩
    | some q =>
      have := hb.ok.q q e
      exact ⟨Int.emod_nonneg _ (by omega), Int.emod_lt_of_pos _ (by omega)⟩
  unfold drawS
  by_cases c : b.rows.length = 0 ∨ s / 5 % 3 = 0
  · rw [if_pos c]
    exact isSt_iff.mpr ⟨hm, ho, row_none, hq.1, hq.2⟩
  · rw [if_neg c]
    have c0 : b.rows.length ≠ 0 := fun z => c (.inl z)
    have hw := (drawW_at (s := s) c0).1
    have hp := draw_p (t := t) (s := s) hb.ok c0
    have h9 := (hb.ok.rS _ hw).2.2 _ (st_mem hp)
    refine isSt_iff.mpr ⟨hm, ho, row_mk hb.ok hw hp ?_, hq.1, hq.2⟩
    have g1 := Int.emod_nonneg (f / 64) (show (stAt (drawW b s).st (drawP b s t)).1 ≠ 0 by omega)
    have g2 := Int.emod_lt_of_pos (f / 64) (show 0 < (stAt (drawW b s).st (drawP b s t)).1 by omega)
    show (1 : Int) ≤ 1 + f / 64 % (stAt (drawW b s).st (drawP b s t)).1 ∧ 1 + f / 64 % (stAt (drawW b s).st (drawP b s t)).1 ≤ (stAt (drawW b s).st (drawP b s t)).1
    generalize f / 64 % (stAt (drawW b s).st (drawP b s t)).1 = z at g1 g2 ⊢
    exact ⟨by omega, by omega⟩
end PL

set_option maxHeartbeats 1000000
/-! the parts of books that the laws k01 - k07 draw -/
namespace PL
open PySem PySem.Spec PyProof.Rows L2 RZ
section
variable {X : Cx} {J : Jd} {N : Nd} {Γ : Ga} {e tg : Expr} {pos : Pos}
/-- targets for one of some values -/
theorem rs_unpEx {α : Type} {p : α → Prop} {f : α → D} (he : GoP X Γ e (exP p fun x => datP (f x))) (hg : ∀ x, p x → ∃ Γ2 ts, GoG X Γ tg (f x) Γ2 ts ∧ N.nx Γ2) (hs : swapsWithSole [tg] e pos.line X.env = pure false := by rfl) (hw : swappedStores [tg] e X.env = pure none := by rfl)
    (h1 : (assignEach [tg] X.env).map (·.2) = [assign tg X.env] := by rfl) : RnS X J N Γ (.Assign [tg] e pos) := .mk fun B0 σ B H Fs E j =>
  toS (ps_asg sE sG hs hw h1) (he σ B H Fs E _ fun v B2 H2 n ⟨x, hx, r⟩ => by
    obtain ⟨Γ2, ts, g, h⟩ := hg x hx
    exact g σ B2 H2 Fs v (E.nw n) r _ fun σ' Fs' E' sb _ => ⟨B2, Γ2, Fs', E', (j.nw n).sub sb, h⟩)
end
theorem hasD_lots (bs : List (List Str)) (l : List Str) : hasD (bs.map eL) (eL l) = decide (l ∈ bs) := by
  unfold hasD
  rw [List.any_map]
  induction bs with
  | nil => rfl
  | cons x r ih =>
    rw [List.any_cons, ih]
    show (PyData.eqv (eL x) (eL l) || decide (l ∈ r)) = _
    rw [eqv_L]
    by_cases h1 : x = l
    · simp [h1]
    · by_cases h2 : l ∈ r
      · simp [h1, h2]
      · simp [h1, h2, Ne.symm h1]
structure PickOk (names wo l : List Str) : Prop where
  sub : l.Sublist (sortS names)
  no : ∀ x ∈ l, x ∉ wo
theorem pick_lotOf {names wo l : List Str} {lo hi : Nat} (h : NmsOk names lo hi) (p : PickOk names wo l) : lotOfB l names = true := by
  have hr : (sortS names).Pairwise fun a b => ltS a b = true := ris_iff.mp (sort_rises h.nd)
  have hm : ∀ x ∈ l, x ∈ names := fun x hx => (sortS_perm names).mem_iff.mp (p.sub.subset hx)
  unfold lotOfB isLotB inB
  rw [Bool.and_eq_true, Bool.and_eq_true]
  exact ⟨⟨List.all_eq_true.mpr fun x hx => h.nm x (hm x hx), ris_iff.mpr (hr.sublist p.sub)⟩, List.all_eq_true.mpr fun x hx => decide_eq_true (hm x hx)⟩
structure EffOk (hs ms : List Str) (q : List Str × List Str × Option Str) : Prop where
  on : PickOk hs [] q.1
  off : PickOk hs q.1 q.2.1
  to : toOk q.2.2 ms
theorem eff_turn {hs ms : List Str} {lo hi : Nat} (h : NmsOk hs lo hi) {q : List Str × List Str × Option Str} (e : EffOk hs ms q) : turnB q.1 q.2.1 hs = true := by
  unfold turnB
  rw [pick_lotOf h e.on, pick_lotOf h e.off, Bool.true_and, Bool.true_and, Bool.not_eq_true', List.any_eq_false]
  exact fun x hx hy => e.off.no x (of_decide_eq_true hy) hx
/-- the parts of a book -/
def pD (b : Bk) : D := .tuple [.list (b.holds.map .str), .list (b.modes.map eM), .list (b.barred.map eL), .list (b.cmds.map eC), .list (b.alarms.map eA), .list (b.rows.map eR), eQ b.quiet]
def ha0 : List Str := ["heat", "a", "wheel", "b9"]
def ma0 : List Str := ["safe", "a", "run"]
def ca0 : List Str := ["go", "a", "burn"]
def aa0 : List Str := ["low", "a"]
def ra0 : List Str := ["plan", "a"]
theorem ha_ok {n : Nat} (h1 : 1 ≤ n) (h2 : n ≤ 4) : NmsOk (ha0.take n) 1 6 := by
  have := take_nms (l := ha0) (n := n) (lo := 1) (hi := 4) h1 h2 rfl (by decide +kernel) (by decide +kernel)
  exact ⟨this.lo, by have := this.hi; omega, this.nm, this.nd⟩
theorem ma_ok {n : Nat} (h1 : 1 ≤ n) (h2 : n ≤ 3) : NmsOk (ma0.take n) 1 5 := by
  have := take_nms (l := ma0) (n := n) (lo := 1) (hi := 3) h1 h2 rfl (by decide +kernel) (by decide +kernel)
  exact ⟨this.lo, by have := this.hi; omega, this.nm, this.nd⟩
theorem ca_ok {n : Nat} (h2 : n ≤ 3) : NmsOk (ca0.take n) 0 8 := by
  have := take_nms (l := ca0) (n := n) (lo := 0) (hi := 3) (Nat.zero_le _) h2 rfl (by decide +kernel) (by decide +kernel)
  exact ⟨this.lo, by have := this.hi; omega, this.nm, this.nd⟩
theorem aa_ok {n : Nat} (h2 : n ≤ 2) : NmsOk (aa0.take n) 0 4 := by
  have := take_nms (l := aa0) (n := n) (lo := 0) (hi := 2) (Nat.zero_le _) h2 rfl (by decide +kernel) (by decide +kernel)
  exact ⟨this.lo, by have := this.hi; omega, this.nm, this.nd⟩
theorem ra_nms {l : List Str} (h : l.Sublist ra0) : NmsOk l 0 3 where
  lo := Nat.zero_le _
  hi := Nat.le_trans h.length_le (by decide)
  nm := fun x hx => List.all_eq_true.mp (show (ra0.all isNmB) = true by decide +kernel) x (h.subset hx)
  nd := List.Nodup.sublist h (by decide +kernel)
theorem take_snocS {l : List Str} {k : Nat} (h : k < l.length) : l.take (k + 1) = l.take k ++ [PL.nth l k] := by
  rw [List.take_add_one, List.getElem?_eq_getElem h]
  unfold PL.nth
  rw [List.getD_eq_getElem?_getD, List.getElem?_eq_getElem h]
  rfl
theorem qz_at {i : Int} (h : 0 ≤ i ∧ i < 5) : ∃ q : Option Int, atI [PyData.none, .int 1, .int 2, .int 3, .int 4] i = some (eQ q) ∧ ∀ z, q = some z → 1 ≤ z ∧ z ≤ 30 := by
  rcases (show i = 0 ∨ i = 1 ∨ i = 2 ∨ i = 3 ∨ i = 4 by omega) with rfl | rfl | rfl | rfl | rfl
  · exact ⟨none, rfl, fun z h => nomatch h⟩
  · exact ⟨some 1, rfl, fun z h => by cases h; decide⟩
  · exact ⟨some 2, rfl, fun z h => by cases h; decide⟩
  · exact ⟨some 3, rfl, fun z h => by cases h; decide⟩
  · exact ⟨some 4, rfl, fun z h => by cases h; decide⟩
/-- what is picked by the digits of m in the system of three -/
def pickF : List Str → Int → List Str → List Str
  | [], _, _ => []
  | x :: r, m, wo => (if m % 3 = 1 ∧ x ∉ wo then [x] else []) ++ pickF r (m / 3) wo
theorem div3 (m : Int) (k : Nat) : m / 3 ^ k / 3 = m / 3 ^ (k + 1) := by
  rw [Int.pow_succ, Int.ediv_ediv_of_nonneg (Int.pow_nonneg (by decide))]
theorem pickF_snoc (x : Str) (wo : List Str) : ∀ (l : List Str) (m : Int), pickF (l ++ [x]) m wo = pickF l m wo ++ (if m / 3 ^ l.length % 3 = 1 ∧ x ∉ wo then [x] else [])
  | [], m => by
    show (if m % 3 = 1 ∧ x ∉ wo then [x] else []) ++ [] = [] ++ _
    rw [List.append_nil, List.nil_append, List.length_nil, Int.pow_zero, Int.ediv_one]
  | y :: l, m => by
    have ih := pickF_snoc x wo l (m / 3)
    show (if m % 3 = 1 ∧ y ∉ wo then [y] else []) ++ pickF (l ++ [x]) (m / 3) wo = ((if m % 3 = 1 ∧ y ∉ wo then [y] else []) ++ pickF l (m / 3) wo) ++ _
    rw [ih, List.append_assoc]
    congr 2
    have e : m / 3 / 3 ^ l.length = m / 3 ^ (y :: l).length := by
      rw [List.length_cons, Int.pow_succ, Int.mul_comm, ← Int.ediv_ediv_of_nonneg (by decide)]
    rw [e]
theorem pickF_sub (wo : List Str) : ∀ (l : List Str) (m : Int), (pickF l m wo).Sublist l ∧ ∀ x ∈ pickF l m wo, x ∉ wo
  | [], m => ⟨List.nil_sublist _, fun x h => nomatch h⟩
  | y :: l, m => by
    obtain ⟨i1, i2⟩ := pickF_sub wo l (m / 3)
    unfold pickF
    by_cases c : m % 3 = 1 ∧ y ∉ wo
    · rw [if_pos c]
      refine ⟨i1.cons_cons y, fun x hx => ?_⟩
      rcases List.mem_cons.mp hx with h | h
      · rw [h]
        exact c.2
      · exact i2 x h
    · rw [if_neg c]
      exact ⟨i1.cons y, i2⟩
theorem pickF_ok (names : List Str) (m : Int) (wo : List Str) : PickOk names wo (pickF (sortS names) m wo) := ⟨(pickF_sub wo _ m).1, (pickF_sub wo _ m).2⟩
/-- an effect: what is picked, and where to -/
def effF (hs ms : List Str) (a b c : Int) : List Str × List Str × Option Str := (pickF (sortS hs) a [], pickF (sortS hs) b (pickF (sortS hs) a []), optA ms 2 (c % ((ms.length : Int) + 2)))
theorem effF_ok (hs ms : List Str) (a b c : Int) : EffOk hs ms (effF hs ms a b c) := ⟨pickF_ok hs a [], pickF_ok hs b _, opt_ok⟩
end PL

set_option maxHeartbeats 1000000
/-! orders and inputs, good and bad ones: the plain law of k04 -/
namespace PL
open PySem PySem.Spec PyProof.Rows L2 RZ
def goodL (b : Bk) : List (List Str) := (([["stop"]] : List (List Str)) ++ b.cmds.map fun c => [("do" : Str), c.n]) ++ b.rows.map fun r => [("run" : Str), r.n]
def badL : List (List Str) := [["do", "none"], ["run", "none"], ["stop", "stop"], ["do"], ["run"], [], ["halt"], ["Do", "go"], ["do", "go", "go"], ["", ""], ["stop", ""]]
theorem good_ord {b : Bk} {os : List Str} : os ∈ goodL b ↔ some os ∈ ordL b := by
  rw [ordL_iff]
  unfold goodL
  rw [List.mem_append, List.mem_append, List.mem_singleton, List.mem_map, List.mem_map]
  constructor
  · rintro ((h | ⟨c, hc, rfl⟩) | ⟨r, hr, rfl⟩)
    · exact .inr (.inl (congrArg some h))
    · exact .inr (.inr (.inl ⟨c.n, (sortS_perm _).mem_iff.mpr (List.mem_map.mpr ⟨c, hc, rfl⟩), rfl⟩))
    · exact .inr (.inr (.inr ⟨r.n, List.mem_map.mpr ⟨r, hr, rfl⟩, rfl⟩))
  · rintro (h | h | ⟨x, hx, h⟩ | ⟨x, hx, h⟩)
    · cases h
    · exact .inl (.inl (Option.some.inj h))
    · obtain ⟨c, hc, rfl⟩ := List.mem_map.mp ((sortS_perm _).mem_iff.mp hx)
      exact .inl (.inr ⟨c, hc, (Option.some.inj h).symm⟩)
    · obtain ⟨r, hr, rfl⟩ := List.mem_map.mp hx
      exact .inr ⟨r, hr, (Option.some.inj h).symm⟩
theorem good_dec {b : Bk} (os : List Str) : decide (os ∈ goodL b) = ordB b os := by
  rw [Bool.eq_iff_iff, decide_eq_true_iff, good_ord, ordB_iff]
theorem good_oks {b : Bk} (h : BkOk b) {os : List Str} (ho : os ∈ goodL b) : OksS os := ords_oks h (good_ord.mp ho) os rfl
theorem bad_oks : ∀ os ∈ badL, OksS os := fun os h => List.all_eq_true.mp (List.all_eq_true.mp (show (badL.all fun l => l.all PyData.strOk) = true by decide +kernel) os h)
theorem good_len {b : Bk} (h : BkOk b) : (goodL b).length ≤ 12 := by
  have h1 := h.c.hi
  have h2 := h.r.hi
  rw [List.length_map] at h1 h2
  unfold goodL
  simp only [List.length_append, List.length_map, List.length_cons, List.length_nil]
  omega
theorem lot_due {b : Bk} (h : BkOk b) (l : List Str) : lotOfB l b.an = (decide (l = sortS (dif l)) && decide ((l.filter fun x => !decide (x ∈ b.an)).length = 0)) := by
  rw [Bool.eq_iff_iff, Bool.and_eq_true, decide_eq_true_iff, decide_eq_true_iff, List.length_eq_zero_iff, List.filter_eq_nil_iff]
  constructor
  · intro hl
    obtain ⟨h1, h2⟩ := lotOf hl
    refine ⟨(sortS_eq (dif_perm (lot_nd h1))).trans (lot_sort h1) |>.symm, fun x hx => ?_⟩
    rw [decide_eq_true (h2 x hx)]
    exact Bool.false_ne_true
  · rintro ⟨h1, h2⟩
    have hm : ∀ x ∈ l, x ∈ b.an := fun x hx => by
      have := h2 x hx
      rw [Bool.not_eq_true', decide_eq_false_iff_not, Decidable.not_not] at this
      exact this
    unfold lotOfB isLotB inB
    rw [Bool.and_eq_true, Bool.and_eq_true]
    refine ⟨⟨List.all_eq_true.mpr fun x hx => h.a.nm x (hm x hx), ?_⟩, List.all_eq_true.mpr fun x hx => decide_eq_true (hm x hx)⟩
    rw [h1]
    exact sort_rises (dif_nd l)
/-- what is due -/
def dueB (b : Bk) (l : List Str) (o : Od) : Bool := (decide (l = sortS (dif l)) && decide ((l.filter fun x => !decide (x ∈ b.an)).length = 0)) && (match o with | none => true | some os => decide (os ∈ goodL b))
theorem due_inp {b : Bk} (h : BkOk b) (l : List Str) (o : Od) : dueB b l o = inpB b l o := by
  unfold dueB inpB
  rw [← lot_due h]
  cases o with
  | none => rfl
  | some os =>
    show (_ && decide (os ∈ goodL b)) = (_ && ordB b os)
    rw [good_dec]
theorem eqv_SL (a b : List Str) : PyData.eqv (.list (a.map .str)) (.list (b.map .str)) = decide (a = b) := by rw [eqv_list, eqvAll_strs]
theorem shp_SL {l : List Str} (h : OksS l) : Shp 1 (.list (l.map .str)) := Shp.list fun d hd => by
  obtain ⟨x, hx, rfl⟩ := List.mem_map.mp hd
  exact ⟨h x hx, Nat.zero_le _⟩
theorem shp_LL {ls : List (List Str)} (h : ∀ l ∈ ls, OksS l) : SeqAt.shaped (.list (ls.map eL)) = true := (Shp.list (n := 1) fun d hd => by
  obtain ⟨l, hl, rfl⟩ := List.mem_map.mp hd
  exact shp_L (h l hl)).ok
/-- an order that is drawn -/
def ordsX (b : Bk) : List Od := ([none] ++ (goodL b).map some) ++ badL.map some
theorem ordsX_oks {b : Bk} (h : BkOk b) {o : Od} (ho : o ∈ ordsX b) : ∀ l, o = some l → OksS l := by
  rintro l rfl
  unfold ordsX at ho
  rw [List.mem_append, List.mem_append, List.mem_singleton, List.mem_map, List.mem_map] at ho
  rcases ho with (h1 | ⟨x, h1, h2⟩) | ⟨x, h1, h2⟩
  · cases h1
  · cases h2
    exact good_oks h h1
  · cases h2
    exact bad_oks _ h1
end PL

set_option maxHeartbeats 2000000
namespace PL
open PySem PySem.Spec PyProof.Rows L2 PySem.W
/-! ### sorted(xs, key=f), f a def that gives the first item -/
def fstD : D → D
  | .tuple (d :: _) => d
  | d => d
/-- def x(p): return p[0] -/
structure FstF (K : PySem.W.Frag) (mg : Str → Option Value) (x : Str) : Prop where
  ex : ∃ (f : Addr) (fd : FuncData) (oc : Value) (od : Option Addr) (osl : Array (Option Value)) (p : Str) (j : Nat) (q1 q2 q3 q4 : Pos), mg x = some (.ref f) ∧ Binds K fd [p] [] ∧ K.lookup f = some ⟨oc, od, .func fd, osl⟩ ∧ codeIn K fd.code fd.qualname = true ∧
    fd.body = .stmts [.Return (some (.Subscript (.Name p q1) (.Constant (.int 0) j q2) q3)) q4] ∧ (∀ y ∈ fd.scope.names, y.2 ≠ .cell) ∧ fd.scope.names.lookup p = some .local ∧ fd.scope.isCoroutine = false ∧ fd.scope.isGenerator = false ∧ fd.scope.kind = .function ∧ (p == ("__debug__" : Str)) = false
theorem fst_ok {K : PySem.W.Frag} {mg : Str → Option Value} {x p : Str} {st : Stmt} {j : Nat} {q1 q2 q3 q4 : Pos} (Df : Dfn K mg x st [p]) (hb : defBody st = [.Return (some (.Subscript (.Name p q1) (.Constant (.int 0) j q2) q3)) q4]) (h1 : ∀ y ∈ (defScope st).names, y.2 ≠ .cell) (h2 : (defScope st).names.lookup p = some .local)
    (h3 : (defScope st).isCoroutine = false) (h4 : (defScope st).isGenerator = false) (h5 : (defScope st).kind = .function) (h6 : (p == ("__debug__" : Str)) = false) : FstF K mg x := by
  obtain ⟨f, fd, F, m, b⟩ := Df.ex
  obtain ⟨oc, od, kV, doc, pm, an, cdv, ct, osl, rfl, lk, hcd⟩ := F.ex
  exact ⟨f, _, oc, od, osl, p, j, q1, q2, q3, q4, m, b, lk, hcd, congrArg FuncBody.stmts hb, h1, h2, h3, h4, h5, h6⟩
section
variable {prog : Program} {w : World} {A : Around} {s : Shared} {K : PySem.W.Frag} {f t : Addr} {fd : FuncData} {oc v : Value} {od : Option Addr} {osl : Array (Option Value)} {p : Str} {j : Nat} {q1 q2 q3 q4 : Pos} {its : Array Value}
theorem fst_turn (b : Binds K fd [p] []) (lk : K.lookup f = some ⟨oc, od, .func fd, osl⟩) (hcd : codeIn K fd.code fd.qualname = true) (hbody : fd.body = .stmts [.Return (some (.Subscript (.Name p q1) (.Constant (.int 0) j q2) q3)) q4]) (h1 : ∀ y ∈ fd.scope.names, y.2 ≠ .cell) (h2 : fd.scope.names.lookup p = some .local)
    (h3 : fd.scope.isCoroutine = false) (h4 : fd.scope.isGenerator = false) (h5 : fd.scope.kind = .function) (h6 : (p == ("__debug__" : Str)) = false) (X : K.In s.heap) (lim : s.heap.NoLimit) (hroom : A.depth < recursionLimit) (ht : PyProof.Rows.IsTup s.heap t its) (h0 : its[0]? = some v) :
    wpAny (model prog w) A (call (.ref f) [.ref t]) (fun r s' => r = v ∧ ∃ h' tk, s' = { s with heap := h', toks := tk } ∧ ∀ b o, s.heap.get? b = some o → h'.get? b = some o) (fun _ _ => False) s := by
  refine wpAny_call (ks_codeAny_call_defAt (binds := [(p, .ref t)]) hroom (X _ _ lk) rfl lim (codeRec_of X hcd) hbody (b s [.ref t] X rfl) h1 (fun y hy => by rw [List.mem_singleton.mp hy]; exact h2) (fun h₁ hns k => ?_) h3 h4 h5)
  have hsz : 0 < its.size := (Array.getElem?_eq_some_iff.mp h0).1
  refine wpAt_of_wpAny (wpAny_execs_cons (wpAny_Return_some (Subscript_ (wpAny_Name (wpAny_loadName_local (v := .ref t) h5 h2 hns (by simp [List.lookup]) (wpAny_Constant_int ?_)) h6))))
  exact item_tuple (ht.keeps k) (by decide) (by decide) (j := 0) (seqIndex_of (k := 0) (by decide) (by omega)) h0 ⟨rfl, _, _, rfl, k⟩
end
/-- fit to be sorted by the first item, a text -/
def FstOk (ds : List D) : Prop := (∀ d ∈ ds, ∃ x r, d = .tuple (.str x :: r)) ∧ ds.length ≤ 1000000
def rSortF (K : PySem.W.Frag) (f : Addr) : List V → List V → Hp → VK → Prop := fun vs zs H Q => ∃ (a : Addr) (xs : List V) (ds : List D) (B : Hp), vs = [V.ref a] ∧ zs = [V.ref f] ∧ Ex B H ∧ SqL K H a xs ∧ DpAll K B xs ds ∧ FstOk ds ∧ ∀ ys p, H p = none → DpAll K B ys (ds.mergeSort (dataLe false fstD)) → Q (.ref p) (upd H p (.lst ys))
section
variable {X : Cx} {Γ : Ga} {a : Expr} {p pos kp p2 : Pos} {ds : List D} {x : Str} {k : Nat}
/-- an item: data, its first item -/
def RF (K : PySem.W.Frag) (H : Hp) (h : Heap) (u : Value) (d : D) : Prop := RD K H u d ∧ ∃ t its tk y, u = .ref t ∧ PyProof.Rows.IsTup h t its ∧ its[0]? = some (.str y tk) ∧ fstD d = .str y
theorem rf_all {pins : List (Addr × Obj)} {σ : L2.St} {H B : Hp} {s : Shared} (I : Inv X pins σ H s) (hB : Ex B H) : ∀ {us : List Value} {ds : List D}, EachIs (RD X.K B) us ds → (∀ d ∈ ds, ∃ x r, d = .tuple (.str x :: r)) → EachIs (RF X.K B s.heap) us ds
  | _, _, .nil, _ => .nil
  | _, _, .cons (a := u) (b := d) r rs, h => by
    refine .cons ⟨r, ?_⟩ (rf_all I hB rs fun d hd => h d (List.mem_cons_of_mem _ hd))
    obtain ⟨y, r', rfl⟩ := h _ List.mem_cons_self
    obtain ⟨v, rv, hv⟩ := r
    obtain ⟨t, vs, rfl, h2, h3⟩ := dp_tup hv
    cases rv
    obtain ⟨its, rv, hl, hz⟩ := I.tuple (hB.st h2)
    cases h3 with
    | cons e1 e2 =>
      rw [dp_str e1] at rv
      cases rv with
      | cons g1 g2 =>
        obtain ⟨tk, rfl⟩ := g1
        exact ⟨t, _, tk, y, rfl, hl, rfl, rfl⟩
theorem cr_sortF {f : Addr} (hr : Room k X.A) (T : FstF X.K X.mg x) (hm : X.mg x = some (.ref f)) : CallRK X (.builtin "sorted") [Str.ofString "key"] (rSortF X.K f) := by
  intro pins s σ H vs zs us ws Q I r rz h
  obtain ⟨a, xs, ds, B, rfl, rfl, hB, hs, hd, ⟨hok, hln⟩, q⟩ := h
  obtain rfl := Vals.ref1 r
  obtain rfl := Vals.ref1 rz
  obtain ⟨f', fd, oc, od, osl, p, j, q1, q2, q3, q4, m, b, lk, hcd, hbody, h1, h2, h3, h4, h5, h6⟩ := T.ex
  rw [hm] at m
  cases m
  obtain ⟨its, rv, hl, hz⟩ := I.list hs
  have e := rf_all I hB (rd_all rv hd) hok
  have hun := hr.un
  have hdp := hr.dp
  have hkeys : ∀ d ∈ ds.map fstD, ∃ y, d = .str y := fun d hd => by
    obtain ⟨z, hz, rfl⟩ := List.mem_map.mp hd
    obtain ⟨y, r, rfl⟩ := hok z hz
    exact ⟨y, rfl⟩
  refine sorted_key_data (b := false) fstD hl.isList e (fun d hd d' hd' => ?_) (.inr fun d hd => ?_) (leZ (by omega)) (fun d hd => ?_) (ksk_s1 _ _) (fun _ => ksk_l1 _ _) (fun _ => ksk_t1 _ _) (fun v d hR hx h tk kp => ?_) fun out c h' tk kp hn hD _ eo => ?_
  · obtain ⟨y, rfl⟩ := hkeys d hd
    obtain ⟨y', rfl⟩ := hkeys d' hd'
    rfl
  · obtain ⟨y, rfl⟩ := hkeys d hd
    exact ⟨fun z => (nomatch z), fun _ z => (nomatch z)⟩
  · obtain ⟨y, r, rfl⟩ := hok d hd
    show X.A.units + 2 + (PyData.str y).depth < cLine
    have : (PyData.str y).depth = 0 := by simp [PyData.depth]
    omega
  · obtain ⟨_, t, its', tk', y, rfl, h7, h8, h9⟩ := hR
    refine wpAny_mono (fst_turn (s := { s with heap := h, toks := tk }) b lk hcd hbody h1 h2 h3 h4 h5 h6 (I.kIn.keeps kp) (I.nolimit.keeps kp) (by show X.A.depth < _; omega) (h7.keeps kp) h8) (fun r s' ⟨e1, h', tk2, e2, e3⟩ => ?_) fun _ _ z => z
    subst e1
    exact ⟨h', tk2, e2, e3, by rw [h9]; exact Reads.str _ _⟩
  · obtain ⟨ys, hv, hd'⟩ := rd_back (eo.mono fun u d h => h.1)
    have hHn : H (s.heap.objs.size + 1) = none := I.hok.gone hn
    have hys : ys.length ≤ sizeLine := by
      rw [dps_len hd', List.length_mergeSort]
      exact leZ (by omega)
    have J := I.call' (s' := { s with heap := h', toks := tk }) (ch := []) rfl (Un.laidN kp hn hHn) (I.hok.laidN (o := .lst ys) kp hHn (by exact ⟨hys, out, c, hv, hD⟩)) I.bare (fun _ z => nomatch z)
    exact ⟨.ref (s.heap.objs.size + 1), _, J, rfl, q ys _ hHn hd'⟩
theorem goN_sortF {nm : Option Str} (hr : Room k X.A) (T : FstF X.K X.mg x) (hm : X.mg "sorted" = none) (ha : Go X Γ a (.list ds)) (hok : FstOk ds) (hg : Gl X "sorted" := by rfl) (hgx : Gl X x := by rfl) (hdx : (x == ("__debug__" : Str)) = false := by decide)
    (he1 : starEach [a] X.env = (false, eval a X.env) :: starEach [] X.env := by rfl) (hks : (backToKw pos (keywordEach [⟨nm, .Name x p2, kp⟩] X.env)).filterMap (·.1) = [Str.ofString "key"] := by rfl) (he : backTo pos (starEach [a] X.env) = (false, eval a X.env) :: backTo pos (starEach [] X.env) := by rfl) (hpl : (backTo pos (starEach [a] X.env)).any (·.1) = false := by rfl)
    (hall : (backToKw pos (keywordEach [⟨nm, .Name x p2, kp⟩] X.env)).all (·.1.isSome) = true := by rfl) (hnone : (backToKw pos (keywordEach [⟨nm, .Name x p2, kp⟩] X.env)).any (·.1.isNone) = false := by rfl) :
    GoN X Γ (.Call (.Name "sorted" p) [a] [⟨nm, .Name x p2, kp⟩] pos) (ds.mergeSort (dataLe false fstD)) := .mk fun σ B H Fs E Q q => by
  obtain ⟨f, fd, oc, od, osl, p', j, q1, q2, q3, q4, m, _⟩ := T.ex
  refine toE (pe_callBK (cr_sortF hr T m) hg hm PyProof.Rows.boot_sorted (pa_cons sE pa_nil he1) (pk_cons (pe_glob (v := .ref f) hgx m rfl hdx) pk_nil) (by decide) (by decide) he hpl hall hnone hks) (ha σ B H Fs E _ fun v B1 H1 n1 r1 => ?_)
  obtain ⟨p, us, rfl, h3, h4⟩ := dp_lst r1
  exact ⟨p, us, ds, B1, rfl, rfl, n1.bh, n1.bh.sl h3, h4, hok, fun ys l hl hy => q l ys B1 _ (n1.trans (.lay n1.bh hl)) (n1.hh.none hl) (n1.bh.none hl) upd_same hy⟩
end
end PL

set_option maxHeartbeats 4000000
namespace PL
open PySem PySem.Spec PyProof.Rows L2
/-! ### properties that hand back a new thing -/
structure CalPU (P : Program) (w : World) (K : PySem.W.Frag) (mg : Str → Option Value) (base : Heap) (own m : Str) (ps : List Str) (k : Nat) (S : List Mn → Ow → Prop) : Prop where
  ex : ∃ C p g fd, ClsAt K own C ∧ Cls K C ∧ PropOf K C m p g ∧ FnOk P w K mg base CX0 k g fd ps (spSU K S) ∧ Binds K fd ps []
section
variable {P : Program} {w : World} {K : PySem.W.Frag} {mg : Str → Option Value} {base : Heap}
theorem mPU_ok {own m qual : Str} {st : Stmt} {L ps : List Str} {k : Nat} {S : List Mn → Ow → Prop} (Mt : MtdP K own m qual st ps) (Sc : FnScope L ps (defScope st)) (hl : ∀ Ps R, S Ps R → Ps.length = ps.length)
    (body : ∀ Ps R, S Ps R → ∀ (f : Addr) (cdv : Value) (A : Around) (outer : List Env) (s : Shared) (H : Hp) (E : XK), Room k (A.deeper (envOfC qual (defScope st) s.heap.objs.size f cdv)) → ∀ J : Jd, J.S = [] →
      Rn (cxOf CX0 P w K mg base L qual (defScope st) f cdv A outer s H E).nox J { nx := fun _ => False, rt := datP .none, rn := some R } (entry Ps L.length) (defBody st)) : CalPU P w K mg base own m ps (k + 1) S := by
  obtain ⟨C, p, g, fd, h1, h2, h3, F, b⟩ := Mt.ex
  refine ⟨C, p, g, fd, h1, h2, h3, F.ok Sc (fun vs H Q E h => ?_) fun cdv A outer s H vs Q E hr h => ?_, b⟩
  · obtain ⟨Ps, R, B, hS, _, h, _⟩ := h
    rw [mn_len h, hl _ _ hS]
  · obtain ⟨Ps, R, B, hS, hB, hv, q⟩ := h
    refine ⟨_, sSs, wpSs_mono (body Ps R hS g cdv A outer s H E hr ⟨H, [], []⟩ rfl B (L2.start L vs) B H (fun _ => []) (en_entry hB hv) jn_entry) ?_ ?_ ?_ ?_⟩
    · exact fun σ' H' ⟨B', Γ', Fs', e, j, n⟩ => n.elim
    · exact fun v H' ⟨σ', B', Γ', Fs', e, j, _, F, r1, r2, _⟩ => q v F B' H' ⟨j.b0, e.bh, fun a o h => j.h0 a o h (by simp), fun a h1 h2 => by
        cases r : B' a with
        | none => rfl
        | some o => exact absurd (j.nb a (by rw [r]; exact fun z => nomatch z) h1) h2⟩ r1 r2
    · exact fun σ' H' ⟨B', Γ', Fs', e, j, n⟩ => n.elim
    · exact fun σ' H' ⟨B', Γ', Fs', e, j, n⟩ => n.elim
end
section
variable {X : Cx} {J : Jd} {N : Nd} {Γ : Ga} {o e a : Expr} {es : List Expr} {P R : Mn} {W : Ow} {d : D} {ds : List D} {pos apos p : Pos} {own m : Str} {ps : List Str} {j k : Nat} {Ps : List (Str × Mn)} {Wx : WX} {r : Er}
theorem goU_prop {S : List Mn → Ow → Prop} (C : CalPU X.prog X.w X.K X.mg X.base own m ps k S) (hr : Room j X.A) (hk : k + 1 ≤ j) (ho : GoP X Γ o (insP own Ps)) (hS : S [insP own Ps] W := by walk_at "pS") (hb : attributeBase o m X.env (eval o X.env) = eval o X.env := by rfl) : GoU X Γ (.Attribute o m pos) W := .mk fun σ B H Fs E Q q => by
  obtain ⟨C, pr, g, fd, h1, h2, h3, F, b⟩ := C.ex
  refine toE (pe_prop sE h2 h3 F (hr.mono hk) b .nil pass0 hb) (ho σ B H Fs E _ fun v B1 H1 n1 r1 => ?_)
  obtain ⟨C', a, dx, vs, e1, rfl, e3, e4⟩ := id r1
  cases h1.eq e1
  exact ⟨a, dx, vs, rfl, n1.bh _ _ e3, [insP own Ps], W, B1, hS, n1.bh, .cons r1 .nil, fun v F B3 H3 n3 r3 r4 => q v F B3 H3 (n1.trans n3) r3 fun a ha => ⟨n1.hh.none (r4 a ha).1, (r4 a ha).2⟩⟩
/-! ### try: one statement that raises an error with a field; behind it the def goes on -/
theorem rs_try_asF {xn fn n : Str} {fv : V} {i : Nat} {b₀ st₀ : Stmt} {suite : List Stmt} {np pos' : Pos} (hs : X.stack = X.env :: X.outer) (hf : X.env.frame = some X.env.locals) (hN : X.N.Nodup) (hi : X.N[i]? = some n) (hln : X.env.kindOf n = some .local) (hc : ∃ C, ClsAt X.K xn C ∧ Names X xn (.ref C) ∧ PySem.W.exmOne X.K (.ref C) (.ref C) = some true) (tk : Takes X fun _ _ _ _ => False)
    (he : ∀ (W : WX) (pn : List (Addr × Obj)) (xe : Value → Shared → Prop), Takes (X.tr pn xe) W → SoE (X.tr pn xe) W Γ st₀ (erF xn fn fv))
    (hsu : ∀ (C a d : Addr) (oe : Obj) (pn : List (Addr × Obj)), ClsAt X.K xn C → Zc (.ref C) (some d) oe → (∃ vs, oe.data = .fields vs) → Rn (X.suite a ((a, oe) :: pn)) J { N with nx := fun Γ' => N.nx (Γ'.set i .any), bk := fun _ => False, ct := fun _ => False } (Γ.set i (.pr (errM a d fn fv))) (b₀ :: suite)) :
    RnS X J N Γ (.Try [st₀] [.ExceptHandler (some (.Name xn np)) (some n) (b₀ :: suite) pos'] [] [] pos) := .mk fun B0 σ B H Fs E j => by
  obtain ⟨C, hC, nC, xC⟩ := hc
  refine toS (ps_try_as (tb := fun W => fun D σ' H' => ∀ pn xe, Takes (X.tr pn xe) W → wpSs (X.tr pn xe) [st₀] D σ' H')
    (ts := fun a cls d => fun D σ' H' => ∀ oe pn, Zc cls d oe → (∃ vs, oe.data = .fields vs) → wpSs (X.suite a ((a, oe) :: pn)) (b₀ :: suite) D σ' H') hs hf hN hi hln nC tk ?_ ?_) ?_
  · exact fun W pn xe tk' _ => ⟨fun pins s σ' H' D I h => h pn xe tk' pins s I⟩
  · exact fun a oe cls d pn hz hd => ⟨fun pins s σ' H' D I h => h oe pn hz hd pins s I⟩
  · intro pn xe tk'
    refine toSs (pss_one sS) ((he _ pn xe tk').run σ B H Fs E (fun C' d H2 h1 h2 => ?_) _)
    cases hC.eq h1
    obtain ⟨h2, d, rfl, h3, h4⟩ := h2
    refine ⟨true, xC, fun _ a ha oe pn' hz hd => ?_, fun z => nomatch z⟩
    have nB : B d = none := E.bh.none h3
    have n2 : Nw B H (L2.upd B d (.xd [(fn, fv)])) H2 := ⟨Ex.new nB, fun b u z => by
      by_cases q : b = d
      · subst q
        rw [upd_same] at z
        rw [h4]
        exact z
      · rw [upd_ne q] at z
        exact h2 b u (E.bh b u z), h2, fun b z1 z2 => by
        have : b ≠ d := fun q => z2 (by rw [q]; exact h3)
        rw [upd_ne this]
        exact z1⟩
    have E2 := (E.nw n2).setP (P := errM a d fn fv) (v := .ref a) i ⟨rfl, upd_same⟩
    refine wpSs_mono ((hsu C a d oe pn' hC hz hd).run B0 _ _ H2 _ E2 ((j.nw n2).sub fun _ _ z => off_sub z)) ?_ ?_ ?_ ?_
    · exact fun σ' H' ⟨B', Γ', Fs', e, j, n⟩ => ⟨B', Γ'.set i .any, Fs', e.setN i none, j, n⟩
    · exact fun v H' z => z
    · exact fun σ' H' ⟨B', Γ', Fs', e, j, n⟩ => n.elim
    · exact fun σ' H' ⟨B', Γ', Fs', e, j, n⟩ => n.elim
end
end PL

set_option maxHeartbeats 2000000
namespace PL
open PySem PySem.Spec PyProof.Rows L2 PySem.Calls PySem.W
/-! ### shapes -/
theorem Shp.str {x : Str} (n : Nat) (h : PyData.strOk x = true := by decide +kernel) : Shp n (.str x) := ⟨h, Nat.zero_le _⟩
theorem Shp.tints (ns : List Int) (n : Nat) : Shp (n + 1) (.tuple (ns.map .int)) := Shp.tup fun d hd => by
  obtain ⟨i, _, rfl⟩ := List.mem_map.mp hd
  exact Shp.int i n
theorem ShpA.nil {n : Nat} : ∀ d ∈ ([] : List D), Shp n d := fun d h => nomatch h
theorem ShpA.cons {n : Nat} {d : D} {ds : List D} (h : Shp n d) (t : ∀ x ∈ ds, Shp n x) : ∀ x ∈ d :: ds, Shp n x := fun x hx => by
  rcases List.mem_cons.mp hx with rfl | hx
  · exact h
  · exact t x hx
/-! ### sum and min of a tuple of ints; a tuple's slice -/
def rSumT (K : PySem.W.Frag) : List V → Hp → VK → Prop := fun vs H Q => ∃ (a : Addr) (ns : List Int), vs = [V.ref a] ∧ SqT K H a (ns.map V.int) ∧ Q (.int ns.sum) H
def rMinT (K : PySem.W.Frag) : List V → Hp → VK → Prop := fun vs H Q => ∃ (a : Addr) (n : Int) (ns : List Int), vs = [V.ref a] ∧ SqT K H a ((n :: ns).map V.int) ∧ Q (.int (ns.foldl min n)) H
section
variable {X : Cx} {Γ : Ga} {a : Expr} {p pos : Pos}
theorem cr_sumT (hc : X.calm = true) : CallR X (.builtin "sum") (rSumT X.K) := by
  intro pins s σ H vs us Q I r h
  obtain ⟨a, ns, rfl, hs, q⟩ := h
  obtain ⟨its, rv, ht, _⟩ := I.tuple hs
  rw [Vals.ref1 r]
  have hi := rv.ints
  obtain ⟨xs, e⟩ := hi.allInts.items
  have hn : numsOf (intItems xs).toList = ns := by rw [← e]; exact hi.numsOf
  rw [nums_intItems] at hn
  rw [e] at ht
  refine PySem.W.ktm_sumG (I.ok.hd hc) ht fun h' tk t' hk => ⟨.int _, H, I.kept hk, ?_, q⟩
  rw [preSum_eq, List.take_of_length_le (by simp), hn]
  exact ⟨_, rfl⟩
theorem ints_depth : ∀ ns : List Int, PyData.depthAll (ns.map PyData.int) ≤ 1
  | [] => by simp [PyData.depthAll]
  | n :: r => by
    have := ints_depth r
    simp only [List.map_cons, PyData.depthAll, PyData.depth]
    omega
theorem ints_alike (ns : List Int) : AlikeAll (ns.map PyData.int) := by
  refine ⟨fun x hx y hy => ?_, fun x hx => ?_⟩
  · obtain ⟨i, _, rfl⟩ := List.mem_map.mp hx
    obtain ⟨j, _, rfl⟩ := List.mem_map.mp hy
    rfl
  · obtain ⟨i, _, rfl⟩ := List.mem_map.mp hx
    exact fun h => nomatch h
theorem cr_minT (hu : UOk X) (hc : X.calm = true) : CallR X (.builtin "min") (rMinT X.K) := by
  intro pins s σ H vs us Q I r h
  obtain ⟨a, n, ns, rfl, hs, q⟩ := h
  obtain ⟨its, rv, ht, _⟩ := I.tuple hs
  rw [Vals.ref1 r]
  obtain ⟨as, hr⟩ := Dp.readsAll I _ _ its (dps_ints (n :: ns)) rv
  refine min_tuple_data (I.ok.hd hc) ht hr (ints_alike (n :: ns)) ?_ fun i v h' tk bs hv hR hk => ⟨.int _, H, I.kept hk, ?_, q⟩
  · have := ints_depth (n :: ns)
    have := hu.u65
    have h2 : PyData.depthAll (PyData.int n :: ns.map PyData.int) ≤ 1 := ints_depth (n :: ns)
    omega
  · rw [minD_ints] at hR
    cases hR
    exact ⟨_, rfl⟩
theorem go_sumT {ns : List Int} (hc : X.calm = true) (ha : Go X Γ a (.tuple (ns.map .int))) (hm : X.mg "sum" = none) (hg : Gl X "sum" := by rfl) (he : starEach [a] X.env = (false, eval a X.env) :: starEach [] X.env := by rfl) : Go X Γ (.Call (.Name "sum" p) [a] [] pos) (.int ns.sum) :=
  go_callB (cr_sumT hc) hg hm PyProof.Rows.boot_sum (goA_cons ha goA_nil he) (fun vs B H hB r Q q => by
    obtain ⟨v, rfl, h⟩ := mn1 r
    obtain ⟨p, us, rfl, h2, h3⟩ := dp_tup h
    rw [dps_ints_inv h3] at h2
    exact ⟨p, ns, rfl, hB.st h2, q _ B H (.same hB) (Dp.int _)⟩) (by decide) (by decide) he rfl
theorem go_minT {n : Int} {ns : List Int} (hu : UOk X) (hc : X.calm = true) (ha : Go X Γ a (.tuple ((n :: ns).map .int))) (hm : X.mg "min" = none) (hg : Gl X "min" := by rfl) (he : starEach [a] X.env = (false, eval a X.env) :: starEach [] X.env := by rfl) : Go X Γ (.Call (.Name "min" p) [a] [] pos) (.int (ns.foldl min n)) :=
  go_callB (cr_minT hu hc) hg hm PyProof.Rows.boot_min (goA_cons ha goA_nil he) (fun vs B H hB r Q q => by
    obtain ⟨v, rfl, h⟩ := mn1 r
    obtain ⟨p, us, rfl, h2, h3⟩ := dp_tup h
    rw [dps_ints_inv h3] at h2
    exact ⟨p, n, ns, rfl, hB.st h2, q _ B H (.same hB) (Dp.int _)⟩) (by decide) (by decide) he rfl
theorem slD_whole {ds : List D} {lo hi : Option Int} (hw : HT.sIx ds.length 0 lo = 0 ∧ HT.sIx ds.length ds.length hi = ds.length) : slD ds lo hi = ds := by
  unfold slD
  rw [hw.1, hw.2, List.drop_zero, Nat.sub_zero, List.take_length]
theorem go_slT {ds : List D} {lo hi : Option Expr} {x y : Option Int} {p2 : Pos} (ha : Go X Γ a (.tuple ds)) (hl : GoO X Γ lo x) (hh : GoO X Γ hi y) : Go X Γ (.Subscript a (.Slice lo hi none p2) pos) (.tuple (slD ds x y)) := .mk fun σ B H Fs E Q q =>
  toE (pe_slice sl_tupA sE sO sO) (ha σ B H Fs E _ fun v B1 H1 n1 r1 => goO_run hl (E.nw n1) fun B2 H2 n2 => goO_run hh ((E.nw n1).nw n2) fun B3 H3 n3 => by
    have r3 := dpUp (n2.bb.trans n3.bb) r1
    obtain ⟨p, vs, e1, e2, e3⟩ := dp_tup r3
    have n := (n1.trans n2).trans n3
    subst e1
    refine ⟨p, vs, rfl, n3.bh.st e2, fun hw => ?_, fun hw l hl => ?_⟩
    · rw [dps_len e3] at hw
      rw [slD_whole hw] at q
      exact q _ B3 H3 n r3
    · have m := Nw.new (o := .tup (cutV vs x y)) n.bh hl
      exact q _ _ _ (n.trans m) (Dp.tup (.of upd_same) (dpsUp m.bb (dps_cut e3 x y))))
end
end PL

set_option maxHeartbeats 2000000
/-! the parts of books as the laws k01 - k03 look at them -/
namespace PL
open PySem PySem.Spec PyProof.Rows L2 RZ PySem.W
def noneS : Str := "none"
/-- a drawn book: no part is named none -/
structure BkD (b : Bk) : Prop where
  ok : BkOk b
  m : noneS ∉ b.mn
  c : noneS ∉ b.cn
  a : noneS ∉ b.an
  r : noneS ∉ b.rn
theorem strs_shp {l : List Str} (h : ∀ x ∈ l, isNmB x = true) : Shp 1 (.list (l.map .str)) := Shp.list fun d hd => by
  obtain ⟨x, hx, rfl⟩ := List.mem_map.mp hd
  exact shp_nm (h x hx) 0
theorem lotsh {l ks : List Str} (h : lotOfB l ks = true) : Shp 1 (eL l) := shp_L fun x hx => nm_ok (lot_nm (lotOf h).1 x hx)
theorem shp_mem1 {d : D} {n : Nat} {ds : List D} (h : ∀ e ∈ ds, Shp n e) (hd : d ∈ ds) : Shp n d := h d hd
theorem shp_O {to : Option Str} {ms : List Str} (h : toOk to ms) (hm : ∀ x ∈ ms, isNmB x = true) : Shp 1 (eO to) := by
  cases to with
  | none => exact Shp.non 1
  | some x => exact shp_nm (hm x (h x rfl)) 1
section
variable {b : Bk} (h : BkOk b)
include h
theorem shp_eM {m : Md} (hm : m ∈ b.modes) : Shp 2 (eM m) := by
  obtain ⟨h1, h2, _⟩ := turn_of (h.mT m hm)
  exact Shp.tup (ShpA.cons (shp_nm (h.m.nm _ (List.mem_map.mpr ⟨m, hm, rfl⟩)) 1) (ShpA.cons (lotsh h1) (ShpA.cons (lotsh h2) ShpA.nil)))
theorem shp_eC {m : Cm} (hm : m ∈ b.cmds) : Shp 2 (eC m) := by
  obtain ⟨h1, h2, _⟩ := turn_of (h.cE m hm).1
  exact Shp.tup (ShpA.cons (shp_nm (h.c.nm _ (List.mem_map.mpr ⟨m, hm, rfl⟩)) 1) (ShpA.cons (lotsh (h.cM m hm)) (ShpA.cons (lotsh h1) (ShpA.cons (lotsh h2) (ShpA.cons (shp_O (h.cE m hm).2 h.m.nm) ShpA.nil)))))
theorem shp_eA {m : Al} (hm : m ∈ b.alarms) : Shp 2 (eA m) := by
  obtain ⟨h1, h2, _⟩ := turn_of (h.aE m hm).1
  exact Shp.tup (ShpA.cons (shp_nm (h.a.nm _ (List.mem_map.mpr ⟨m, hm, rfl⟩)) 1) (ShpA.cons (lotsh h1) (ShpA.cons (lotsh h2) (ShpA.cons (shp_O (h.aE m hm).2 h.m.nm) ShpA.nil))))
theorem shp_eR {m : Rw} (hm : m ∈ b.rows) : Shp 3 (eR m) :=
  Shp.tup (ShpA.cons (shp_nm (h.r.nm _ (List.mem_map.mpr ⟨m, hm, rfl⟩)) 2) (ShpA.cons (Shp.tup fun d hd => by
    obtain ⟨s, hs, rfl⟩ := List.mem_map.mp hd
    obtain ⟨_, _, h3⟩ := (h.rS m hm).2.2 s hs
    exact Shp.tup (ShpA.cons (Shp.int _ 0) (ShpA.cons (shp_nm (h.c.nm _ h3) 0) ShpA.nil))) ShpA.nil))
theorem shp_Ms : Shp 3 (.list (b.modes.map eM)) := Shp.list fun d hd => by
  obtain ⟨x, hx, rfl⟩ := List.mem_map.mp hd
  exact shp_eM h hx
theorem shp_Cs : Shp 3 (.list (b.cmds.map eC)) := Shp.list fun d hd => by
  obtain ⟨x, hx, rfl⟩ := List.mem_map.mp hd
  exact shp_eC h hx
theorem shp_CsS : Shp 3 (.list (b.cmdsS.map eC)) := Shp.list fun d hd => by
  obtain ⟨x, hx, rfl⟩ := List.mem_map.mp hd
  exact shp_eC h ((cmds_perm b).mem_iff.mp hx)
theorem shp_As : Shp 3 (.list (b.alarms.map eA)) := Shp.list fun d hd => by
  obtain ⟨x, hx, rfl⟩ := List.mem_map.mp hd
  exact shp_eA h hx
theorem shp_Rs : Shp 4 (.list (b.rows.map eR)) := Shp.list fun d hd => by
  obtain ⟨x, hx, rfl⟩ := List.mem_map.mp hd
  exact shp_eR h hx
theorem shp_Bs : Shp 2 (.list (b.barred.map eL)) := Shp.list fun d hd => by
  obtain ⟨x, hx, rfl⟩ := List.mem_map.mp hd
  exact lotsh (h.b3 x hx).2
theorem shp_BsS : Shp 2 (.list (srt (b.barred.map eL))) := Shp.list fun d hd => by
  obtain ⟨x, hx, rfl⟩ := List.mem_map.mp ((List.mergeSort_perm _ _).mem_iff.mp hd)
  exact lotsh (h.b3 x hx).2
theorem shp_Hs : Shp 1 (.list (b.holds.map .str)) := strs_shp h.h.nm
theorem shp_HsS : Shp 1 (.list ((sortS b.holds).map .str)) := strs_shp fun x hx => h.h.nm x ((sortS_perm _).mem_iff.mp hx)
end
theorem shp_Q : ∀ q : Option Int, Shp 0 (eQ q)
  | none => Shp.non 0
  | some z => Shp.int z 0
/-- the lists of the parts -/
def gv (b : Bk) : List (List D) := [b.holds.map .str, b.modes.map eM, b.barred.map eL, b.cmds.map eC, b.alarms.map eA, b.rows.map eR]
/-- the lists that a book tells -/
def tv (b : Bk) : List (List D) := [(sortS b.holds).map .str, b.modes.map eM, srt (b.barred.map eL), b.cmdsS.map eC, b.alarms.map eA, b.rows.map eR]
def dueD (b : Bk) : D := .tuple [.list ((sortS b.holds).map .str), .list (b.modes.map eM), .list (srt (b.barred.map eL)), .list (b.cmdsS.map eC), .list (b.alarms.map eA), .list (b.rows.map eR), eQ b.quiet]
theorem due_tv (b : Bk) : PyData.tuple ((tv b).map .list ++ [eQ b.quiet]) = dueD b := rfl
theorem shp_due {b : Bk} (h : BkOk b) : Shp 5 (dueD b) := Shp.tup (ShpA.cons ((shp_HsS h).up (by decide)) (ShpA.cons ((shp_Ms h).up (by decide)) (ShpA.cons ((shp_BsS h).up (by decide)) (ShpA.cons ((shp_CsS h).up (by decide)) (ShpA.cons ((shp_As h).up (by decide)) (ShpA.cons ((shp_Rs h).up (by decide)) (ShpA.cons ((shp_Q b.quiet).up (by decide)) ShpA.nil)))))))
theorem gv_shp {b : Bk} (h : BkOk b) {ds : List D} (hd : ds ∈ gv b) : Shp 4 (.list ds) := by
  simp only [gv, List.mem_cons, List.not_mem_nil, or_false] at hd
  rcases hd with rfl | rfl | rfl | rfl | rfl | rfl
  · exact (shp_Hs h).up (by decide)
  · exact (shp_Ms h).up (by decide)
  · exact (shp_Bs h).up (by decide)
  · exact (shp_Cs h).up (by decide)
  · exact (shp_As h).up (by decide)
  · exact shp_Rs h
theorem gv_len {b : Bk} (h : BkOk b) {ds : List D} (hd : ds ∈ gv b) : ds.length ≤ 1000 := by
  have h1 := h.m.hi
  have h2 := h.c.hi
  have h3 := h.a.hi
  have h4 := h.r.hi
  have h5 := h.h.hi
  have h6 := h.b1
  rw [List.length_map] at h1 h2 h3 h4
  simp only [gv, List.mem_cons, List.not_mem_nil, or_false] at hd
  rcases hd with rfl | rfl | rfl | rfl | rfl | rfl <;> rw [List.length_map] <;> omega
theorem tv_len {b : Bk} (h : BkOk b) {ds : List D} (hd : ds ∈ tv b) : ds.length ≤ 1000 := by
  have h1 := h.m.hi
  have h2 := h.c.hi
  have h3 := h.a.hi
  have h4 := h.r.hi
  have h5 := h.h.hi
  have h6 := h.b1
  rw [List.length_map] at h1 h2 h3 h4
  simp only [tv, List.mem_cons, List.not_mem_nil, or_false] at hd
  rcases hd with rfl | rfl | rfl | rfl | rfl | rfl
  · rw [List.length_map, (sortS_perm _).length_eq]; omega
  · rw [List.length_map]; omega
  · rw [(List.mergeSort_perm _ _).length_eq, List.length_map]; omega
  · rw [List.length_map, (cmds_perm b).length_eq]; omega
  · rw [List.length_map]; omega
  · rw [List.length_map]; omega
theorem cmds_srtF (b : Bk) : (b.cmds.map eC).mergeSort (dataLe false fstD) = b.cmdsS.map eC := merge_map eC (le' := fun x y : Cm => leS x.n y.n) (fun x y => dataLe_strs x.n y.n) b.cmds
theorem cmds_fst {b : Bk} (h : BkOk b) : FstOk (b.cmds.map eC) := ⟨fun d hd => by
  obtain ⟨x, _, rfl⟩ := List.mem_map.mp hd
  exact ⟨x.n, _, rfl⟩, by have := h.c.hi; rw [List.length_map] at this ⊢; omega⟩
/-- parts by their names -/
abbrev encP (x : Str × List D) : D := .tuple (.str x.1 :: x.2)
def pM (m : Md) : Str × List D := (m.n, [eL m.on, eL m.off])
def pC (m : Cm) : Str × List D := (m.n, [eL m.ms, eL m.on, eL m.off, eO m.to])
def pA (m : Al) : Str × List D := (m.n, [eL m.on, eL m.off, eO m.to])
def pR (m : Rw) : Str × List D := (m.n, [.tuple (m.st.map eSt)])
theorem get_mode (b : Bk) : getD' b.parts "mode" = some (.list ((b.modes.map pM).map encP)) := by
  rw [List.map_map]
  rfl
theorem get_cmd (b : Bk) : getD' b.parts "command" = some (.list ((b.cmdsS.map pC).map encP)) := by
  rw [List.map_map]
  rfl
theorem get_alarm (b : Bk) : getD' b.parts "alarm" = some (.list ((b.alarms.map pA).map encP)) := by
  rw [List.map_map]
  rfl
theorem get_row (b : Bk) : getD' b.parts "row" = some (.list ((b.rows.map pR).map encP)) := by
  rw [List.map_map]
  rfl
theorem pM_n (b : Bk) : (b.modes.map pM).map (·.1) = b.mn := by
  rw [List.map_map]
  rfl
theorem pC_n (b : Bk) : ((b.cmdsS.map pC).map (·.1)).Perm b.cn := by
  rw [List.map_map]
  exact (cmds_perm b).map Cm.n
theorem pA_n (b : Bk) : (b.alarms.map pA).map (·.1) = b.an := by
  rw [List.map_map]
  rfl
theorem pR_n (b : Bk) : (b.rows.map pR).map (·.1) = b.rn := by
  rw [List.map_map]
  rfl
/-! the book at the bounds, and the smallest one -/
def bBig : Bk where
  holds := ["h5", "h1", "h2", "h3", "h4", "h0"]
  modes := [⟨"m0", ["h0"], ["h1", "h2"]⟩, ⟨"m1", ["h0"], ["h1", "h2"]⟩, ⟨"m2", ["h0"], ["h1", "h2"]⟩, ⟨"m3", ["h0"], ["h1", "h2"]⟩, ⟨"m4", ["h0"], ["h1", "h2"]⟩]
  barred := [["h0", "h1"], ["h1", "h2"], ["h2", "h3"], ["h3", "h4"], ["h4", "h5"], ["h0", "h1", "h2"], ["h0", "h5"], ["h0", "h1", "h2", "h3", "h4", "h5"]]
  cmds := [⟨"c7", ["m0", "m4"], [], ["h5"], some "m2"⟩, ⟨"c6", ["m0", "m4"], [], ["h5"], some "m2"⟩, ⟨"c5", ["m0", "m4"], [], ["h5"], some "m2"⟩, ⟨"c4", ["m0", "m4"], [], ["h5"], some "m2"⟩, ⟨"c3", ["m0", "m4"], [], ["h5"], some "m2"⟩, ⟨"c2", ["m0", "m4"], [], ["h5"], some "m2"⟩, ⟨"c1", ["m0", "m4"], [], ["h5"], some "m2"⟩, ⟨"c0", ["m0", "m4"], [], ["h5"], some "m2"⟩]
  alarms := [⟨"l0", ["h0", "h1", "h2", "h3", "h4", "h5"], [], none⟩, ⟨"l1", ["h0", "h1", "h2", "h3", "h4", "h5"], [], none⟩, ⟨"l2", ["h0", "h1", "h2", "h3", "h4", "h5"], [], none⟩, ⟨"l3", ["h0", "h1", "h2", "h3", "h4", "h5"], [], none⟩]
  rows := [⟨"r0", [(9, "c0"), (1, "c7"), (5, "c0"), (9, "c3")]⟩, ⟨"r1", [(9, "c0"), (1, "c7"), (5, "c0"), (9, "c3")]⟩, ⟨"r2", [(9, "c0"), (1, "c7"), (5, "c0"), (9, "c3")]⟩]
  quiet := some 30
def bMin : Bk := ⟨["a"], [⟨"a", [], []⟩], [], [], [], [], none⟩
def toOkB (to : Option Str) (ms : List Str) : Bool := to.all fun x => decide (x ∈ ms)
theorem toOk_of {to : Option Str} {ms : List Str} (h : toOkB to ms = true) : toOk to ms := fun x hx => by
  subst hx
  exact of_decide_eq_true h
def nmsB (l : List Str) (lo hi : Nat) : Bool := decide (lo ≤ l.length) && decide (l.length ≤ hi) && l.all isNmB && decide l.Nodup
theorem nms_of {l : List Str} {lo hi : Nat} (h : nmsB l lo hi = true) : NmsOk l lo hi := by
  unfold nmsB at h
  simp only [Bool.and_eq_true, decide_eq_true_iff] at h
  exact ⟨h.1.1.1, h.1.1.2, fun x hx => List.all_eq_true.mp h.1.2 x hx, h.2⟩
/-- the rules of books, as a test -/
def bkB (b : Bk) : Bool := nmsB b.holds 1 6 && nmsB b.mn 1 5 && nmsB b.cn 0 8 && nmsB b.an 0 4 && nmsB b.rn 0 3 && (b.modes.all fun m => turnB m.on m.off b.holds) && (b.cmds.all fun c => lotOfB c.ms b.mn) && (b.cmds.all fun c => turnB c.on c.off b.holds && toOkB c.to b.mn) &&
  (b.alarms.all fun c => turnB c.on c.off b.holds && toOkB c.to b.mn) && (b.rows.all fun r => decide (1 ≤ r.st.length) && decide (r.st.length ≤ 4) && r.st.all fun s => decide (1 ≤ s.1) && decide (s.1 ≤ 9) && decide (s.2 ∈ b.cn)) && (b.quiet.all fun q => decide (1 ≤ q) && decide (q ≤ 30)) &&
  decide (b.barred.length ≤ 8) && decide b.barred.Nodup && (b.barred.all fun l => decide (2 ≤ l.length) && lotOfB l b.holds)
theorem bk_of {b : Bk} (h : bkB b = true) : BkOk b := by
  unfold bkB at h
  simp only [Bool.and_eq_true, decide_eq_true_iff, List.all_eq_true] at h
  obtain ⟨⟨⟨⟨⟨⟨⟨⟨⟨⟨⟨⟨⟨h1, h2⟩, h3⟩, h4⟩, h5⟩, h6⟩, h7⟩, h8⟩, h9⟩, h10⟩, h11⟩, h12⟩, h13⟩, h14⟩ := h
  exact ⟨nms_of h1, nms_of h2, nms_of h3, nms_of h4, nms_of h5, h6, h7, fun c hc => ⟨(h8 c hc).1, toOk_of (h8 c hc).2⟩, fun c hc => ⟨(h9 c hc).1, toOk_of (h9 c hc).2⟩, fun r hr => ⟨(h10 r hr).1.1, (h10 r hr).1.2, fun s hs => ⟨((h10 r hr).2 s hs).1.1, ((h10 r hr).2 s hs).1.2, ((h10 r hr).2 s hs).2⟩⟩, fun q hq => by
    rw [hq] at h11
    have h11 : (decide (1 ≤ q) && decide (q ≤ 30)) = true := h11
    rw [Bool.and_eq_true, decide_eq_true_iff, decide_eq_true_iff] at h11
    exact h11, h12, h13, h14⟩
theorem big_ok : BkD bBig := ⟨bk_of (by decide +kernel), by decide +kernel, by decide +kernel, by decide +kernel, by decide +kernel⟩
theorem min_ok : BkD bMin := ⟨bk_of (by decide +kernel), by decide +kernel, by decide +kernel, by decide +kernel, by decide +kernel⟩
end PL

set_option maxHeartbeats 2000000
namespace PL
open PySem PySem.Spec PyProof.Rows L2
theorem goi_is {X : Cx} {Γ : Ga} {tg it : Expr} {ds ds' : List D} (h : GoI X Γ tg it ds) (e : ds = ds') : GoI X Γ tg it ds' := e ▸ h
theorem dats_is (b : Nat) : ((rngI 0 ((pls b : Nat) : Int)).filter fun x => !hasD ((nz (chks b)).map .int) (.int x)) = nz (dat b) := by
  rw [rng0, List.filter_map]
  refine congrArg (List.map _) (List.filter_congr fun p _ => ?_)
  show (!hasD ((nz (chks b)).map .int) (.int ((p : Nat) : Int))) = _
  rw [hasD_ints, nz_has]
theorem enum_at {l : List Nat} {k : Nat} {d : D} (h : (enumD ((nz l).map .int))[k]? = some d) : ∃ p, l[k]? = some p ∧ d = .tuple [nat k, nat p] := by
  unfold enumD at h
  rw [List.getElem?_map, List.getElem?_zipIdx] at h
  cases q : ((nz l).map PyData.int)[k]? with
  | none => rw [q] at h; cases h
  | some p =>
    rw [q] at h
    obtain ⟨p, hp, rfl⟩ := nz_at q
    refine ⟨p, hp, ?_⟩
    have := (Option.some.inj h).symm
    rw [this]
    show PyData.tuple [.int ((0 + k : Nat) : Int), _] = _
    rw [Nat.zero_add]
theorem enum_len (l : List D) : (enumD l).length = l.length := by
  unfold enumD
  rw [List.length_map, List.length_zipIdx]
theorem enum_dat {b : Nat} (h : 4 ≤ b ∧ b ≤ 32) : enumD ((nz (dat b)).map .int) = (List.range b).map fun k => .tuple [nat k, nat (dat_ b k)] := by
  refine List.ext_getElem? fun k => ?_
  by_cases hk : k < b
  · have hl : k < (enumD ((nz (dat b)).map .int)).length := by rw [enum_len, nz_len, (dat_len h).1]; exact hk
    obtain ⟨p, hp, e⟩ := enum_at (List.getElem?_eq_getElem hl)
    rw [List.getElem?_eq_getElem hl, e, List.getElem?_map, List.getElem?_range hk]
    rw [(dat_at h hk).1] at hp
    rw [← Option.some.inj hp]
    rfl
  · rw [List.getElem?_eq_none (by rw [enum_len, nz_len, (dat_len h).1]; omega), List.getElem?_eq_none (by rw [List.length_map, List.length_range]; omega)]
theorem ofP_push {l : List Nat} {p : Nat} (nd : (l ++ [p]).Nodup) : ofP l ||| 2 ^ p = ofP (l ++ [p]) := Nat.eq_of_testBit_eq fun i => by
  rw [Nat.testBit_or, Nat.testBit_two_pow, tb_ofP nd, tb_ofP (List.nodup_append.mp nd).1]
  by_cases e : p = i
  · subst e
    simp
  · simp [e, Ne.symm e]
/-- the part of the ones that the first k digits bring -/
def onK (b v k : Nat) : List Nat := ((List.range k).filter fun j => v.testBit j).map (dat_ b)
theorem onK_end {b v : Nat} (h : 4 ≤ b ∧ b ≤ 32) (hv : v < 2 ^ b) : onK b v b = on1 b v := by
  unfold onK on1
  rw [← dig_is hv (by omega)]
  rfl
theorem onK_step {b v k : Nat} (h : 4 ≤ b ∧ b ≤ 32) (hk : k < b) : Builtin.bitOr ((ofP (onK b v k) : Nat) : Int) (Builtin.bitAnd ((v : Int) / 2 ^ k) 1 * 2 ^ dat_ b k) = ((ofP (onK b v (k + 1)) : Nat) : Int) := by
  rw [bit1_n]
  have e : onK b v (k + 1) = onK b v k ++ (if v.testBit k = true then [dat_ b k] else []) := by
    unfold onK
    rw [List.range_succ, List.filter_append, List.map_append]
    congr 1
    by_cases q : v.testBit k = true
    · rw [if_pos q, List.filter_cons_of_pos q]
      rfl
    · rw [if_neg q, List.filter_cons_of_neg q]
      rfl
  rw [e]
  by_cases q : v.testBit k = true
  · rw [if_pos q, if_pos q, Int.one_mul, pow_cast, bOr_n, ofP_push]
    have : onK b v k ++ [dat_ b k] = ((List.range (k + 1)).filter fun j => decide (j = k) || v.testBit j).map (dat_ b) := by
      rw [List.range_succ, List.filter_append, List.map_append, List.filter_cons_of_pos (by simp)]
      congr 1
      unfold onK
      refine congrArg _ (List.filter_congr fun j hj => ?_)
      have := List.mem_range.mp hj
      rw [decide_eq_false (by omega)]
      rfl
    rw [this]
    refine List.pairwise_map.mpr (List.Pairwise.imp_of_mem (fun hx hy ne e => ne ?_) (List.nodup_range.filter _))
    have h1 := List.mem_range.mp (List.mem_filter.mp hx).1
    have h2 := List.mem_range.mp (List.mem_filter.mp hy).1
    exact dat_inj h (by omega) (by omega) e
  · rw [if_neg q, if_neg q, Int.zero_mul, List.append_nil]
    have : (0 : Int) = ((0 : Nat) : Int) := rfl
    rw [this, bOr_n, Nat.or_zero]
theorem pow2pow (p : Nat) : (1 * (2 : Int) ^ (1 * (2 : Int) ^ p).toNat) = ((2 ^ (2 ^ p) : Nat) : Int) := by
  rw [Int.one_mul, Int.one_mul, pow_cast p, Int.toNat_natCast, pow_cast]
theorem cks_is {b v : Nat} (h : 4 ≤ b ∧ b ≤ 32) (hv : v < 2 ^ b) : cks (tO b) (s1 b v) = (dig (s1 b v)).map fun k => 2 ^ k := by
  have := tO_le b
  rw [← dig_is (s1_lt h hv) (by omega)]
  rfl
theorem s1_dig {b v p : Nat} (h : 4 ≤ b ∧ b ≤ 32) (hv : v < 2 ^ b) (hp : p ∈ dig (s1 b v)) : p < 6 := by
  have := tO_le b
  rw [← dig_is (s1_lt h hv) (by omega)] at hp
  have := (bitsOf_mem.mp hp).1
  omega
theorem cks_step {b v k p : Nat} (h : 4 ≤ b ∧ b ≤ 32) (hv : v < 2 ^ b) (hp : (dig (s1 b v))[k]? = some p) :
    Builtin.bitOr ((ofP (on1 b v ++ ((dig (s1 b v)).take k).map fun k => 2 ^ k) : Nat) : Int) (1 * (2 : Int) ^ (1 * (2 : Int) ^ p).toNat) = ((ofP (on1 b v ++ ((dig (s1 b v)).take (k + 1)).map fun k => 2 ^ k) : Nat) : Int) := by
  rw [pow2pow, bOr_n, take_push hp, List.map_append, ← List.append_assoc]
  refine congrArg _ (ofP_push ?_)
  have nd := on2_nodup h hv
  unfold on2 at nd
  rw [cks_is h hv] at nd
  refine nd.sublist ?_
  have : on1 b v ++ (((dig (s1 b v)).take k).map fun k => 2 ^ k) ++ [2 ^ p] = on1 b v ++ ((dig (s1 b v)).take (k + 1)).map fun k => 2 ^ k := by
    rw [take_push hp, List.map_append, ← List.append_assoc]
    rfl
  rw [this]
  exact (List.append_sublist_append_left _).mpr ((List.take_sublist _ _).map _)
theorem code_last {b v : Nat} (h : 4 ≤ b ∧ b ≤ 32) (hv : v < 2 ^ b) : Builtin.bitOr ((ofP (on2 b v) : Nat) : Int) (((dig (ofP (on2 b v))).length : Nat) % 2 : Int) = ((codeN b v : Nat) : Int) := by
  rw [len_ofP (on2_nodup h hv) fun p hp => (on2_mem h hv hp).1]
  have nd := on3_nodup h hv
  unfold codeN
  unfold on3 at nd ⊢
  by_cases q : (on2 b v).length % 2 = 1
  · rw [if_pos q] at nd ⊢
    have : (((on2 b v).length : Nat) % 2 : Int) = ((2 ^ 0 : Nat) : Int) := by omega
    rw [this, bOr_n, ofP_push nd]
  · rw [if_neg q, List.append_nil]
    have : (((on2 b v).length : Nat) % 2 : Int) = ((0 : Nat) : Int) := by omega
    rw [this, bOr_n, Nat.or_zero]
theorem on2_64 {b v : Nat} (h : 4 ≤ b ∧ b ≤ 32) (hv : v < 2 ^ b) : ofP (on2 b v) < 2 ^ 64 := ofP_lt (on2_nodup h hv) fun p hp => (on2_mem h hv hp).1
theorem on1_64 {b v : Nat} (h : 4 ≤ b ∧ b ≤ 32) (hv : v < 2 ^ b) : ofP (on1 b v) < 2 ^ 64 := ofP_lt (on1_nodup h hv) fun p hp => on1_lt h hv hp
theorem sum_bits {f : Nat → Int} {q : Nat → Bool} (l : List Nat) (h : ∀ k ∈ l, f k = (if q k = true then 1 else 0) * 2 ^ k) : sumI (l.map fun k => PyData.int (f k)) = ((ofP (l.filter q) : Nat) : Int) := by
  induction l with
  | nil => rfl
  | cons k r ih =>
    rw [List.map_cons]
    show f k + sumI _ = _
    rw [ih fun j hj => h j (List.mem_cons_of_mem _ hj), h k List.mem_cons_self]
    by_cases z : q k = true
    · rw [if_pos z, List.filter_cons_of_pos z, Int.one_mul, pow_cast]
      rfl
    · rw [if_neg z, List.filter_cons_of_neg z, Int.zero_mul, Int.zero_add]
theorem val_sum (b row : Nat) : sumI ((List.range b).map fun k => PyData.int (Builtin.bitAnd ((row : Int) / 2 ^ dat_ b k) 1 * 2 ^ k)) = ((valN b row : Nat) : Int) :=
  sum_bits (q := fun j => row.testBit (dat_ b j)) _ fun k _ => by rw [bit1_n]
theorem bit1_small (row p : Nat) : (Builtin.bitAnd ((row : Int) / 2 ^ p) 1).natAbs < 2 ^ 64 := by
  rw [bit1_n]
  split <;> decide
end PL

set_option maxHeartbeats 2000000
/-! An own exception whose __init__ says super().__init__(text) and keeps one field (after the kit's skeleton 42; the first statement is walked at the known activation). -/
namespace PySem
namespace SupX
open PySem.W PySem.Calls PyProof.Rows PySem.HandSPX
theorem one_size (v : Value) : [v].length ≤ sizeLine := by
  rw [sizeLine_eq]
  exact (by decide : 1 ≤ 16777216)
/-! ### the text of __init__ -/
def iA (p1 p2 : Pos) : Arguments := { posonlyargs := [], args := [{ arg := "self", annotation := none, pos := p1 }, { arg := "name", annotation := none, pos := p2 }], vararg := none, kwonlyargs := [], kw_defaults := [], kwarg := none, defaults := [] }
def iE (m : Str) (j : Nat) : Stmt := .Expr (.Call (.Attribute (.Call (.Name "super" ⟨12, 8, 12, 13⟩) [] [] ⟨12, 8, 12, 15⟩) "__init__" ⟨12, 8, 12, 24⟩) [.Constant (.str m) j ⟨12, 25, 12, 46⟩] [] ⟨12, 8, 12, 47⟩) ⟨12, 8, 12, 47⟩
def iT : Stmt := .Assign [.Attribute (.Name "self" ⟨13, 8, 13, 12⟩) "name" ⟨13, 8, 13, 17⟩] (.Name "name" ⟨13, 20, 13, 24⟩) ⟨13, 8, 13, 24⟩
def iB (m : Str) (j : Nat) : List Stmt := [iE m j, iT]
def iS : Scope := { kind := .function, names := [(PySem.Str.ofString "self", .local), (PySem.Str.ofString "name", .local), (PySem.Str.ofString "__class__", .free), (PySem.Str.ofString "super", .globalImplicit)], isGenerator := false, isCoroutine := false, more := [] }
/-- what the written part says of the class at C, and of its __init__, at fI -/
structure Txt (P : Program) (K : Frag) (mg : Str → Option Value) (C fI : Addr) : Prop where
  gC : mg "UnknownName" = some (.ref C)
  cls : ∃ nm q N bs bm sn sub ab col dd k0 k1 k2 k3 k5, K.lookup C = some (excClassObj nm q C N bs bm true sn sub ab col dd k0 k1 k2 k3 k5 "ValueError.__new__") ∧ refsVE bm = true
  sa : findIn K (.ref C) "__setattr__" = some (some (.builtin "object.__setattr__"))
  ga : findIn K (.ref C) "__getattribute__" = some (some (.builtin "BaseException.__getattribute__"))
  gg : findIn K (.ref C) "__getattr__" = some none
  noN : findIn K (.ref C) "name" = some none
  iC : findIn K (.ref C) "__init__" = some (some (.ref fI))
  tC : typeIn K (.ref fI) = some (.type "function")
  kC : keepIn K (.ref C) = true
  exC : subIn K (.ref C) (.type "BaseException") = some true
  veC : subIn K (.ref C) (.type "ValueError") = some true
  tyC : typeIn K (.ref C) = some (.type "type")
  hdC : hasDictIn K C = true
  te : exmOne K (.ref C) (.ref C) = some true
  su : ks_superIn K C C "__init__" = some (some (.builtin "ValueError.__init__"))
  ei : excInitIn K C [.type "ValueError", .type "Exception", .type "BaseException", .type "object"] "ValueError.__new__" = true
  mro : mroIn K C (.ref C) = some true
  op : nsIn K cStatics "thirdparty.any" = some none
  gS : mg "super" = none
  tp : (P.main.scope.names.lookup ("super" : Str)).isSome = false
  fn : ∃ (oc : Value) (od : Option Addr) (doc pm : Value) (an : Option Addr) (cda cc : Addr) (ct : Value) (osl : Array (Option Value)) (m : Str) (j : Nat) (p1 p2 : Pos) (ccl cl : Value) (cdd cld : Option Addr) (vs : Array Value) (ccs csl : Array (Option Value)) (file : Str) (tf : Tok),
    K.lookup fI = some ⟨oc, od, .func (ksFn "__init__" "UnknownName.__init__" (iA p1 p2) (iB m j) iS .none .none doc pm an (.ref cda) ct cc), osl⟩ ∧ codeIn K (.ref cda) "UnknownName.__init__" = true ∧
      K.lookup cda = some ⟨ccl, cdd, .fields vs, ccs⟩ ∧ vs[2]? = some (.str file tf) ∧ ((P.main.file : Str) == file) = true ∧ K.lookup cc = some ⟨cl, cld, .cell (some (.ref C)), csl⟩
/-- what __init__ leaves of a fresh exception at x -/
structure InitEnd (h h' : Heap) (x C dx t1 : Addr) (v : Value) : Prop where
  keep : ∀ b o, b ≠ x → h.get? b = some o → h'.get? b = some o
  obj : h'.get? x = some { cls := .ref C, dict := some dx, data := .fields #[.ref t1, .none, .none, .none, .bool false, .none] }
  dbig : h.objs.size ≤ dx
  dne : dx ≠ x
  ns : h'.Ns1 dx (fun y => if y = "name" then some v else none)
/-- a made one -/
structure OwnMade (h h' : Heap) (e C d : Addr) (v : Value) : Prop where
  keep : ∀ b o, h.get? b = some o → h'.get? b = some o
  new : h.objs.size ≤ e
  obj : ∃ oe vs, h'.get? e = some oe ∧ oe.cls = .ref C ∧ oe.dict = some d ∧ oe.data = .fields vs ∧ vs[1]? = some .none
  dbig : h.objs.size ≤ d
  dne : d ≠ e
  ns : h'.Ns1 d (fun y => if y = "name" then some v else none)
section
variable {prog : Program} {w : World} {A : Around} {E : Value → Shared → Prop} {R : Result → Shared → Prop} {s : Shared} {K : Frag} {mg : Str → Option Value} {C fI : Addr}
theorem sup_init (T : Txt prog K mg C fI) {x t0 : Addr} {v : Value} (X : K.In s.heap) (hlim : s.heap.NoLimit) (hg : s.heap.Ns mainGlobals mg) (hbl : ∃ mb, s.heap.Ns builtinsNs mb ∧ ∀ x : Str, x ≠ "__name__" → mb x = bootBuiltins x)
    (hx : s.heap.get? x = some (excO C t0)) (hnx : K.lookup x = none) (hroom : A.depth < recursionLimit)
    (hq : ∀ h' tk dx t1, InitEnd s.heap h' x C dx t1 v → R (.ok (.ret .none)) { s with heap := h', toks := tk }) :
    codeAny (model prog w) A (.call (.ref fI) ⟨[.ref x, v], []⟩) R s := by
  obtain ⟨oc, od, doc, pm, an, cda, cc, ct, osl, m, j, p1, p2, ccl, cl, cdd, cld, vs, ccs, csl, file, tf, ho, hcd, hcode, hvs, hfile, hcell⟩ := T.fn
  obtain ⟨nm, q, N, bs, bm, sn, sub, ab, col, dd, k0, k1, k2, k3, k5, hC, hbm⟩ := T.cls
  have hcl : clsIn K C = some { name := nm, bases := bs, mro := .ref C :: bm, ns := N, qualname := q, hasDict := true, slotNames := sn, subclasses := sub, abstract := ab, collection := col, hasDel := false } := by unfold clsIn; rw [hC] <;> rfl
  refine ks_codeAny_call_defAt (fd := ksFn "__init__" "UnknownName.__init__" (iA p1 p2) (iB m j) iS .none .none doc pm an (.ref cda) ct cc) (body := iB m j) (binds := [("self", .ref x), ("name", v)])
    hroom (X _ _ ho) rfl hlim (codeRec_of X hcd) rfl (BindsTo.of_eq (by first | rfl | with_unfolding_all rfl)) (show ∀ y ∈ iS.names, y.2 ≠ .cell by decide) (by intro y hy; rcases List.mem_cons.mp hy with rfl | hy; exact rfl; rw [List.mem_singleton.mp hy]; rfl) (fun h₁ hns k => ?_) rfl rfl rfl
  have hxL : s.heap.objs.size ≠ x := Nat.ne_of_gt (Heap.lt_size hx)
  have X₁ : K.In h₁ := X.keeps k
  have hx₁ := k _ _ hx
  obtain ⟨mb, hb1, hb2⟩ := hbl
  -- super().__init__(text)
  refine ks_wpAt_execs_cons (ks_wpAt_Expr_any (ks_wpAt_MethodCall ?_))
  refine ks_wpAt_super_base (env := ksEnv "UnknownName.__init__" iS s.heap.objs.size fI (.ref cda) cc) rfl rfl (by decide) rfl (X₁ _ _ ho) rfl rfl rfl (X₁ _ _ hcode) rfl hvs hfile T.tp ?_
  refine ks_loadName_global rfl rfl (loadGlobal_builtin (env := ksEnv "UnknownName.__init__" iS s.heap.objs.size fI (.ref cda) cc) (hg.keeps k) T.gS (hb1.keeps k) ((hb2 _ (by decide +kernel)).trans (by first | decide +kernel | rfl)) ⟨rfl, ?_⟩)
  refine wpAny_loadName_free rfl rfl rfl ⟨_, X₁ _ _ hcell, rfl⟩ ?_
  refine wpAny_loadName_local (v := .ref x) rfl rfl hns (by first | rfl | with_unfolding_all rfl | kernel_rfl) ?_
  refine ks_wpAny_isType_cls (X₁ _ _ hC) rfl ⟨rfl, ?_⟩
  refine ks_wpAny_call_super (X₁ _ _ hC) rfl hx₁ rfl (fun c e => nomatch e) (looks_mroIn X₁ T.mro) (fun h₂ e₂ k₂ => ?_)
  have X₂ : K.In h₂ := X₁.keeps k₂
  have I₂ : InstAt h₂ x (excO C t0) C none := ⟨k₂ _ _ hx₁, rfl, rfl, trivial⟩
  have hsu : alongIn K "__init__" (((Value.ref C :: bm).dropWhile (· != .ref C)).drop 1) = some (some (.builtin "ValueError.__init__")) := by
    have := T.su
    unfold ks_superIn at this
    rw [hcl] at this
    exact this
  refine kxs_getMethod kxs_ValueError e₂ (looks_opaque X₂ T.op) (l₀ := .ref C :: bm) (fun A Q E s k q => wpAny_bind ((looks_clsIn X₂ hcl) A _ E s k (wpAny_pure q))) rfl X₂ hsu (I₂.type.andThen (looks_subIn X₂ T.veC)) (ks_ne X₂ I₂ hcl) (by decide) ?_
  generalize hu : h₂.objs.size = u
  have hn₂ : h₂.Ns s.heap.objs.size _ := hns.keeps k₂
  have k₃ : ∀ b o, h₂.get? b = some o → (h₂.push (kxs_mw "ValueError.__init__" x)).get? b = some o := fun b o e => Heap.get?_push_of_some _ e
  have hmw : (h₂.push (kxs_mw "ValueError.__init__" x)).get? u = some (kxs_mw "ValueError.__init__" x) := by rw [← hu]; exact Heap.get?_push_at rfl rfl
  have hux : u ≠ x := Nat.ne_of_gt (by rw [← hu]; exact Heap.lt_size (k₂ _ _ hx₁))
  have huL : u ≠ s.heap.objs.size := Nat.ne_of_gt (by rw [← hu]; exact hn₂.lt)
  have hus : s.heap.objs.size ≤ u := Nat.le_of_lt (by rw [← hu]; exact hn₂.lt)
  refine kxs_callWith (i := "ValueError.__init__") (x := x) rfl (evalArgs_plain (PyProof.Rows.args_cons (Calls.Constant_str (PyProof.Rows.args_nil ⟨hmw, ?_⟩)) rfl))
  -- the built-in one, called
  have kk : ∀ b o, s.heap.get? b = some o → (h₂.push (kxs_mw "ValueError.__init__" x)).get? b = some o := fun b o e => k₃ b o (k₂ b o (k b o e))
  have F₃ : Fr (hideAll s.heap [x]) s.heap.objs.size (h₂.push (kxs_mw "ValueError.__init__" x)) _ := ⟨hn₂.keeps k₃, fun b o e => kk b o (of_hideAll _ e), Nat.le_of_eq (hideAll_size _ _)⟩
  have X₀ : K.In (hideAll s.heap [x]) := fun a o e => hideAll_get [x] (X a o e) (fun z => by rw [List.mem_singleton.mp z, hnx] at e; cases e)
  have hun : (hideAll s.heap [x]).get? u = none := by
    cases z : (hideAll s.heap [x]).get? u with
    | none => rfl
    | some o => exact absurd (Heap.lt_size (of_hideAll _ z)) (Nat.not_lt.mpr hus)
  have N₃ : News (hideAll s.heap [x]) s.heap.objs.size (h₂.push (kxs_mw "ValueError.__init__" x)) [(x, excO C t0), (u, kxs_mw "ValueError.__init__" x)] := fun p hp => by
    rcases List.mem_cons.mp hp with rfl | hp
    · exact ⟨k₃ _ _ (k₂ _ _ hx₁), Ne.symm hxL, hideAll_none _ List.mem_cons_self⟩
    · rw [List.mem_singleton.mp hp]
      exact ⟨hmw, huL, hun⟩
  refine kxs_call (i := "ValueError.__init__") (t := t0) (dv := none) (c2 := .none) F₃ X₀ N₃ F.excBase_ValueError T.ei (List.mem_cons_of_mem _ List.mem_cons_self) (.head (fun p hp => by rw [List.mem_singleton.mp hp]; exact hux)) (one_size _) (fun t1 h₄ F₄ N₄ _ => ?_)
  have hx₄ := (N₄ (x, excO C t1) (by simp)).1
  have k₄ : ∀ b o, b ≠ x → s.heap.get? b = some o → h₄.get? b = some o := fun b o hb e => F₄.keep b o (hideAll_get [x] e (fun z => hb (List.mem_singleton.mp z)))
  have X₄ : K.In h₄ := X₀.keeps F₄.keep
  have hn₄ := F₄.ns
  -- self.f = f
  refine wpAt_of_wpAny ?_
  refine wpAny_execs_cons (plainObj_wpAny_Assign_Attribute ?_)
  refine wpAny_Name (wpAny_loadName_local (v := v) rfl rfl hn₄ (by first | rfl | with_unfolding_all rfl | kernel_rfl) ?_) (by decide)
  refine wpAny_Name (wpAny_loadName_local (v := .ref x) rfl rfl hn₄ (by first | rfl | with_unfolding_all rfl | kernel_rfl) ?_) (by decide)
  refine set_plain X₄ (ox := excO C t1) (od := none) ⟨hx₄, rfl, rfl, trivial⟩ T.sa ?_
  refine exc_osa X₄ hx₄ hcl (show refsVE (.ref C :: bm) = true from hbm) rfl T.noN (fun h₅ tk₅ dx k₅ dn dne hx₅ hn₅ => ?_)
  show wpAny _ _ (execs _ _) _ _ _
  have z : s.heap.objs.size < h₄.objs.size := hn₄.lt
  exact wpAny_execs_nil (hq h₅ tk₅ dx t1 ⟨fun b o hb e => k₅ b o hb (k₄ b o hb e), hx₅, Nat.le_of_lt (Nat.lt_of_lt_of_le z dn), dne, hn₅⟩)
end
end SupX
end PySem
namespace PySem
namespace SupX
open PySem.W PySem.Calls PyProof.Rows PySem.HandSPX
section
variable {prog : Program} {w : World} {A : Around} {E : Value → Shared → Prop} {R : Result → Shared → Prop} {s : Shared} {K : Frag} {mg : Str → Option Value} {C fI : Addr}
theorem sup_made (T : Txt prog K mg C fI) {v : Value} (X : K.In s.heap) (hlim : s.heap.NoLimit) (hg : s.heap.Ns mainGlobals mg) (hbl : ∃ mb, s.heap.Ns builtinsNs mb ∧ ∀ x : Str, x ≠ "__name__" → mb x = bootBuiltins x) (hroom : A.depth + 1 < recursionLimit)
    (hq : ∀ h' tk e d, OwnMade s.heap h' e C d v → R (.ok (.ret (.ref e))) { s with heap := h', toks := tk }) :
    codeAny (model prog w) A (.call (.ref C) ⟨[v], []⟩) R s := by
  obtain ⟨nm, q, N, bs, bm, sn, sub, ab, col, dd, k0, k1, k2, k3, k5, hC, hbm⟩ := T.cls
  obtain ⟨hp, g, dr, tk, os⟩ := s
  have k : ∀ b o, hp.get? b = some o → ((hp.push (kdv_tup [v])).push (excO C hp.objs.size)).get? b = some o := fun b o e => Heap.get?_push_of_some _ (Heap.get?_push_of_some _ e)
  have hget : ((hp.push (kdv_tup [v])).push (excO C hp.objs.size)).get? (hp.objs.size + 1) = some (excO C hp.objs.size) := by heap_get
  have hnx : K.lookup (hp.objs.size + 1) = none := by
    cases e : K.lookup (hp.objs.size + 1) with
    | none => rfl
    | some o =>
      have z : hp.get? (hp.objs.size + 1) = some o := X _ _ e
      exact absurd (Nat.lt_of_succ_lt (Heap.lt_size z)) (Nat.lt_irrefl _)
  obtain ⟨mb, hb1, hb2⟩ := hbl
  refine call_own F.excBase_ValueError (fun X => refsVE_contains X bm hbm) (X _ _ hC) (looks_findIn X T.iC) (fun self => bind_fn X self T.tC) (one_size v) ?_
  refine sup_init (s := ⟨(hp.push (kdv_tup [v])).push (excO C hp.objs.size), g, dr, tk, os⟩) T (X.keeps k) (hlim.keeps k) (hg.keeps k) ⟨mb, hb1.keeps k, hb2⟩ hget hnx ?_ fun h' tk' dx t1 ⟨k', hx, dn, dne, hns⟩ => ?_
  · show A.depth + 1 < recursionLimit
    exact hroom
  · have old : ∀ b o, hp.get? b = some o → h'.get? b = some o := fun b o e => k' b o (Nat.ne_of_lt (Nat.lt_succ_of_lt (Heap.lt_size e))) (k b o e)
    have z : hp.objs.size + 1 + 1 ≤ dx := by
      first
        | (simpa only [Heap.size_push] using dn)
        | exact dn
        | (have q := dn; rw [Heap.size_push, Heap.size_push] at q; exact q)
    exact ⟨rfl, hq h' tk' (hp.objs.size + 1) dx ⟨old, Nat.le_succ _, ⟨_, _, hx, rfl, rfl, rfl, rfl⟩, Nat.le_trans (Nat.le_trans (Nat.le_succ _) (Nat.le_succ _)) z, dne, hns⟩⟩
end
end SupX
end PySem
namespace L2
open PySem PySem.Spec PyProof.Rows
theorem relO_sup {v : V} {v' : Value} (r : RelV v v') (f : Str) : RelO (List.lookup f [(("name" : Str), v)]) (if f = "name" then some v' else none) := by
  by_cases hw : f = "name"
  · subst hw
    rw [if_pos rfl]
    have q : List.lookup ("name" : Str) [(("name" : Str), v)] = some v := by simp [List.lookup]
    rw [q]
    exact r
  · rw [if_neg hw]
    have qw : (f == ("name" : Str)) = false := by simpa using hw
    have q2 : List.lookup f [(("name" : Str), v)] = none := by simp [List.lookup, qw]
    rw [q2]
    trivial
section
variable {X : Cx} {C fI : Addr}
/-- the exception is made: C(e) -/
def tMkS (C : Addr) (ta : TA) : St → Hp → XK → Prop := fun σ H Q => ta σ H fun vs H1 => ∃ v, vs = [v] ∧ ∀ d, H1 d = none → Q (.ref C) (some d) (upd H1 d (.xd [(("name" : Str), v)]))
theorem pmk_sup {a : Expr} {ta : TA} {p pos : Pos} {k : Nat} (T : PySem.SupX.Txt X.prog X.K X.mg C fI) (hr : Room k X.A) (ha : PA X [a] ta) (hg : Gl X "UnknownName" := by rfl)
    (he : starEach (a :: []) X.env = (false, eval a X.env) :: starEach [] X.env := by rfl) (hpl : (backTo pos (starEach [] X.env)).any (·.1) = false := by rfl) :
    PMk X (.Call (.Name "UnknownName" p) [a] [] pos) (tMkS C ta) := by
  intro pins s σ H Q I h
  refine wpAny_Call_Name_kw (ld_glob I hg T.gC ?_)
  refine PySem.W.callWith_K (h₀ := X.base) I.ok.mod.kin T.kC (thn (ha.run pos pins s σ H _ I h) fun us s1 hh => ?_) he hpl
  obtain ⟨vs, H1, I1, r1, v, ev, q1⟩ := hh
  subst ev
  refine ⟨I1.kIn, ?_⟩
  cases r1 with
  | cons rv rn =>
    rename_i v' us'
    cases rn
    show wpAny _ _ (call (.ref C) [v']) _ _ _
    have hlim := I1.nolimit
    have hmg := I1.mod.glob.keeps I1.bk
    obtain ⟨mb, hb1, hb2⟩ := I1.mod.blt
    have hb1 := hb1.keeps I1.bk
    obtain ⟨hp, g, dr, tk, os⟩ := s1
    refine wpAny_call (PySem.SupX.sup_made T I1.kIn hlim hmg ⟨mb, hb1, hb2⟩ (by have := hr.dp; omega) fun h' tk' e d M => ?_)
    show MkP X pins σ Q (.ref e) ⟨h', g, dr, tk', os⟩
    obtain ⟨oe, fv, hoe, hc, hd, hdat, h1⟩ := M.obj
    have hns := M.ns
    obtain ⟨G', g1, g2⟩ := restrict h' fun b => decide (b ≠ e)
    have gk : ∀ b, b ≠ e → G'.get? b = h'.get? b := fun b hb => g1 b (decide_eq_true hb)
    have ge : G'.get? e = none := g2 e (by simp)
    have old : ∀ b o, hp.get? b = some o → G'.get? b = some o := fun b o q => (gk b (Nat.ne_of_lt (Nat.lt_of_lt_of_le (Heap.lt_size q) M.new))).trans (M.keep b o q)
    have ob : ObjOk X.prog X.w (upd H1 d (.xd [(("name" : Str), v)])) G' d (.xd [(("name" : Str), v)]) :=
      ⟨_, hns.at (fun o q => (gk d M.dne).trans q), fun f => relO_sup rv f⟩
    have J : Inv X pins σ (upd H1 d (.xd [(("name" : Str), v)])) ⟨G', g, dr, tk', os⟩ := I1.laid (t' := tk') old M.dbig ob
    refine ⟨e, oe, fv, ⟨G', g, dr, tk', os⟩, _, .ref C, some d, rfl, J, fun b o q => ?_, ge, hoe, ⟨hc, hd⟩, hdat, h1, ?_, rfl, I1.bare, raises_own T.exC T.tyC, q1 d (I1.hok.fresh M.dbig)⟩
    · by_cases hb : b = e
      · have q' : G'.get? b = some o := q
        rw [hb, ge] at q'; cases q'
      · exact (gk b hb).symm.trans q
    · rw [upd_ne (Ne.symm M.dne)]
      exact I1.hok.fresh M.new
/-- raise C(e) -/
def tRaiseS (C : Addr) (W : WX) (ta : TA) : TS := fun _ σ H => tMkS C ta σ H fun cls d H' => W cls d σ H'
theorem ps_raiseS {a : Expr} {ta : TA} {W : WX} {p pos pos2 : Pos} {k : Nat} (hc : X.calm = true) (T : PySem.SupX.Txt X.prog X.K X.mg C fI) (hr : Room k X.A) (tk : Takes X W) (ha : PA X [a] ta) (hg : Gl X "UnknownName" := by rfl)
    (he : starEach (a :: []) X.env = (false, eval a X.env) :: starEach [] X.env := by rfl) (hpl : (backTo pos (starEach [] X.env)).any (·.1) = false := by rfl) :
    PS X (.Raise (some (.Call (.Name "UnknownName" p) [a] [] pos)) none pos2) (tRaiseS C W ta) := ps_raise hc tk (pmk_sup T hr ha hg he hpl)
end
end L2
theorem PySem.SupX.xfT {P : PySem.Program} {K : PySem.W.Frag} {mg : PySem.Str → Option PySem.Value} {C fI : PySem.Addr} (T : PySem.SupX.Txt P K mg C fI) : L2.XfC K C := ⟨T.ga, T.gg, T.exC, T.hdC⟩
namespace PL
open PySem PySem.Spec PyProof.Rows L2
/-- the class UnknownName, as the text tells it -/
structure Xt_UnknownName (P : Program) (K : PySem.W.Frag) (mg : Str → Option Value) : Prop where
  ex : ∃ C fI, ClsAt K "UnknownName" C ∧ PySem.SupX.Txt P K mg C fI
theorem rs_raise_UnknownName {X : Cx} {J : Jd} {N : Nd} {Γ : Ga} {a : Expr} {i : Int} {E : XK} {p pos pos2 : Pos} {k : Nat} (T : Xt_UnknownName X.prog X.K X.mg) (hc : X.calm = true) (hr : Room k X.A) (tk : Takes X fun cls d _ H => E cls d H) (ha : Go X Γ a (.int i)) (hM : J.M = []) (hW : Wish X.K J E "UnknownName" "name" (.int i)) (hg : Gl X "UnknownName" := by rfl)
    (he : starEach (a :: []) X.env = (false, eval a X.env) :: starEach [] X.env := by rfl) (hpl : (backTo pos (starEach [] X.env)).any (·.1) = false := by rfl) : RnS X J N Γ (.Raise (some (.Call (.Name "UnknownName" p) [a] [] pos)) none pos2) := by
  obtain ⟨C, fI, hC, T⟩ := T.ex
  refine .mk fun B0 σ B H Fs En j => toS (ps_raiseS hc T hr tk (pa_cons sE pa_nil he) hg he hpl) (ha σ B H Fs En _ fun v B2 H2 n r => ⟨v, rfl, fun d hd => ?_⟩)
  cases dp_int r
  refine hW C d _ hC (fun b o h => ?_) ?_ upd_same
  · have h2 := n.hh b o (j.h0 b o h (by rw [hM]; exact List.not_mem_nil))
    rw [upd_ne (ne_of_none h2 hd)]
    exact h2
  · cases q : J.H d with
    | none => rfl
    | some o => exact absurd hd fun z => j.h1 d (by rw [q]; exact fun z => nomatch z) (n.hh.none z)
/-- raise UnknownName(e), an error of any kind -/
theorem soe_raise_UnknownName {X : Cx} {Wx : WX} {Γ : Ga} {a : Expr} {d : D} {v : V} {p pos pos2 : Pos} {k : Nat} (T : Xt_UnknownName X.prog X.K X.mg) (hc : X.calm = true) (hr : Room k X.A) (tk : Takes X Wx) (ha : Go X Γ a d) (hv : ∀ B u, Dp X.K B u d → u = v) (hg : Gl X "UnknownName" := by rfl)
    (he : starEach (a :: []) X.env = (false, eval a X.env) :: starEach [] X.env := by rfl) (hpl : (backTo pos (starEach [] X.env)).any (·.1) = false := by rfl) : SoE X Wx Γ (.Raise (some (.Call (.Name "UnknownName" p) [a] [] pos)) none pos2) (erF "UnknownName" "name" v) := by
  obtain ⟨C, fI, hC, T⟩ := T.ex
  refine .mk fun σ B H Fs En hw D => toS (ps_raiseS hc T hr tk (pa_cons sE pa_nil he) hg he hpl) (ha σ B H Fs En _ fun u B2 H2 n r => ⟨u, rfl, fun d hd => ?_⟩)
  rw [hv _ _ r]
  refine hw C (some d) _ hC ⟨fun b o h => ?_, d, rfl, n.hh.none hd, upd_same⟩
  have h2 := n.hh b o h
  rw [upd_ne (ne_of_none h2 hd)]
  exact h2
end PL

set_option maxHeartbeats 4000000
namespace K
open PySem PySem.Spec PyProof.Rows L2 PL
local macro_rules | `(tactic| walk_at "pside") => `(tactic| first | exact True.intro | assumption | omega | decide | (refine ⟨?_, ?_⟩ <;> walk_at "pside") | walk_at "pshp" | (simp only [List.length_map, List.length_cons, List.length_nil, List.length_append, List.length_range, rngI_len]; omega) | (refine leZ ?_; simp only [List.length_map, List.length_cons, List.length_nil, List.length_append, List.length_range, rngI_len]; omega))
local macro_rules | `(tactic| walk_at "pshp") => `(tactic| first | exact Shp.ok (by walk_at "psh") | exact Shp.ok (n := 9) (by walk_at "psh9"))
local macro_rules | `(tactic| walk_at "psh9") => `(tactic| first | exact Shp.int _ _ | exact Shp.bool _ _ | exact Shp.non _ | exact Shp.str _ | exact Shp.ints _ _ | exact Shp.tints _ _ | (refine Shp.tup ?_; walk_at "psha") | (refine Shp.list ?_; walk_at "psha") | exact Shp.up (by assumption) (by decide))
local macro_rules | `(tactic| walk_at "psha") => `(tactic| first | exact ShpA.nil | refine ShpA.cons (by walk_at "psh9") (by walk_at "psha"))
local macro_rules | `(tactic| walk_at "psh") => `(tactic| first | exact Shp.int _ 0 | exact Shp.bool _ 0 | exact Shp.non 0 | assumption | exact Shp.ints _ 0)
local macro_rules | `(tactic| walk_at "pix") => `(tactic| first | exact rfl | assumption | exact atI_nat (by assumption) | exact atI_get' (by assumption) (by omega) | exact IntsD.at (by assumption) (by omega) | exact IntsD.at (n := 3) ⟨[_, _, _], rfl, rfl, fun _ _ => True.intro⟩ (by omega) | exact IntsD.at (n := 2) ⟨[_, _], rfl, rfl, fun _ _ => True.intro⟩ (by omega) | exact IntsD.at (n := 4) ⟨[_, _, _, _], rfl, rfl, fun _ _ => True.intro⟩ (by omega) | exact IntsD.at (n := 5) ⟨[_, _, _, _, _], rfl, rfl, fun _ _ => True.intro⟩ (by omega))
local macro_rules | `(tactic| walk_at "ptru") => `(tactic| exact ⟨fun _ h => (nomatch h), fun _ h => (nomatch h)⟩)
local macro_rules | `(tactic| walk_at "pints") => `(tactic| first | assumption | exact ints_map | exact bools_map)
local macro_rules | `(tactic| walk_at "pS") => `(tactic| first | exact ⟨_, rfl, rfl, by walk_at "pside"⟩ | exact ⟨_, _, rfl, rfl, by walk_at "pside"⟩ | exact ⟨_, _, _, rfl, rfl, by walk_at "pside"⟩ | exact ⟨_, _, _, _, rfl, rfl, by walk_at "pside"⟩ | exact ⟨_, _, _, _, _, rfl, rfl, by walk_at "pside"⟩ | exact ⟨_, _, _, _, rfl, ⟨rfl, rfl, rfl⟩, by walk_at "pside"⟩ | exact ⟨_, _, _, _, rfl, rfl, rfl, rfl, by walk_at "pside"⟩ | exact ⟨_, _, _, _, _, rfl, rfl, rfl, rfl, by walk_at "pside"⟩ | exact ⟨_, _, rfl, rfl, rfl, rfl, by walk_at "pside"⟩)
def topS (i : Nat) : Stmt := PySem.Challenge.pw_farword_k01_books_taken.main.body.getD i (.Pass ⟨0, 0, 0, 0⟩)
/-! ### the law's own numbers -/
abbrev s__law_row : Stmt := topS 22
theorem sc__law_row : FnScope ["_law_cell", "_law_many", "_law_row_here", "_law_rest", "_law_state", "_law_k"] ["_law_cell", "_law_many"] (defScope s__law_row) := ⟨rfl, rfl, rfl, by decide +kernel, rfl, by decide +kernel, by decide +kernel⟩
abbrev s__law_numbers : Stmt := topS 23
theorem sc__law_numbers : FnScope ["_law_script", "_law_many", "_law_cells", "_law_each", "_law_numbers_here", "_law_cell", "_law_number"] ["_law_script", "_law_many"] (defScope s__law_numbers) := ⟨rfl, rfl, rfl, by decide +kernel, rfl, by decide +kernel, by decide +kernel⟩
def Small (x : Int) : Prop := 0 ≤ x ∧ x < 1009
/-- a list of n small numbers -/
def numP (n : Nat) : Mn := exP (IntsD Small n) fun ds => datP (.list ds)
def S__law_row : List Mn → Mn → Prop := fun Ps R => ∃ (c n : Int), Ps = [datP (.int c), datP (.int n)] ∧ R = numP n.toNat ∧ (0 ≤ n ∧ n ≤ 100000)
def S__law_numbers : List Mn → Mn → Prop := fun Ps R => ∃ (ns : List Int) (n : Int), Ps = [datP (.list (ns.map .int)), datP (.int n)] ∧ R = numP n.toNat ∧ (0 ≤ n ∧ n ≤ 10000)
theorem small_mod (z : Int) : Small (z % 1009) := ⟨Int.emod_nonneg _ (by decide), Int.emod_lt_of_pos _ (by decide)⟩
section
variable {P : Program} {w : World} {K : PySem.W.Frag} {mg : Str → Option Value} {base : Heap}
theorem ok__law_row (df : Dfn K mg "_law_row" s__law_row ["_law_cell", "_law_many"])    (bt : Bt mg) : Cal P w K mg base "_law_row" ["_law_cell", "_law_many"] 1 S__law_row := by
  refine cal_ok df sc__law_row ?_ ?_
  · rintro _ _ ⟨c, n, rfl, rfl, _⟩
    rfl
  rintro _ _ ⟨c, n, rfl, rfl, hn⟩ f cdv A outer s H E hr J hJ
  have sb : ∀ z : Int, 0 ≤ z % 2147483647 ∧ z % 2147483647 < 2147483647 := fun z => ⟨Int.emod_nonneg _ (by decide), Int.emod_lt_of_pos _ (by decide)⟩
  refine rn_cons (rs_own 2 (goN_lst god_nil) ?_ sc__law_row.nd)
  refine rn_cons (rs_set 3 go_int ?_ sc__law_row.nd)
  refine rn_cons (rs_cut (fun Γ' => ∃ r : Int, Γ' = [.dat (.int c), .dat (.int n), .own [], .dat (.int r), .any, .any] ∧ 0 ≤ r) (rs_if (gocT (gx_c (.of hr) (go_abs (go_var 0) bt.abs) (gx_bin go_int go_int))) (fun hk => ?_) fun hk => ?_) ?_)
  · skip
    refine rn_cons (rs_set 3 (go_abs (go_var 0) bt.abs) ?_ sc__law_row.nd)
    refine rn_nil ⟨_, rfl, ?_⟩
    split <;> omega
  · skip
    exact rn_nil ⟨0, rfl, by omega⟩
  rintro _ ⟨r, rfl, hr0⟩
  refine rn_cons (rs_set 4 (gx_bin (gx_int bt.int (go_abs (go_var 0) bt.abs)) go_int) ?_ sc__law_row.nd)
  refine rn_cons (rs_for (fun k Γ' => ∃ (ds : List D) (r st : Int) (s5 : Sl), Γ' = [.dat (.int c), .dat (.int n), .own ds, .dat (.int r), .dat (.int st), s5] ∧ IntsD Small k ds ∧ 0 ≤ r ∧ (0 ≤ st ∧ st < 2147483647)) (gx_rng1 bt.range (go_var 1)) ?_ ?_ ?_ rfl)
  · exact ⟨_, _, _, _, rfl, .nil, hr0, sb _⟩
  · rintro k d _ hd ⟨ds, r, st, s5, rfl, h1, h3, h4⟩
    obtain ⟨hk, rfl⟩ := rng_get hd
    have hl : ds.length < 1000000 := by
      rw [h1.len]
      omega
    refine ⟨_, _, (gog_name 5 sc__law_row.nd), ?_⟩
    refine rn_cons (rs_set 4 (gx_bin (gx_int bt.int (gx_bin (gx_bin (gx_bin (go_var 4) go_int) go_int) (gx_bin go_int (go_var 5)))) go_int) ?_ sc__law_row.nd)
    refine rn_cons (rs_if (gocT (gx_c (.of hr) (go_var 3) go_int)) (fun hk => ?_) fun hk => ?_)
    · skip
      refine rn_cons (rs_app 2 rfl (gx_bin (gx_int bt.int (go_var 3)) go_int) (ltZ (by walk_at "pside")) ?_)
      refine rn_cons (rs_set 3 (gx_bin (go_var 3) go_int) ?_ sc__law_row.nd)
      exact rn_nil (rn_nil ⟨_, _, _, _, rfl, h1.push (small_mod _), Int.ediv_nonneg h3 (by decide), sb _⟩)
    · skip
      refine rn_cons (rs_app 2 rfl (gx_bin (gx_int bt.int (gx_bin (go_var 4) go_int)) go_int) (ltZ (by walk_at "pside")) ?_)
      exact rn_nil (rn_nil ⟨_, _, _, _, rfl, h1.push (small_mod _), h3, sb _⟩)
  · rintro _ ⟨ds, r, st, s5, rfl, h1, h3, h4⟩
    rw [rng_len, show n - 0 = n by omega] at h1
    refine rn_ice 2 rfl (by rw [hJ]; exact List.not_mem_nil) (rn_cons (rs_ret (go_ex ds h1 (go_var 2))))
theorem ok__law_numbers (df : Dfn K mg "_law_numbers" s__law_numbers ["_law_script", "_law_many"]) (c__law_row : Cal P w K mg base "_law_row" ["_law_cell", "_law_many"] 1 S__law_row)   (bt : Bt mg) : Cal P w K mg base "_law_numbers" ["_law_script", "_law_many"] 2 S__law_numbers := by
  refine cal_ok df sc__law_numbers ?_ ?_
  · rintro _ _ ⟨c, n, rfl, rfl, _⟩
    rfl
  rintro _ _ ⟨ms, n, rfl, rfl, hn⟩ f cdv A outer s H E hr J hJ
  have hcut := cut63 ms
  have hlen : (ms.take 63).length ≤ 63 := by
    rw [List.length_take]
    omega
  revert hcut hlen
  generalize ms.take 63 = cs
  intro hcut hlen
  refine rn_cons (rs_set 2 (go_is (go_of_new (goN_sl (go_var 0) goO_none (goO_some go_int))) (congrArg PyData.list hcut)) ?_ sc__law_numbers.nd)
  obtain ⟨m, em, hm⟩ : ∃ m : Int, (1 + n / (if ((cs.map PyData.int).length : Int) > 1 then ((cs.map PyData.int).length : Int) else 1)) = m ∧ (0 ≤ m ∧ m ≤ 10001) := by
    have h1 : (1 : Int) ≤ (if ((cs.map PyData.int).length : Int) > 1 then ((cs.map PyData.int).length : Int) else 1) := by split <;> omega
    generalize (if ((cs.map PyData.int).length : Int) > 1 then ((cs.map PyData.int).length : Int) else 1) = q at h1 ⊢
    have h2 : 0 ≤ n / q := Int.ediv_nonneg (by omega) (by omega)
    have h3 : n / q ≤ n := Int.ediv_le_self _ (by omega)
    exact ⟨_, rfl, by omega⟩
  have hq : (0 : Int) < (if ((cs.map PyData.int).length : Int) > 1 then ((cs.map PyData.int).length : Int) else 1) ∧ (if ((cs.map PyData.int).length : Int) > 1 then ((cs.map PyData.int).length : Int) else 1) < 1073741824 := by
    rw [List.length_map]
    split <;> omega
  refine rn_cons (rs_set 3 (go_is (gx_bin go_int (gx_bin (go_var 1) (go_max2 rfl go_int (gx_len bt.len (go_var 2)) bt.max))) (congrArg PyData.int em)) ?_ sc__law_numbers.nd)
  refine rn_cons (rs_own 4 (goN_lst god_nil) ?_ sc__law_numbers.nd)
  have h1009 : Small 0 := ⟨by omega, by omega⟩
  refine rn_cons (rs_for (fun k Γ' => ∃ (ds : List D) (s5 s6 : Sl), Γ' = [.dat (.list (ms.map .int)), .dat (.int n), .dat (.list (cs.map .int)), .dat (.int m), .own ds, s5, s6] ∧ IntsD Small (k * m.toNat) ds) (gx_it (go_var 2)) ?_ ?_ ?_ rfl)
  · exact ⟨_, _, _, rfl, by rw [Nat.zero_mul]; exact .nil⟩
  · rintro k d _ hd ⟨ds, s5, s6, rfl, h1⟩
    obtain ⟨c, hk, rfl⟩ : ∃ c, k < cs.length ∧ d = .int c := by
      rw [List.getElem?_map] at hd
      cases q : cs[k]? with
      | none =>
        rw [q] at hd
        cases hd
      | some z =>
        rw [q] at hd
        cases hd
        exact ⟨z, (List.getElem?_eq_some_iff.mp q).1, rfl⟩
    have hkm : k * m.toNat + m.toNat ≤ 63 * 10001 := by
      have : (k + 1) * m.toNat ≤ 63 * 10001 := Nat.mul_le_mul (by omega) (by omega)
      rwa [Nat.succ_mul] at this
    refine ⟨_, _, (gog_name 5 sc__law_numbers.nd), ?_⟩
    refine rn_cons (rs_forX (p := IntsD Small m.toNat) (fun es t Γ' => ∃ (ds : List D) (s6 : Sl), Γ' = [.dat (.list (ms.map .int)), .dat (.int n), .dat (.list (cs.map .int)), .dat (.int m), .own ds, .dat (.int c), s6] ∧ IntsD Small (k * m.toNat + t) ds)
      (goix_list' (gx_call c__law_row hr (by decide) (goA_cons (go_var 5) (goA_cons (go_var 3) goA_nil)))) (fun es _ => ⟨_, _, rfl, h1⟩) ?_ ?_ rfl)
    · rintro es he t d _ hd ⟨ds, s6, rfl, h2⟩
      obtain ⟨z, rfl, hz, ht⟩ := he.get hd
      have hl : ds.length < 1000000 := by
        rw [h2.len]
        omega
      refine ⟨_, _, (gog_name 6 sc__law_numbers.nd), ?_⟩
      refine rn_cons (rs_app 4 rfl (go_var 6) (ltZ (by walk_at "pside")) ?_)
      exact rn_nil ⟨_, _, rfl, h2.push hz⟩
    · rintro es he _ ⟨ds, s6, rfl, h2⟩
      rw [he.len] at h2
      exact rn_nil ⟨_, _, _, rfl, by rw [Nat.succ_mul]; exact h2⟩
  · rintro _ ⟨ds, s5, s6, rfl, h1⟩
    rw [List.length_map] at h1
    have hkm : cs.length * m.toNat ≤ 63 * 10001 := Nat.mul_le_mul hlen (by omega)
    refine rn_cons (rs_while (fun q Γ' => ∃ (ds : List D), Γ' = [.dat (.list (ms.map .int)), .dat (.int n), .dat (.list (cs.map .int)), .dat (.int m), .own ds, s5, s6] ∧ ∃ l, IntsD Small l ds ∧ l ≤ 700000 ∧ q = n.toNat - l) _ (⟨_, rfl, _, h1, by omega, rfl⟩) ?_)
    rintro q _ ⟨ds, rfl, l, h1, h2, rfl⟩
    refine ⟨_, goT_thaw 4 (gocT (gx_c (.of hr) (gx_len bt.len (go_var 4)) (go_var 1))), fun hk => ?_, fun hk => ?_⟩
    · rw [h1.len] at hk
      have hk := of_decide_eq_true hk
      have hl : ds.length < 1000000 := by
        rw [h1.len]
        omega
      refine rn_cons (rs_app 4 rfl go_int (ltZ (by walk_at "pside")) ?_)
      exact rn_nil ⟨n.toNat - (l + 1), by omega, _, rfl, l + 1, h1.push h1009, by omega, rfl⟩
    · rw [h1.len] at hk
      have hk := of_decide_eq_false hk
      refine rn_ice 4 rfl (by rw [hJ]; exact List.not_mem_nil) (rn_cons (rs_ret (go_ex (ds.take n.toNat) ?_ (go_is (go_of_new (goN_sl (go_var 4) goO_none (goO_some (go_var 1)))) (by
        rw [show n = ((n.toNat : Nat) : Int) by omega, cutHi]
        rfl)))))
      obtain ⟨ns, rfl, g2, g3⟩ := h1
      exact ⟨ns.take n.toNat, List.map_take.symm, by rw [List.length_take]; omega, fun x hx => g3 x (List.mem_of_mem_take hx)⟩
end
/-! ### books: names, lots -/
abbrev s_is_name : Stmt := topS 11
theorem sc_is_name : FnScope ["text", "sign"] ["text"] (defScope s_is_name) := ⟨rfl, rfl, rfl, by decide +kernel, rfl, by decide +kernel, by decide +kernel⟩
abbrev s_is_lot : Stmt := topS 12
theorem sc_is_lot : FnScope ["names", "name", "k"] ["names"] (defScope s_is_lot) := ⟨rfl, rfl, rfl, by decide +kernel, rfl, by decide +kernel, by decide +kernel⟩
abbrev s_is_lot_of : Stmt := topS 13
theorem sc_is_lot_of : FnScope ["names", "known", "name"] ["names", "known"] (defScope s_is_lot_of) := ⟨rfl, rfl, rfl, by decide +kernel, rfl, by decide +kernel, by decide +kernel⟩
abbrev s_are_turned : Stmt := topS 14
theorem sc_are_turned : FnScope ["on", "off", "holds", "name"] ["on", "off", "holds"] (defScope s_are_turned) := ⟨rfl, rfl, rfl, by decide +kernel, rfl, by decide +kernel, by decide +kernel⟩
abbrev s_require : Stmt := topS 15
theorem sc_require : FnScope ["holds"] ["holds"] (defScope s_require) := ⟨rfl, rfl, rfl, by decide +kernel, rfl, by decide +kernel, by decide +kernel⟩
abbrev s_require_names : Stmt := topS 16
theorem sc_require_names : FnScope ["names", "least", "most", "name"] ["names", "least", "most"] (defScope s_require_names) := ⟨rfl, rfl, rfl, by decide +kernel, rfl, by decide +kernel, by decide +kernel⟩
abbrev s_is_effect : Stmt := topS 17
theorem sc_is_effect : FnScope ["on", "off", "to", "holds", "modes"] ["on", "off", "to", "holds", "modes"] (defScope s_is_effect) := ⟨rfl, rfl, rfl, by decide +kernel, rfl, by decide +kernel, by decide +kernel⟩
abbrev s_is_step : Stmt := topS 18
theorem sc_is_step : FnScope ["step", "commands"] ["step", "commands"] (defScope s_is_step) := ⟨rfl, rfl, rfl, by decide +kernel, rfl, by decide +kernel, by decide +kernel⟩
abbrev s_names_of : Stmt := topS 19
theorem sc_names_of : FnScope ["parts", "part"] ["parts"] (defScope s_names_of) := ⟨rfl, rfl, rfl, by decide +kernel, rfl, by decide +kernel, by decide +kernel⟩
def S_is_name : List Mn → Mn → Prop := fun Ps R => ∃ x : Str, Ps = [datP (.str x)] ∧ R = datP (.bool (isNmB x)) ∧ x.length ≤ 1000
def S_is_lot : List Mn → Mn → Prop := fun Ps R => ∃ l : List Str, Ps = [datP (eL l)] ∧ R = datP (.bool (isLotB l)) ∧ LotS l
def S_is_lot_of : List Mn → Mn → Prop := fun Ps R => ∃ l ks : List Str, Ps = [datP (eL l), datP (.list (ks.map .str))] ∧ R = datP (.bool (lotOfB l ks)) ∧ LotS l
def S_are_turned : List Mn → Mn → Prop := fun Ps R => ∃ on off hs : List Str, Ps = [datP (eL on), datP (eL off), datP (.list (hs.map .str))] ∧ R = datP (.bool (turnB on off hs)) ∧ (LotS on ∧ LotS off)
def S_require : List Mn → Mn → Prop := fun Ps R => Ps = [datP (.bool true)] ∧ R = datP .none
def E_require : List Mn → Er → Prop := fun Ps r => Ps = [datP (.bool false)] ∧ r = er0 "InvalidBook"
def S_require_names : List Mn → Mn → Prop := fun Ps R => ∃ (l : List Str) (lo hi : Nat), Ps = [datP (.list (l.map .str)), datP (nat lo), datP (nat hi)] ∧ R = datP .none ∧ (NmsOk l lo hi ∧ hi ≤ 100)
def effB (on off : List Str) (to : Option Str) (hs ms : List Str) : Bool := turnB on off hs && (isNonD (eO to) || (match to with | none => false | some x => decide (x ∈ ms)))
def S_is_effect : List Mn → Mn → Prop := fun Ps R => ∃ (on off : List Str) (to : Option Str) (hs ms : List Str), Ps = [datP (eL on), datP (eL off), datP (eO to), datP (.list (hs.map .str)), datP (.list (ms.map .str))] ∧ R = datP (.bool (effB on off to hs ms)) ∧ (LotS on ∧ LotS off)
def stepB (s : Int × Str) (cs : List Str) : Bool := true && ((decide (1 ≤ s.1) && decide (s.1 ≤ 9)) && decide (s.2 ∈ cs))
def S_is_step : List Mn → Mn → Prop := fun Ps R => ∃ (s : Int × Str) (cs : List Str), Ps = [datP (eSt s), datP (.list (cs.map .str))] ∧ R = datP (.bool (stepB s cs))
def S_names_of : List Mn → Mn → Prop := fun Ps R => ∃ (α : Type) (xs : List α) (nm : α → Str) (tl : α → List D), Ps = [datP (.list (xs.map fun x => .tuple (.str (nm x) :: tl x)))] ∧ R = datP (.list ((xs.map nm).map .str)) ∧ xs.length ≤ 1000
section
variable {P : Program} {w : World} {K : PySem.W.Frag} {mg : Str → Option Value} {base : Heap}
theorem ok_is_name (df : Dfn K mg "is_name" s_is_name ["text"])   (x_LETTERS : GlobD K mg "LETTERS" (.str letS)) (T_InvalidBook : Ec0 K mg "InvalidBook") (bt : Bt mg) : Cal P w K mg base "is_name" ["text"] 1 S_is_name := by
  refine cal_ok df sc_is_name ?_ ?_
  · rintro _ _ ⟨x, rfl, rfl, _⟩
    rfl
  rintro _ _ ⟨x, rfl, rfl, hx⟩ f cdv A outer s H E hr J hJ
  refine rn_cons (rs_ret ?_)
  have e : isNmB x = ((decide ((1 : Int) ≤ (x.length : Int)) && decide ((x.length : Int) ≤ 12)) && ((x.cps.toList.map fun c => PyData.bool (decide (c ∈ letS.cps.toList))).all truB)) := by
    unfold isNmB
    rw [List.all_map]
    rfl
  rw [e]
  have hx2 : x.length ≤ sizeLine := leZ (by omega)
  have hz : x.cps.toList.length < 1000000 := by
    have : x.cps.toList.length = x.length := Array.length_toList
    omega
  exact (go_andV (go_chainI op_le op_le go_int (gx_len bt.len (go_var 0)) go_int) fun hk => (go_one (gx_all rfl bt.all (go_of_new (gx_lcM (own := [("sign", 1)]) rfl sc_is_name.nd (goi_str (go_var 0)) (fun k x hx => ⟨_, _, fun s H C cl fp => (gog_name 1 sc_is_name.nd), fun s H C cl fp => (goc (gx_in (go_var 1) (go_gcon x_LETTERS))), by simp⟩) (by first | (show blkC ["text", "sign"] (defScope s_is_name) _ _ = true; decide +kernel) | (show blkC ["text", "sign"] (relS _ (defScope s_is_name)) _ _ = true; decide +kernel) | (show blkC ["text", "sign"] (relS _ (relS _ (defScope s_is_name))) _ _ = true; decide +kernel)))))))
theorem ok_is_lot (df : Dfn K mg "is_lot" s_is_lot ["names"]) (c_is_name : Cal P w K mg base "is_name" ["text"] 1 S_is_name)  (x_LETTERS : GlobD K mg "LETTERS" (.str letS)) (T_InvalidBook : Ec0 K mg "InvalidBook") (bt : Bt mg) : Cal P w K mg base "is_lot" ["names"] 2 S_is_lot := by
  refine cal_ok df sc_is_lot ?_ ?_
  · rintro _ _ ⟨l, rfl, rfl, _⟩
    rfl
  rintro _ _ ⟨l, rfl, rfl, hl⟩ f cdv A outer s H E hr J hJ
  have hz : l.length < 1000000 := by have := hl.1; omega
  have e1 : ((l.map fun x => PyData.bool (isNmB x)).all truB) = l.all isNmB := by
    rw [List.all_map]
    rfl
  have hw : ∀ x ∈ l, x.length ≤ 1000 := hl.2
  refine rn_cons (rs_if (k := !l.all isNmB) (goT_is (goT_not (goT_val (gx_all rfl bt.all (go_of_new (gx_lcM (xs := l) (enc := .str) (f := fun x => .bool (isNmB x)) (own := [("name", 1)]) rfl sc_is_lot.nd (goi_tup (go_var 0)) (fun k x hx => by
    have hw1 := hw x (List.mem_of_getElem? hx)
    exact ⟨_, _, fun s H C cl fp => (gog_name 1 sc_is_lot.nd), fun s H C cl fp => (gx_call c_is_name hr (by decide) (goA_cons (go_var 1) goA_nil)), by simp⟩) (by first | (show blkC ["names", "name", "k"] (defScope s_is_lot) _ _ = true; decide +kernel) | (show blkC ["names", "name", "k"] (relS _ (defScope s_is_lot)) _ _ = true; decide +kernel) | (show blkC ["names", "name", "k"] (relS _ (relS _ (defScope s_is_lot))) _ _ = true; decide +kernel))))))) (by rw [e1])) (fun hk => ?_) fun hk => ?_)
  · skip
    have e : isLotB l = false := by
      unfold isLotB
      rw [Bool.not_eq_true'] at hk
      rw [hk, Bool.false_and]
    rw [e]
    refine rn_cons (rs_ret go_bl)
  · rw [Bool.not_eq_false'] at hk
    have e : isLotB l = (((List.range (l.length - 1)).map fun k => PyData.bool (ltS (l.getD k ⟨#[]⟩) (l.getD (k + 1) ⟨#[]⟩))).all truB) := by
      unfold isLotB risB
      rw [hk, Bool.true_and, List.all_map]
      rfl
    rw [e]
    have hlen : (l.map PyData.str).length = l.length := List.length_map _
    have hn : ((rngI 0 (((l.map PyData.str).length : Int) - 1)).map PyData.int) = (List.range (l.length - 1)).map fun k => PyData.int ((0 : Int) + (k : Nat)) := by
      unfold rngI
      rw [List.map_map, hlen, show ((l.length : Int) - 1 - 0).toNat = l.length - 1 by omega]
      rfl
    refine rn_nil (rn_cons (rs_ret (gx_all rfl bt.all (go_of_new (gx_lcM (own := [("k", 2)]) rfl sc_is_lot.nd (goi_is (gx_rng1 bt.range (gx_bin (gx_len bt.len (go_var 0)) go_int)) hn) (fun k x hx => by
      have hx2 : x < l.length - 1 := List.mem_range.mp (List.mem_of_getElem? hx)
      have g1 : atI (l.map PyData.str) ((0 : Int) + (x : Nat)) = some (.str (l.getD x ⟨#[]⟩)) := atI_get' (k := x) (by rw [List.getElem?_map, List.getD_eq_getElem?_getD, List.getElem?_eq_getElem (by omega)]; rfl) (by omega)
      have g2 : atI (l.map PyData.str) ((0 : Int) + (x : Nat) + 1) = some (.str (l.getD (x + 1) ⟨#[]⟩)) := atI_get' (k := x + 1) (by rw [List.getElem?_map, List.getD_eq_getElem?_getD, List.getElem?_eq_getElem (by omega)]; rfl) (by omega)
      exact ⟨_, _, fun s H C cl fp => (gog_name 2 sc_is_lot.nd), fun s H C cl fp => (goc (gx_c (.of hr) (gx_ix (go_var 0) (go_var 2)) (gx_ix (go_var 0) (gx_bin (go_var 2) go_int)))), by simp⟩) (by first | (show blkC ["names", "name", "k"] (defScope s_is_lot) _ _ = true; decide +kernel) | (show blkC ["names", "name", "k"] (relS _ (defScope s_is_lot)) _ _ = true; decide +kernel) | (show blkC ["names", "name", "k"] (relS _ (relS _ (defScope s_is_lot))) _ _ = true; decide +kernel)) (by rw [List.length_range]; omega))))))
theorem ok_is_lot_of (df : Dfn K mg "is_lot_of" s_is_lot_of ["names", "known"]) (c_is_lot : Cal P w K mg base "is_lot" ["names"] 2 S_is_lot)  (x_LETTERS : GlobD K mg "LETTERS" (.str letS)) (T_InvalidBook : Ec0 K mg "InvalidBook") (bt : Bt mg) : Cal P w K mg base "is_lot_of" ["names", "known"] 3 S_is_lot_of := by
  refine cal_ok df sc_is_lot_of ?_ ?_
  · rintro _ _ ⟨l, ks, rfl, rfl, _⟩
    rfl
  rintro _ _ ⟨l, ks, rfl, rfl, hl⟩ f cdv A outer s H E hr J hJ
  have hz : l.length < 1000000 := by have := hl.1; omega
  have e : lotOfB l ks = (isLotB l && ((l.map fun x => PyData.bool (decide (x ∈ ks))).all truB)) := by
    unfold lotOfB inB
    rw [List.all_map]
    rfl
  rw [e]
  refine rn_cons (rs_ret (go_andV (gx_call c_is_lot hr (by decide) (goA_cons (go_var 0) goA_nil)) fun hk => go_one (gx_all rfl bt.all (go_of_new (gx_lcM (xs := l) (enc := .str) (own := [("name", 2)]) rfl sc_is_lot_of.nd (goi_tup (go_var 0)) (fun k x hx => ⟨_, _, fun s H C cl fp => (gog_name 2 sc_is_lot_of.nd), fun s H C cl fp => (goc (gx_in (go_var 2) (go_var 1))), by simp⟩) (by first | (show blkC ["names", "known", "name"] (defScope s_is_lot_of) _ _ = true; decide +kernel) | (show blkC ["names", "known", "name"] (relS _ (defScope s_is_lot_of)) _ _ = true; decide +kernel) | (show blkC ["names", "known", "name"] (relS _ (relS _ (defScope s_is_lot_of))) _ _ = true; decide +kernel)))))))
theorem ok_are_turned (df : Dfn K mg "are_turned" s_are_turned ["on", "off", "holds"]) (c_is_lot_of : Cal P w K mg base "is_lot_of" ["names", "known"] 3 S_is_lot_of)  (x_LETTERS : GlobD K mg "LETTERS" (.str letS)) (T_InvalidBook : Ec0 K mg "InvalidBook") (bt : Bt mg) : Cal P w K mg base "are_turned" ["on", "off", "holds"] 4 S_are_turned := by
  refine cal_ok df sc_are_turned ?_ ?_
  · rintro _ _ ⟨on, off, hs, rfl, rfl, _⟩
    rfl
  rintro _ _ ⟨on, off, hs, rfl, rfl, hl, hl2⟩ f cdv A outer s H E hr J hJ
  have hz : on.length < 1000000 := by have := hl.1; omega
  have e : turnB on off hs = (lotOfB on hs && (lotOfB off hs && !((on.map fun x => PyData.bool (decide (x ∈ off))).any truB))) := by
    unfold turnB
    rw [List.any_map]
    rfl
  rw [e]
  refine rn_cons (rs_ret (go_andV (gx_call c_is_lot_of hr (by decide) (goA_cons (go_var 0) (goA_cons (go_var 2) goA_nil))) fun hk => go_andV (gx_call c_is_lot_of hr (by decide) (goA_cons (go_var 1) (goA_cons (go_var 2) goA_nil))) fun hk => go_one (go_notV (gx_any rfl bt.any (go_of_new (gx_lcM (xs := on) (enc := .str) (own := [("name", 3)]) rfl sc_are_turned.nd (goi_tup (go_var 0)) (fun k x hx => ⟨_, _, fun s H C cl fp => (gog_name 3 sc_are_turned.nd), fun s H C cl fp => (goc (gx_in (go_var 3) (go_var 1))), by simp⟩) (by first | (show blkC ["on", "off", "holds", "name"] (defScope s_are_turned) _ _ = true; decide +kernel) | (show blkC ["on", "off", "holds", "name"] (relS _ (defScope s_are_turned)) _ _ = true; decide +kernel) | (show blkC ["on", "off", "holds", "name"] (relS _ (relS _ (defScope s_are_turned))) _ _ = true; decide +kernel))))))))
theorem ok_require (df : Dfn K mg "require" s_require ["holds"])   (x_LETTERS : GlobD K mg "LETTERS" (.str letS)) (T_InvalidBook : Ec0 K mg "InvalidBook") (bt : Bt mg) : CalF P w K mg base (L2.CX P w) "require" ["holds"] 1 (orSp (spS K S_require) (spE K E_require)) := by
  refine fX_ok df sc_require ?_ ?_ ?_ ?_
  · rintro _ _ ⟨rfl, rfl⟩
    rfl
  · rintro _ _ ⟨rfl, rfl⟩
    rfl
  · rintro _ _ ⟨rfl, rfl⟩ f cdv A outer s H E hr J hJ
    refine rn_cons (rs_if (k := false) (goT_is (goT_not (gx_t (go_var 0))) ?_) (fun h => nomatch h) fun _ => rn_nil (rn_nil fun _ _ => Dp.non))
    rfl
  · rintro _ _ ⟨rfl, rfl⟩ f cdv A outer s H E hr J hJ hM hW
    refine rn_cons (rs_if (k := true) (goT_is (goT_not (gx_t (go_var 0))) ?_) (fun _ => rn_cons (rs_soe (Wx := fun cls d _ H => E cls d H) (soe_raise T_InvalidBook rfl (takes_of rfl rfl rfl rfl)) hM fun σ C d H2 h1 h2 => hW C d H2 h1 h2)) fun h => nomatch h)
    rfl
theorem ok_require_names (df : Dfn K mg "require_names" s_require_names ["names", "least", "most"]) (c_is_name : Cal P w K mg base "is_name" ["text"] 1 S_is_name) (c_require : CalF P w K mg base (L2.CX P w) "require" ["holds"] 1 (orSp (spS K S_require) (spE K E_require)))  (x_LETTERS : GlobD K mg "LETTERS" (.str letS)) (T_InvalidBook : Ec0 K mg "InvalidBook") (bt : Bt mg) : Cal P w K mg base "require_names" ["names", "least", "most"] 2 S_require_names := by
  refine cal_ok df sc_require_names ?_ ?_
  · rintro _ _ ⟨l, lo, hi, rfl, rfl, _⟩
    rfl
  rintro _ _ ⟨l, lo, hi, rfl, rfl, hl, hh⟩ f cdv A outer s H E hr J hJ
  obtain ⟨h1, h2, h3, h4⟩ := hl
  have hz : l.length < 1000000 := by omega
  have hz2 : l.length < 4000 := by omega
  have hw : ∀ x ∈ l, x.length ≤ 1000 := fun x hx => by have := nm_len (h3 x hx); omega
  have e1 : ((l.map fun x => PyData.bool (isNmB x)).all truB) = true := by
    rw [List.all_map]
    exact List.all_eq_true.mpr h3
  have e2 : decide (((dif l).length : Int) = (((l.map PyData.str).length : Nat) : Int)) = true := decide_eq_true (by rw [dif_len h4, List.length_map])
  have hlen : (l.map PyData.str).length = l.length := List.length_map _
  refine rn_cons (rs_expr (gx_callE c_require hr (by decide) (goA_cons (go_is (go_andV (go_chainI op_le op_le (go_var 1) (gx_len bt.len (go_var 0)) (go_var 2)) fun hk => go_andV (gx_all rfl bt.all (go_of_new (gx_lcM (xs := l) (enc := .str) (f := fun x => .bool (isNmB x)) (own := [("name", 3)]) rfl sc_require_names.nd (goi_list (go_var 0)) (fun k x hx => by
    have hw1 := hw x (List.mem_of_getElem? hx)
    exact ⟨_, _, fun s H C cl fp => (gog_name 3 sc_require_names.nd), fun s H C cl fp => (gx_call c_is_name hr (by decide) (goA_cons (go_var 3) goA_nil)), by simp⟩) (by first | (show blkC ["names", "least", "most", "name"] (defScope s_require_names) _ _ = true; decide +kernel) | (show blkC ["names", "least", "most", "name"] (relS _ (defScope s_require_names)) _ _ = true; decide +kernel) | (show blkC ["names", "least", "most", "name"] (relS _ (relS _ (defScope s_require_names))) _ _ = true; decide +kernel))))) fun hk => go_one (goc (gx_c (.of hr) (gx_lenSet rfl bt.len bt.set (go_var 0)) (gx_len bt.len (go_var 0))))) ?_) goA_nil) ⟨rfl, rfl⟩) ?_)
  · rw [e1, e2, decide_eq_true (show ((lo : Nat) : Int) ≤ (((l.map PyData.str).length : Nat) : Int) by omega), decide_eq_true (show (((l.map PyData.str).length : Nat) : Int) ≤ ((hi : Nat) : Int) by omega)]
    rfl
  exact rn_nil fun _ _ => Dp.non
theorem ok_is_effect (df : Dfn K mg "is_effect" s_is_effect ["on", "off", "to", "holds", "modes"]) (c_are_turned : Cal P w K mg base "are_turned" ["on", "off", "holds"] 4 S_are_turned)  (x_LETTERS : GlobD K mg "LETTERS" (.str letS)) (T_InvalidBook : Ec0 K mg "InvalidBook") (bt : Bt mg) : Cal P w K mg base "is_effect" ["on", "off", "to", "holds", "modes"] 5 S_is_effect := by
  refine cal_ok df sc_is_effect ?_ ?_
  · rintro _ _ ⟨on, off, to, hs, ms, rfl, rfl, _⟩
    rfl
  rintro _ _ ⟨on, off, to, hs, ms, rfl, rfl, hl, hl2⟩ f cdv A outer s H E hr J hJ
  cases to with
  | none =>
    refine rn_cons (rs_ret (go_andV (gx_call c_are_turned hr (by decide) (goA_cons (go_var 0) (goA_cons (go_var 1) (goA_cons (go_var 3) goA_nil)))) fun hk => go_one (go_is (go_orV (l := false) (goc (gc_isN (go_var 2))) fun h => absurd h (by decide)) ?_)))
    rfl
  | some x => refine rn_cons (rs_ret (go_andV (gx_call c_are_turned hr (by decide) (goA_cons (go_var 0) (goA_cons (go_var 1) (goA_cons (go_var 3) goA_nil)))) fun hk => (go_one (go_orV (goc (gc_isN (go_var 2))) fun hk => (go_one (goc (gx_in (go_var 2) (go_var 4))))))))
theorem ok_is_step (df : Dfn K mg "is_step" s_is_step ["step", "commands"])   (x_LETTERS : GlobD K mg "LETTERS" (.str letS)) (T_InvalidBook : Ec0 K mg "InvalidBook") (bt : Bt mg) : Cal P w K mg base "is_step" ["step", "commands"] 1 S_is_step := by
  refine cal_ok df sc_is_step ?_ ?_
  · rintro _ _ ⟨s, cs, rfl, rfl⟩
    rfl
  rintro _ _ ⟨s, cs, rfl, rfl⟩ f cdv A outer s' H E hr J hJ
  unfold eSt
  refine rn_cons (rs_ret (go_andV (goc (gx_c (.of hr) (gx_len bt.len (go_var 0)) go_int)) fun hk => (go_andV (go_chainI op_le op_le go_int (gx_ix (go_var 0) go_int) go_int) fun hk => (go_one (goc (gx_in (gx_ix (go_var 0) go_int) (go_var 1)))))))
theorem ok_names_of (df : Dfn K mg "names_of" s_names_of ["parts"])   (x_LETTERS : GlobD K mg "LETTERS" (.str letS)) (T_InvalidBook : Ec0 K mg "InvalidBook") (bt : Bt mg) : Cal P w K mg base "names_of" ["parts"] 1 S_names_of := by
  refine cal_ok df sc_names_of ?_ ?_
  · rintro _ _ ⟨α, xs, nm, tl, rfl, rfl, _⟩
    rfl
  rintro _ _ ⟨α, xs, nm, tl, rfl, rfl, hz⟩ f cdv A outer s' H E hr J hJ
  have hz : xs.length < 1000000 := by omega
  rw [List.map_map]
  refine rn_cons (rs_ret (go_of_new (gx_lcM (xs := xs) (enc := fun x => .tuple (.str (nm x) :: tl x)) (f := fun x => .str (nm x)) (own := [("part", 1)]) rfl sc_names_of.nd (goi_list (go_var 0)) (fun k x hx => ⟨_, _, fun s H C cl fp => (gog_name 1 sc_names_of.nd), fun s H C cl fp => (gx_ix (go_var 1) go_int (by exact atI_head)), by simp⟩) (by first | (show blkC ["parts", "part"] (defScope s_names_of) _ _ = true; decide +kernel) | (show blkC ["parts", "part"] (relS _ (defScope s_names_of)) _ _ = true; decide +kernel) | (show blkC ["parts", "part"] (relS _ (relS _ (defScope s_names_of))) _ _ = true; decide +kernel)))))
end

/-! ### books: the class -/
abbrev s_Book___init__ : Stmt := inClass (topS 20) 0
theorem sc_Book___init__ : FnScope ["self", "holds", "modes", "barred", "commands", "alarms", "rows", "quiet", "parts", "some", "many", "part", "known", "_", "on", "off", "lot", "to", "steps", "step", "named", "command", "ordered", "name"] ["self", "holds", "modes", "barred", "commands", "alarms", "rows", "quiet"] (defScope s_Book___init__) := ⟨rfl, rfl, rfl, by decide +kernel, rfl, by decide +kernel, by decide +kernel⟩
def S_Book___init__ : Ow → List Mn → Mn → Ow → Prop := fun W Ps R W' => ∃ b : Bk, W = insO "Book" [] ∧ Ps = [datP (.list (b.holds.map .str)), datP (.list (b.modes.map eM)), datP (.list (b.barred.map eL)), datP (.list (b.cmds.map eC)), datP (.list (b.alarms.map eA)), datP (.list (b.rows.map eR)), datP (eQ b.quiet)] ∧ R = datP .none ∧ W' = bookO b ∧ BkOk b
theorem nmsM (b : Bk) (h : BkOk b) : S_names_of [datP (.list (b.modes.map eM))] (datP (.list (b.mn.map .str))) := ⟨Md, b.modes, Md.n, fun m => [eL m.on, eL m.off], rfl, rfl, by have := h.m.hi; rw [List.length_map] at this; omega⟩
theorem nmsC (b : Bk) (h : BkOk b) : S_names_of [datP (.list (b.cmds.map eC))] (datP (.list (b.cn.map .str))) := ⟨Cm, b.cmds, Cm.n, fun m => [eL m.ms, eL m.on, eL m.off, eO m.to], rfl, rfl, by have := h.c.hi; rw [List.length_map] at this; omega⟩
theorem nmsA (b : Bk) (h : BkOk b) : S_names_of [datP (.list (b.alarms.map eA))] (datP (.list (b.an.map .str))) := ⟨Al, b.alarms, Al.n, fun m => [eL m.on, eL m.off, eO m.to], rfl, rfl, by have := h.a.hi; rw [List.length_map] at this; omega⟩
theorem nmsR (b : Bk) (h : BkOk b) : S_names_of [datP (.list (b.rows.map eR))] (datP (.list (b.rn.map .str))) := ⟨Rw, b.rows, Rw.n, fun m => [.tuple (m.st.map eSt)], rfl, rfl, by have := h.r.hi; rw [List.length_map] at this; omega⟩
def lensX (b : Bk) : List (List D × Int) := [(b.modes.map eM, 3), (b.cmds.map eC, 5), (b.alarms.map eA, 4), (b.rows.map eR, 2)]
theorem lens_ok (b : Bk) (h : BkOk b) : (∀ p ∈ lensX b, ∀ d ∈ p.1, ∃ es : List D, d = .tuple es ∧ (es.length : Int) = p.2 ∧ es.length ≤ 5) ∧ ∀ p ∈ lensX b, p.1.length ≤ 8 := by
  have h1 := h.m.hi
  have h2 := h.c.hi
  have h3 := h.a.hi
  have h4 := h.r.hi
  rw [List.length_map] at h1 h2 h3 h4
  constructor
  · intro p hp d hd
    simp only [lensX, List.mem_cons, List.not_mem_nil, or_false] at hp
    rcases hp with rfl | rfl | rfl | rfl
    all_goals
      obtain ⟨x, _, rfl⟩ := List.mem_map.mp hd
      exact ⟨_, rfl, rfl, Nat.le_of_ble_eq_true rfl⟩
  · intro p hp
    simp only [lensX, List.mem_cons, List.not_mem_nil, or_false] at hp
    rcases hp with rfl | rfl | rfl | rfl
    all_goals
      simp only [List.length_map]
      omega
def tupOf : D → List D
  | .tuple es => es
  | _ => []
theorem flat_le {α β : Type} (ys : α → List β) (n : Nat) : ∀ xs : List α, (∀ x ∈ xs, (ys x).length ≤ n) → (xs.flatMap ys).length ≤ xs.length * n
  | [], _ => by simp
  | x :: r, h => by
    have ih := flat_le ys n r fun y hy => h y (List.mem_cons_of_mem _ hy)
    have := h x List.mem_cons_self
    rw [List.flatMap_cons, List.length_append, List.length_cons, Nat.succ_mul]
    omega
section
variable {P : Program} {w : World} {K : PySem.W.Frag} {mg : Str → Option Value} {base : Heap}
theorem ok_Book___init__ (df : MtdI K mg "Book" "Book.__init__" s_Book___init__ ["self", "holds", "modes", "barred", "commands", "alarms", "rows", "quiet"]) (c_require : CalF P w K mg base (L2.CX P w) "require" ["holds"] 1 (orSp (spS K S_require) (spE K E_require))) (c_require_names : Cal P w K mg base "require_names" ["names", "least", "most"] 2 S_require_names) (c_names_of : Cal P w K mg base "names_of" ["parts"] 1 S_names_of) (c_are_turned : Cal P w K mg base "are_turned" ["on", "off", "holds"] 4 S_are_turned) (c_is_lot_of : Cal P w K mg base "is_lot_of" ["names", "known"] 3 S_is_lot_of) (c_is_effect : Cal P w K mg base "is_effect" ["on", "off", "to", "holds", "modes"] 5 S_is_effect) (c_is_step : Cal P w K mg base "is_step" ["step", "commands"] 1 S_is_step)  (x_LETTERS : GlobD K mg "LETTERS" (.str letS)) (T_InvalidBook : Ec0 K mg "InvalidBook") (x_MODE : GlobD K mg "MODE" (.str "mode")) (x_COMMAND : GlobD K mg "COMMAND" (.str "command")) (x_ALARM : GlobD K mg "ALARM" (.str "alarm")) (x_ROW : GlobD K mg "ROW" (.str "row")) (O_Book : ClsOk K "Book" ["_holds", "_barred", "_parts", "_quiet"]) (bt : Bt mg) : CalC P w K mg base "Book" ["self", "holds", "modes", "barred", "commands", "alarms", "rows", "quiet"] 6 S_Book___init__ := by
  refine mI_ok df sc_Book___init__ ?_ (by decide) ?_
  · rintro _ _ _ _ ⟨b, rfl, rfl, rfl, rfl, _⟩
    rfl
  rintro _ _ _ _ ⟨b, rfl, rfl, rfl, rfl, hb⟩ v0 f cdv A outer s H E hr J hJ
  have hM := nmsM b hb
  have hC := nmsC b hb
  have hA := nmsA b hb
  have hR := nmsR b hb
  have m1 := hb.m.hi
  have m2 := hb.c.hi
  have m3 := hb.a.hi
  have m4 := hb.r.hi
  have m5 := hb.h.hi
  have zM : b.modes.length < 1000000 := by rw [List.length_map] at m1; omega
  have zC : b.cmds.length < 1000000 := by rw [List.length_map] at m2; omega
  have zA : b.alarms.length < 1000000 := by rw [List.length_map] at m3; omega
  have zR : b.rows.length < 1000000 := by rw [List.length_map] at m4; omega
  have zH : b.holds.length ≤ 1000 := by omega
  have zN : b.mn.length ≤ 1000 := by omega
  refine rn_cons (rs_set 8 (go_lst (god_cons (go_tup (god_cons (go_var 2) (god_cons go_int god_nil))) (god_cons (go_tup (god_cons (go_var 4) (god_cons go_int god_nil))) (god_cons (go_tup (god_cons (go_var 5) (god_cons go_int god_nil))) (god_cons (go_tup (god_cons (go_var 6) (god_cons go_int god_nil))) god_nil))))) ?_ sc_Book___init__.nd)
  obtain ⟨lk1, lk2⟩ := lens_ok b hb
  have bT : ∀ d ∈ (lensX b).flatMap fun p => p.1.map fun d => PyData.bool (decide (((tupOf d).length : Int) = p.2)), d = .bool true := fun d hd => by
    obtain ⟨p, hp, hd⟩ := List.mem_flatMap.mp hd
    obtain ⟨e, he, rfl⟩ := List.mem_map.mp hd
    obtain ⟨es, rfl, h1, _⟩ := lk1 p hp e he
    exact congrArg PyData.bool (decide_eq_true h1)
  refine rn_cons (rs_expr (gx_callE c_require hr (by decide) (goA_cons (go_is (gx_all rfl bt.all (go_of_new (gx_lc2 (xs := lensX b) (enc := fun p => .tuple [.list p.1, .int p.2]) (ys := fun p => p.1) (enc1 := fun _ d => d) (f := fun p d => .bool (decide (((tupOf d).length : Int) = p.2))) [("some", 9), ("many", 10), ("part", 11)] [11] rfl sc_Book___init__.nd (goi_list (go_var 8)) (fun k x hx => by
    have hxm := List.mem_of_getElem? hx
    refine ⟨_, _, fun s H C cl fp => (gog_tup rfl (gogs_cons (gog_name 9 sc_Book___init__.nd) (gogs_cons (gog_name 10 sc_Book___init__.nd) gogs_nil))), fun s H C cl fp => goi_is (goi_list (go_var 9)) (List.map_id' _).symm, fun j y hy => ?_, by simp⟩
    obtain ⟨es, rfl, _, hle⟩ := lk1 x hxm y (List.mem_of_getElem? hy)
    have hes : es.length ≤ sizeLine := leZ (by omega)
    exact ⟨_, _, fun s H C cl fp => (gog_name 11 sc_Book___init__.nd), fun s H C cl fp => (goc (gx_c (.of hr) (gx_len bt.len (go_var 11)) (go_var 10))), by simp⟩) (by first | (show blkC ["self", "holds", "modes", "barred", "commands", "alarms", "rows", "quiet", "parts", "some", "many", "part", "known", "_", "on", "off", "lot", "to", "steps", "step", "named", "command", "ordered", "name"] (defScope s_Book___init__) _ _ = true; decide +kernel) | (show blkC ["self", "holds", "modes", "barred", "commands", "alarms", "rows", "quiet", "parts", "some", "many", "part", "known", "_", "on", "off", "lot", "to", "steps", "step", "named", "command", "ordered", "name"] (relS _ (defScope s_Book___init__)) _ _ = true; decide +kernel) | (show blkC ["self", "holds", "modes", "barred", "commands", "alarms", "rows", "quiet", "parts", "some", "many", "part", "known", "_", "on", "off", "lot", "to", "steps", "step", "named", "command", "ordered", "name"] (relS _ (relS _ (defScope s_Book___init__))) _ _ = true; decide +kernel)) (fun n => by
    refine Nat.lt_of_le_of_lt (flat_le _ 8 _ fun x hx => lk2 x (List.mem_of_mem_take hx)) ?_
    have : ((lensX b).take n).length ≤ 4 := Nat.le_trans (List.length_take_le' _ _) (Nat.le_of_ble_eq_true rfl)
    omega))) (boolsT bT)) ?_) goA_nil) ⟨rfl, rfl⟩) ?_)
  · exact congrArg PyData.bool (allT bT)
  refine rn_cons (rs_expr (gx_call c_require_names hr (by decide) (goA_cons (go_var 1) (goA_cons go_int (goA_cons go_int goA_nil))) ⟨b.holds, 1, 6, rfl, rfl, hb.h, by decide⟩) ?_)
  refine rn_cons (rs_expr (gx_call c_require_names hr (by decide) (goA_cons (gx_call c_names_of hr (by decide) (goA_cons (go_var 2) goA_nil) hM) (goA_cons go_int (goA_cons go_int goA_nil))) ⟨b.mn, 1, 5, rfl, rfl, hb.m, by decide⟩) ?_)
  refine rn_cons (rs_expr (gx_call c_require_names hr (by decide) (goA_cons (gx_call c_names_of hr (by decide) (goA_cons (go_var 4) goA_nil) hC) (goA_cons go_int (goA_cons go_int goA_nil))) ⟨b.cn, 0, 8, rfl, rfl, hb.c, by decide⟩) ?_)
  refine rn_cons (rs_expr (gx_call c_require_names hr (by decide) (goA_cons (gx_call c_names_of hr (by decide) (goA_cons (go_var 5) goA_nil) hA) (goA_cons go_int (goA_cons go_int goA_nil))) ⟨b.an, 0, 4, rfl, rfl, hb.a, by decide⟩) ?_)
  refine rn_cons (rs_expr (gx_call c_require_names hr (by decide) (goA_cons (gx_call c_names_of hr (by decide) (goA_cons (go_var 6) goA_nil) hR) (goA_cons go_int (goA_cons go_int goA_nil))) ⟨b.rn, 0, 3, rfl, rfl, hb.r, by decide⟩) ?_)
  refine rn_cons (rs_set 12 (gx_call c_names_of hr (by decide) (goA_cons (go_var 2) goA_nil) hM) ?_ sc_Book___init__.nd)
  refine rn_cons (rs_expr (gx_callE c_require hr (by decide) (goA_cons (go_is (gx_all rfl bt.all (go_of_new (gx_lcM (xs := b.modes) (enc := eM) (f := fun m => .bool (turnB m.on m.off b.holds)) (own := [("_", 13), ("on", 14), ("off", 15)]) rfl sc_Book___init__.nd (goi_list (go_var 2)) (fun k x hx => by
    have hw := turnS (hb.mT x (List.mem_of_getElem? hx)) zH
    exact ⟨_, _, fun s H C cl fp => (gog_tup rfl (gogs_cons (gog_name 13 sc_Book___init__.nd) (gogs_cons (gog_name 14 sc_Book___init__.nd) (gogs_cons (gog_name 15 sc_Book___init__.nd) gogs_nil)))), fun s H C cl fp => (gx_call c_are_turned hr (by decide) (goA_cons (go_var 14) (goA_cons (go_var 15) (goA_cons (go_var 1) goA_nil))) ⟨x.on, x.off, b.holds, rfl, rfl, hw⟩), by simp⟩) (by first | (show blkC ["self", "holds", "modes", "barred", "commands", "alarms", "rows", "quiet", "parts", "some", "many", "part", "known", "_", "on", "off", "lot", "to", "steps", "step", "named", "command", "ordered", "name"] (defScope s_Book___init__) _ _ = true; decide +kernel) | (show blkC ["self", "holds", "modes", "barred", "commands", "alarms", "rows", "quiet", "parts", "some", "many", "part", "known", "_", "on", "off", "lot", "to", "steps", "step", "named", "command", "ordered", "name"] (relS _ (defScope s_Book___init__)) _ _ = true; decide +kernel) | (show blkC ["self", "holds", "modes", "barred", "commands", "alarms", "rows", "quiet", "parts", "some", "many", "part", "known", "_", "on", "off", "lot", "to", "steps", "step", "named", "command", "ordered", "name"] (relS _ (relS _ (defScope s_Book___init__))) _ _ = true; decide +kernel))))) ?_) goA_nil) ⟨rfl, rfl⟩) ?_)
  · exact congrArg PyData.bool (mapT hb.mT)
  have hb64 : b.barred.length < 64 := by have := hb.b1; omega
  have zB : b.barred.length < 1000000 := by omega
  have lB : (((b.barred.map eL).length : Nat) : Int) = (b.barred.length : Int) := by rw [List.length_map]
  refine rn_cons (rs_expr (gx_callE c_require hr (by decide) (goA_cons (go_is (go_andV (goc (gx_c (.of hr) (gx_len bt.len (go_var 3)) go_int)) fun hk => go_one (goc (gx_c (.of hr) (go_lenSetT (.of hr) rfl bt.len bt.set (go_var 3) hb64) (gx_len bt.len (go_var 3))))) ?_) goA_nil) ⟨rfl, rfl⟩) ?_)
  · have := hb.b1
    rw [lB, ddL_len hb.b2, decide_eq_true (show ((b.barred.length : Nat) : Int) ≤ 8 by omega), decide_eq_true rfl]
    rfl
  refine rn_cons (rs_expr (gx_callE c_require hr (by decide) (goA_cons (go_is (gx_all rfl bt.all (go_of_new (gx_lcM (xs := b.barred) (enc := eL) (f := fun _ => .bool true) (own := [("lot", 16)]) rfl sc_Book___init__.nd (goi_list (go_var 3)) (fun k x hx => by
    obtain ⟨b31, b32⟩ := hb.b3 x (List.mem_of_getElem? hx)
    have hw := lotS_of b32 zH
    have lx : (((x.map PyData.str).length : Nat) : Int) = (x.length : Int) := by rw [List.length_map]
    exact ⟨_, _, fun s H C cl fp => (gog_name 16 sc_Book___init__.nd), fun s H C cl fp => (go_is (go_andV (goc (gx_c (.of hr) (gx_len bt.len (go_var 16)) go_int)) fun hk => go_one (gx_call c_is_lot_of hr (by decide) (goA_cons (go_var 16) (goA_cons (go_var 1) goA_nil)) ⟨x, b.holds, rfl, rfl, hw⟩)) (by rw [b32, lx, decide_eq_true (show (1 : Int) < (x.length : Int) by omega)]; rfl)), by simp⟩) (by first | (show blkC ["self", "holds", "modes", "barred", "commands", "alarms", "rows", "quiet", "parts", "some", "many", "part", "known", "_", "on", "off", "lot", "to", "steps", "step", "named", "command", "ordered", "name"] (defScope s_Book___init__) _ _ = true; decide +kernel) | (show blkC ["self", "holds", "modes", "barred", "commands", "alarms", "rows", "quiet", "parts", "some", "many", "part", "known", "_", "on", "off", "lot", "to", "steps", "step", "named", "command", "ordered", "name"] (relS _ (defScope s_Book___init__)) _ _ = true; decide +kernel) | (show blkC ["self", "holds", "modes", "barred", "commands", "alarms", "rows", "quiet", "parts", "some", "many", "part", "known", "_", "on", "off", "lot", "to", "steps", "step", "named", "command", "ordered", "name"] (relS _ (relS _ (defScope s_Book___init__))) _ _ = true; decide +kernel)))) (fun d hd => by
    obtain ⟨_, _, rfl⟩ := List.mem_map.mp hd
    exact ⟨true, rfl⟩)) ?_) goA_nil) ⟨rfl, rfl⟩) ?_)
  · exact congrArg PyData.bool (allT fun d hd => by
      obtain ⟨_, _, rfl⟩ := List.mem_map.mp hd
      rfl)
  have hcm : ∀ c ∈ b.cmds, LotS c.ms := fun c hc => lotS_of (hb.cM c hc) zN
  refine rn_cons (rs_expr (gx_callE c_require hr (by decide) (goA_cons (go_is (gx_all rfl bt.all (go_of_new (gx_lcM (xs := b.cmds) (enc := eC) (f := fun c => .bool (lotOfB c.ms b.mn)) (own := [("_", 13), ("some", 9)]) rfl sc_Book___init__.nd (goi_list (go_var 4)) (fun k x hx => by
    have hw := hcm x (List.mem_of_getElem? hx)
    exact ⟨_, _, fun s H C cl fp => (gog_tup rfl (gogs_cons (gog_name 13 sc_Book___init__.nd) (gogs_cons (gog_name 9 sc_Book___init__.nd) (gogs_cons (gog_name 13 sc_Book___init__.nd) (gogs_cons (gog_name 13 sc_Book___init__.nd) (gogs_cons (gog_name 13 sc_Book___init__.nd) gogs_nil)))))), fun s H C cl fp => (gx_call c_is_lot_of hr (by decide) (goA_cons (go_var 9) (goA_cons (go_var 12) goA_nil)) ⟨x.ms, b.mn, rfl, rfl, hw⟩), by simp⟩) (by first | (show blkC ["self", "holds", "modes", "barred", "commands", "alarms", "rows", "quiet", "parts", "some", "many", "part", "known", "_", "on", "off", "lot", "to", "steps", "step", "named", "command", "ordered", "name"] (defScope s_Book___init__) _ _ = true; decide +kernel) | (show blkC ["self", "holds", "modes", "barred", "commands", "alarms", "rows", "quiet", "parts", "some", "many", "part", "known", "_", "on", "off", "lot", "to", "steps", "step", "named", "command", "ordered", "name"] (relS _ (defScope s_Book___init__)) _ _ = true; decide +kernel) | (show blkC ["self", "holds", "modes", "barred", "commands", "alarms", "rows", "quiet", "parts", "some", "many", "part", "known", "_", "on", "off", "lot", "to", "steps", "step", "named", "command", "ordered", "name"] (relS _ (relS _ (defScope s_Book___init__))) _ _ = true; decide +kernel))))) ?_) goA_nil) ⟨rfl, rfl⟩) ?_)
  · exact congrArg PyData.bool (mapT hb.cM)
  have eff : ∀ (on off : List Str) (to : Option Str), turnB on off b.holds = true → toOk to b.mn → effB on off to b.holds b.mn = true := fun on off to h1 h2 => by
    unfold effB
    rw [h1]
    cases to with
    | none => rfl
    | some x => exact decide_eq_true (h2 x rfl)
  refine rn_cons (rs_expr (gx_callE c_require hr (by decide) (goA_cons (go_is (gx_all rfl bt.all (go_of_new (gx_lcM (xs := b.cmds) (enc := eC) (f := fun c => .bool (effB c.on c.off c.to b.holds b.mn)) (own := [("_", 13), ("on", 14), ("off", 15), ("to", 17)]) rfl sc_Book___init__.nd (goi_list (go_var 4)) (fun k x hx => by
    have hw := turnS (hb.cE x (List.mem_of_getElem? hx)).1 zH
    exact ⟨_, _, fun s H C cl fp => (gog_tup rfl (gogs_cons (gog_name 13 sc_Book___init__.nd) (gogs_cons (gog_name 13 sc_Book___init__.nd) (gogs_cons (gog_name 14 sc_Book___init__.nd) (gogs_cons (gog_name 15 sc_Book___init__.nd) (gogs_cons (gog_name 17 sc_Book___init__.nd) gogs_nil)))))), fun s H C cl fp => (gx_call c_is_effect hr (by decide) (goA_cons (go_var 14) (goA_cons (go_var 15) (goA_cons (go_var 17) (goA_cons (go_var 1) (goA_cons (go_var 12) goA_nil))))) ⟨x.on, x.off, x.to, b.holds, b.mn, rfl, rfl, hw⟩), by simp⟩) (by first | (show blkC ["self", "holds", "modes", "barred", "commands", "alarms", "rows", "quiet", "parts", "some", "many", "part", "known", "_", "on", "off", "lot", "to", "steps", "step", "named", "command", "ordered", "name"] (defScope s_Book___init__) _ _ = true; decide +kernel) | (show blkC ["self", "holds", "modes", "barred", "commands", "alarms", "rows", "quiet", "parts", "some", "many", "part", "known", "_", "on", "off", "lot", "to", "steps", "step", "named", "command", "ordered", "name"] (relS _ (defScope s_Book___init__)) _ _ = true; decide +kernel) | (show blkC ["self", "holds", "modes", "barred", "commands", "alarms", "rows", "quiet", "parts", "some", "many", "part", "known", "_", "on", "off", "lot", "to", "steps", "step", "named", "command", "ordered", "name"] (relS _ (relS _ (defScope s_Book___init__))) _ _ = true; decide +kernel))))) ?_) goA_nil) ⟨rfl, rfl⟩) ?_)
  · exact congrArg PyData.bool (mapT fun c hc => eff _ _ _ (hb.cE c hc).1 (hb.cE c hc).2)
  refine rn_cons (rs_expr (gx_callE c_require hr (by decide) (goA_cons (go_is (gx_all rfl bt.all (go_of_new (gx_lcM (xs := b.alarms) (enc := eA) (f := fun c => .bool (effB c.on c.off c.to b.holds b.mn)) (own := [("_", 13), ("on", 14), ("off", 15), ("to", 17)]) rfl sc_Book___init__.nd (goi_list (go_var 5)) (fun k x hx => by
    have hw := turnS (hb.aE x (List.mem_of_getElem? hx)).1 zH
    exact ⟨_, _, fun s H C cl fp => (gog_tup rfl (gogs_cons (gog_name 13 sc_Book___init__.nd) (gogs_cons (gog_name 14 sc_Book___init__.nd) (gogs_cons (gog_name 15 sc_Book___init__.nd) (gogs_cons (gog_name 17 sc_Book___init__.nd) gogs_nil))))), fun s H C cl fp => (gx_call c_is_effect hr (by decide) (goA_cons (go_var 14) (goA_cons (go_var 15) (goA_cons (go_var 17) (goA_cons (go_var 1) (goA_cons (go_var 12) goA_nil))))) ⟨x.on, x.off, x.to, b.holds, b.mn, rfl, rfl, hw⟩), by simp⟩) (by first | (show blkC ["self", "holds", "modes", "barred", "commands", "alarms", "rows", "quiet", "parts", "some", "many", "part", "known", "_", "on", "off", "lot", "to", "steps", "step", "named", "command", "ordered", "name"] (defScope s_Book___init__) _ _ = true; decide +kernel) | (show blkC ["self", "holds", "modes", "barred", "commands", "alarms", "rows", "quiet", "parts", "some", "many", "part", "known", "_", "on", "off", "lot", "to", "steps", "step", "named", "command", "ordered", "name"] (relS _ (defScope s_Book___init__)) _ _ = true; decide +kernel) | (show blkC ["self", "holds", "modes", "barred", "commands", "alarms", "rows", "quiet", "parts", "some", "many", "part", "known", "_", "on", "off", "lot", "to", "steps", "step", "named", "command", "ordered", "name"] (relS _ (relS _ (defScope s_Book___init__))) _ _ = true; decide +kernel))))) ?_) goA_nil) ⟨rfl, rfl⟩) ?_)
  · exact congrArg PyData.bool (mapT fun c hc => eff _ _ _ (hb.aE c hc).1 (hb.aE c hc).2)
  refine rn_cons (rs_expr (gx_callE c_require hr (by decide) (goA_cons (go_is (gx_all rfl bt.all (go_of_new (gx_lcM (xs := b.rows) (enc := eR) (f := fun r => .bool (decide ((1 : Int) ≤ (((r.st.map eSt).length : Nat) : Int)) && decide ((((r.st.map eSt).length : Nat) : Int) ≤ 4))) (own := [("_", 13), ("steps", 18)]) rfl sc_Book___init__.nd (goi_list (go_var 6)) (fun k x hx => by
    exact ⟨_, _, fun s H C cl fp => (gog_tup rfl (gogs_cons (gog_name 13 sc_Book___init__.nd) (gogs_cons (gog_name 18 sc_Book___init__.nd) gogs_nil))), fun s H C cl fp => (go_chainI op_le op_le go_int (gx_len bt.len (go_var 18)) go_int), by simp⟩) (by first | (show blkC ["self", "holds", "modes", "barred", "commands", "alarms", "rows", "quiet", "parts", "some", "many", "part", "known", "_", "on", "off", "lot", "to", "steps", "step", "named", "command", "ordered", "name"] (defScope s_Book___init__) _ _ = true; decide +kernel) | (show blkC ["self", "holds", "modes", "barred", "commands", "alarms", "rows", "quiet", "parts", "some", "many", "part", "known", "_", "on", "off", "lot", "to", "steps", "step", "named", "command", "ordered", "name"] (relS _ (defScope s_Book___init__)) _ _ = true; decide +kernel) | (show blkC ["self", "holds", "modes", "barred", "commands", "alarms", "rows", "quiet", "parts", "some", "many", "part", "known", "_", "on", "off", "lot", "to", "steps", "step", "named", "command", "ordered", "name"] (relS _ (relS _ (defScope s_Book___init__))) _ _ = true; decide +kernel))))) ?_) goA_nil) ⟨rfl, rfl⟩) ?_)
  · exact congrArg PyData.bool (mapT fun r hr => by
      obtain ⟨h1, h2, _⟩ := hb.rS r hr
      rw [List.length_map, Bool.and_eq_true]
      exact ⟨decide_eq_true (by omega), decide_eq_true (by omega)⟩)
  have sT : ∀ d ∈ b.rows.flatMap fun r => r.st.map fun s => PyData.bool (stepB s b.cn), d = .bool true := fun d hd => by
    obtain ⟨r, hr, hd⟩ := List.mem_flatMap.mp hd
    obtain ⟨s, hs, rfl⟩ := List.mem_map.mp hd
    obtain ⟨_, _, h3⟩ := hb.rS r hr
    obtain ⟨g1, g2, g3⟩ := h3 s hs
    unfold stepB
    rw [decide_eq_true g1, decide_eq_true g2, decide_eq_true g3]
    rfl
  refine rn_cons (rs_expr (gx_callE c_require hr (by decide) (goA_cons (go_is (gx_all rfl bt.all (go_of_new (gx_lc2 (xs := b.rows) (enc := eR) (ys := fun r => r.st) (enc1 := fun _ s => eSt s) (f := fun _ s => .bool (stepB s b.cn)) [("_", 13), ("steps", 18), ("step", 19)] [19] rfl sc_Book___init__.nd (goi_list (go_var 6)) (fun k x hx => by
    refine ⟨_, _, fun s H C cl fp => (gog_tup rfl (gogs_cons (gog_name 13 sc_Book___init__.nd) (gogs_cons (gog_name 18 sc_Book___init__.nd) gogs_nil))), fun s H C cl fp => goi_tup (go_var 18), fun j y hy => ?_, by simp⟩
    exact ⟨_, _, fun s H C cl fp => (gog_name 19 sc_Book___init__.nd), fun s H C cl fp => (gx_call c_is_step hr (by decide) (goA_cons (go_var 19) (goA_cons (gx_call c_names_of hr (by decide) (goA_cons (go_var 4) goA_nil) hC) goA_nil)) ⟨y, b.cn, rfl, rfl⟩), by simp⟩) (by first | (show blkC ["self", "holds", "modes", "barred", "commands", "alarms", "rows", "quiet", "parts", "some", "many", "part", "known", "_", "on", "off", "lot", "to", "steps", "step", "named", "command", "ordered", "name"] (defScope s_Book___init__) _ _ = true; decide +kernel) | (show blkC ["self", "holds", "modes", "barred", "commands", "alarms", "rows", "quiet", "parts", "some", "many", "part", "known", "_", "on", "off", "lot", "to", "steps", "step", "named", "command", "ordered", "name"] (relS _ (defScope s_Book___init__)) _ _ = true; decide +kernel) | (show blkC ["self", "holds", "modes", "barred", "commands", "alarms", "rows", "quiet", "parts", "some", "many", "part", "known", "_", "on", "off", "lot", "to", "steps", "step", "named", "command", "ordered", "name"] (relS _ (relS _ (defScope s_Book___init__))) _ _ = true; decide +kernel)) (fun n => by
    refine Nat.lt_of_le_of_lt (flat_le _ 4 _ fun x hx => (hb.rS x (List.mem_of_mem_take hx)).2.1) ?_
    have := List.length_take_le' n b.rows
    have m6 : b.rows.length ≤ 3 := by rw [List.length_map] at m4; omega
    omega))) (boolsT sT)) ?_) goA_nil) ⟨rfl, rfl⟩) ?_)
  · exact congrArg PyData.bool (allT sT)
  refine rn_cons (rs_expr (gx_callE c_require hr (by decide) (goA_cons (go_is (go_orV (l := true) (goc (gc_isN (go_var 7))) fun hk => ?_) (congrArg PyData.bool (Bool.or_true _))) goA_nil) ⟨rfl, rfl⟩) ?_)
  · obtain ⟨q, hq⟩ : ∃ q, b.quiet = some q := by
      cases h : b.quiet with
      | none =>
        rw [h] at hk
        exact absurd hk (by decide)
      | some q => exact ⟨q, rfl⟩
    obtain ⟨q1, q2⟩ := hb.q q hq
    refine go_one (go_is (go_chainI op_le op_le go_int (go_is (go_var 7) (d' := .int q) (by rw [hq]; rfl)) go_int) ?_)
    rw [decide_eq_true q1, decide_eq_true q2]
    rfl
  refine rn_to (Γ' := [_, _, _, _, _, _, _, _, _, .any, .any, .any, _, .any, .any, .any, .any, .any, .any, .any, .any, .any, .any, .any]) rfl ?_
  have ndC : ((b.cmds.map fun c => (c.n, eC c)).map (·.1)).Nodup := by
    rw [List.map_map]
    exact hb.c.nd
  have eN : putsD [] (b.cmds.map fun c => (c.n, eC c)) = b.cmds.map fun c => (c.n, eC c) := putsD_new (by rw [List.nil_append]; exact ndC)
  refine rn_cons (rs_fldN 0 (Ss' := [("_holds", .own ((sortS b.holds).map .str))]) O_Book (gx_sort (.of hr) bt.sorted (go_var 1)) rfl .pin ?_)
  refine rn_cons (rs_fldN 0 (Ss' := [("_holds", .own ((sortS b.holds).map .str)), ("_barred", .own (srt (b.barred.map eL)))]) O_Book (goN_sortD (ds := b.barred.map eL) (.of hr) bt.sorted (go_var 3) (by exact rfl) (sortOk_L (xs := b.barred) (by omega) fun l hl e => by have := (hb.b3 l hl).1; rw [e] at this; exact absurd this (by decide))) rfl .pin ?_)
  refine rn_cons (rs_set 20 (goP_dc (xs := b.cmds) (enc := eC) (kf := Cm.n) (f := eC) [("command", 21)] rfl sc_Book___init__.nd (goi_list (go_var 4)) (fun k x hx => ⟨_, _, fun s H C cl fp => (gog_name 21 sc_Book___init__.nd), fun s H C cl fp => (gx_ix (go_var 21) go_int (by exact atI_head)), fun s H C cl fp => go_var 21, by simp⟩) (by first | (show blkC ["self", "holds", "modes", "barred", "commands", "alarms", "rows", "quiet", "parts", "some", "many", "part", "known", "_", "on", "off", "lot", "to", "steps", "step", "named", "command", "ordered", "name"] (defScope s_Book___init__) _ _ = true; decide +kernel) | (show blkC ["self", "holds", "modes", "barred", "commands", "alarms", "rows", "quiet", "parts", "some", "many", "part", "known", "_", "on", "off", "lot", "to", "steps", "step", "named", "command", "ordered", "name"] (relS _ (defScope s_Book___init__)) _ _ = true; decide +kernel) | (show blkC ["self", "holds", "modes", "barred", "commands", "alarms", "rows", "quiet", "parts", "some", "many", "part", "known", "_", "on", "off", "lot", "to", "steps", "step", "named", "command", "ordered", "name"] (relS _ (relS _ (defScope s_Book___init__))) _ _ = true; decide +kernel))) ?_ sc_Book___init__.nd)
  refine rn_is 20 rfl (congrArg (fun z => Sl.pr (dctP z)) eN) ?_
  have eS : ((sortS ((b.cmds.map fun c => (c.n, eC c)).map (·.1))).map PyData.str) = b.cmdsS.map fun c => .str c.n := by
    have e1 : (b.cmds.map fun c => (c.n, eC c)).map (·.1) = b.cn := by
      rw [List.map_map]
      rfl
    rw [e1, ← cmds_n, List.map_map]
    rfl
  have zS : b.cmdsS.length < 1000000 := by rw [(cmds_perm b).length_eq]; exact zC
  refine rn_cons (rs_lcMO 22 (xs := b.cmdsS) (enc := fun c => .str c.n) (f := eC) (own := [("name", 23)]) rfl sc_Book___init__.nd (goi_is (goi_list (go_of_new (goN_sortDct rfl bt.sorted (go_var 20) (by rw [List.length_map] at m2 ⊢; omega)))) eS) (fun k x hx => ⟨_, _, fun s H C cl fp => (gog_name 23 sc_Book___init__.nd), fun s H C cl fp => (go_dctIx (.of hr) (go_var 20) (go_var 23) (getD'_mem ndC (List.mem_map.mpr ⟨x, (cmds_perm b).mem_iff.mp (List.mem_of_getElem? hx), rfl⟩))), by simp⟩) (by first | (show blkC ["self", "holds", "modes", "barred", "commands", "alarms", "rows", "quiet", "parts", "some", "many", "part", "known", "_", "on", "off", "lot", "to", "steps", "step", "named", "command", "ordered", "name"] (defScope s_Book___init__) _ _ = true; decide +kernel) | (show blkC ["self", "holds", "modes", "barred", "commands", "alarms", "rows", "quiet", "parts", "some", "many", "part", "known", "_", "on", "off", "lot", "to", "steps", "step", "named", "command", "ordered", "name"] (relS _ (defScope s_Book___init__)) _ _ = true; decide +kernel) | (show blkC ["self", "holds", "modes", "barred", "commands", "alarms", "rows", "quiet", "parts", "some", "many", "part", "known", "_", "on", "off", "lot", "to", "steps", "step", "named", "command", "ordered", "name"] (relS _ (relS _ (defScope s_Book___init__))) _ _ = true; decide +kernel)) (sw_true rfl rfl rfl (by decide +kernel)) ?_)
  refine rn_cons (rs_fldV 0 22 (Ss' := [("_holds", .own ((sortS b.holds).map .str)), ("_barred", .own (srt (b.barred.map eL))), ("_parts", .ob (dclO b.partsL))]) O_Book (goV_dct4 22 (go_gcon x_MODE) (go_gcon x_COMMAND) (go_gcon x_ALARM) (go_gcon x_ROW) (gx_list bt.list (go_var 2)) (gx_list bt.list (go_var 5)) (gx_list bt.list (go_var 6)) rfl (fun _ _ _ _ => rfl)) rfl .pin (by decide) (by rw [hJ]; decide) ?_)
  refine rn_cons (rs_fld 0 (Ss' := [("_holds", .own ((sortS b.holds).map .str)), ("_barred", .own (srt (b.barred.map eL))), ("_parts", .ob (dclO b.partsL)), ("_quiet", .dat (eQ b.quiet))]) O_Book (go_var 7) rfl .pin ?_)
  exact rn_nil ⟨rfl, fun _ _ => Dp.non⟩
end

/-! ### books: what they tell -/
abbrev s_Book_holds : Stmt := inClass (topS 20) 1
theorem sc_Book_holds : FnScope ["self"] ["self"] (defScope s_Book_holds) := ⟨rfl, rfl, rfl, by decide +kernel, rfl, by decide +kernel, by decide +kernel⟩
abbrev s_Book_modes : Stmt := inClass (topS 20) 2
theorem sc_Book_modes : FnScope ["self"] ["self"] (defScope s_Book_modes) := ⟨rfl, rfl, rfl, by decide +kernel, rfl, by decide +kernel, by decide +kernel⟩
abbrev s_Book_commands : Stmt := inClass (topS 20) 4
theorem sc_Book_commands : FnScope ["self"] ["self"] (defScope s_Book_commands) := ⟨rfl, rfl, rfl, by decide +kernel, rfl, by decide +kernel, by decide +kernel⟩
abbrev s_Book_alarms : Stmt := inClass (topS 20) 5
theorem sc_Book_alarms : FnScope ["self"] ["self"] (defScope s_Book_alarms) := ⟨rfl, rfl, rfl, by decide +kernel, rfl, by decide +kernel, by decide +kernel⟩
abbrev s_Book_rows : Stmt := inClass (topS 20) 6
theorem sc_Book_rows : FnScope ["self"] ["self"] (defScope s_Book_rows) := ⟨rfl, rfl, rfl, by decide +kernel, rfl, by decide +kernel, by decide +kernel⟩
abbrev s_Book_quiet : Stmt := inClass (topS 20) 7
theorem sc_Book_quiet : FnScope ["self"] ["self"] (defScope s_Book_quiet) := ⟨rfl, rfl, rfl, by decide +kernel, rfl, by decide +kernel, by decide +kernel⟩
def S_Book_holds : List Mn → Ow → Prop := fun Ps R => ∃ b : Bk, Ps = [bookP b] ∧ R = lstO ((sortS b.holds).map .str)
def S_Book_modes : List Mn → Ow → Prop := fun Ps R => ∃ b : Bk, Ps = [bookP b] ∧ R = lstO (b.modes.map eM)
def S_Book_commands : List Mn → Ow → Prop := fun Ps R => ∃ b : Bk, Ps = [bookP b] ∧ R = lstO (b.cmdsS.map eC)
def S_Book_alarms : List Mn → Ow → Prop := fun Ps R => ∃ b : Bk, Ps = [bookP b] ∧ R = lstO (b.alarms.map eA)
def S_Book_rows : List Mn → Ow → Prop := fun Ps R => ∃ b : Bk, Ps = [bookP b] ∧ R = lstO (b.rows.map eR)
def S_Book_quiet : List Mn → Mn → Prop := fun Ps R => ∃ b : Bk, Ps = [bookP b] ∧ R = datP (eQ b.quiet)
section
variable {P : Program} {w : World} {K : PySem.W.Frag} {mg : Str → Option Value} {base : Heap}
theorem ok_Book_holds (df : MtdP K "Book" "holds" "Book.holds" s_Book_holds ["self"])   (x_LETTERS : GlobD K mg "LETTERS" (.str letS)) (T_InvalidBook : Ec0 K mg "InvalidBook") (x_MODE : GlobD K mg "MODE" (.str "mode")) (x_COMMAND : GlobD K mg "COMMAND" (.str "command")) (x_ALARM : GlobD K mg "ALARM" (.str "alarm")) (x_ROW : GlobD K mg "ROW" (.str "row")) (O_Book : ClsOk K "Book" ["_holds", "_barred", "_parts", "_quiet"]) (bt : Bt mg) : CalPU P w K mg base "Book" "holds" ["self"] 1 S_Book_holds := by
  refine mPU_ok df sc_Book_holds ?_ ?_
  · rintro _ _ ⟨b, rfl, rfl⟩
    rfl
  rintro _ _ ⟨b, rfl, rfl⟩ f cdv A outer s H E hr J hJ
  refine rn_cons (rs_retU (goU_of_N (gx_list bt.list (go_fld O_Book (go_var 0) rfl (by decide)))))
theorem ok_Book_modes (df : MtdP K "Book" "modes" "Book.modes" s_Book_modes ["self"])   (x_LETTERS : GlobD K mg "LETTERS" (.str letS)) (T_InvalidBook : Ec0 K mg "InvalidBook") (x_MODE : GlobD K mg "MODE" (.str "mode")) (x_COMMAND : GlobD K mg "COMMAND" (.str "command")) (x_ALARM : GlobD K mg "ALARM" (.str "alarm")) (x_ROW : GlobD K mg "ROW" (.str "row")) (O_Book : ClsOk K "Book" ["_holds", "_barred", "_parts", "_quiet"]) (bt : Bt mg) : CalPU P w K mg base "Book" "modes" ["self"] 1 S_Book_modes := by
  refine mPU_ok df sc_Book_modes ?_ ?_
  · rintro _ _ ⟨b, rfl, rfl⟩
    rfl
  rintro _ _ ⟨b, rfl, rfl⟩ f cdv A outer s H E hr J hJ
  refine rn_cons (rs_retU (goU_of_N (gx_list bt.list (go_dctIx (.of hr) (go_fld O_Book (go_var 0) rfl (by decide)) (go_gcon x_MODE) (by exact rfl)))))
theorem ok_Book_commands (df : MtdP K "Book" "commands" "Book.commands" s_Book_commands ["self"])   (x_LETTERS : GlobD K mg "LETTERS" (.str letS)) (T_InvalidBook : Ec0 K mg "InvalidBook") (x_MODE : GlobD K mg "MODE" (.str "mode")) (x_COMMAND : GlobD K mg "COMMAND" (.str "command")) (x_ALARM : GlobD K mg "ALARM" (.str "alarm")) (x_ROW : GlobD K mg "ROW" (.str "row")) (O_Book : ClsOk K "Book" ["_holds", "_barred", "_parts", "_quiet"]) (bt : Bt mg) : CalPU P w K mg base "Book" "commands" ["self"] 1 S_Book_commands := by
  refine mPU_ok df sc_Book_commands ?_ ?_
  · rintro _ _ ⟨b, rfl, rfl⟩
    rfl
  rintro _ _ ⟨b, rfl, rfl⟩ f cdv A outer s H E hr J hJ
  refine rn_cons (rs_retU (goU_of_N (gx_list bt.list (go_dctIx (.of hr) (go_fld O_Book (go_var 0) rfl (by decide)) (go_gcon x_COMMAND) (by exact rfl)))))
theorem ok_Book_alarms (df : MtdP K "Book" "alarms" "Book.alarms" s_Book_alarms ["self"])   (x_LETTERS : GlobD K mg "LETTERS" (.str letS)) (T_InvalidBook : Ec0 K mg "InvalidBook") (x_MODE : GlobD K mg "MODE" (.str "mode")) (x_COMMAND : GlobD K mg "COMMAND" (.str "command")) (x_ALARM : GlobD K mg "ALARM" (.str "alarm")) (x_ROW : GlobD K mg "ROW" (.str "row")) (O_Book : ClsOk K "Book" ["_holds", "_barred", "_parts", "_quiet"]) (bt : Bt mg) : CalPU P w K mg base "Book" "alarms" ["self"] 1 S_Book_alarms := by
  refine mPU_ok df sc_Book_alarms ?_ ?_
  · rintro _ _ ⟨b, rfl, rfl⟩
    rfl
  rintro _ _ ⟨b, rfl, rfl⟩ f cdv A outer s H E hr J hJ
  refine rn_cons (rs_retU (goU_of_N (gx_list bt.list (go_dctIx (.of hr) (go_fld O_Book (go_var 0) rfl (by decide)) (go_gcon x_ALARM) (by exact rfl)))))
theorem ok_Book_rows (df : MtdP K "Book" "rows" "Book.rows" s_Book_rows ["self"])   (x_LETTERS : GlobD K mg "LETTERS" (.str letS)) (T_InvalidBook : Ec0 K mg "InvalidBook") (x_MODE : GlobD K mg "MODE" (.str "mode")) (x_COMMAND : GlobD K mg "COMMAND" (.str "command")) (x_ALARM : GlobD K mg "ALARM" (.str "alarm")) (x_ROW : GlobD K mg "ROW" (.str "row")) (O_Book : ClsOk K "Book" ["_holds", "_barred", "_parts", "_quiet"]) (bt : Bt mg) : CalPU P w K mg base "Book" "rows" ["self"] 1 S_Book_rows := by
  refine mPU_ok df sc_Book_rows ?_ ?_
  · rintro _ _ ⟨b, rfl, rfl⟩
    rfl
  rintro _ _ ⟨b, rfl, rfl⟩ f cdv A outer s H E hr J hJ
  refine rn_cons (rs_retU (goU_of_N (gx_list bt.list (go_dctIx (.of hr) (go_fld O_Book (go_var 0) rfl (by decide)) (go_gcon x_ROW) (by exact rfl)))))
theorem ok_Book_quiet (df : MtdP K "Book" "quiet" "Book.quiet" s_Book_quiet ["self"])   (x_LETTERS : GlobD K mg "LETTERS" (.str letS)) (T_InvalidBook : Ec0 K mg "InvalidBook") (x_MODE : GlobD K mg "MODE" (.str "mode")) (x_COMMAND : GlobD K mg "COMMAND" (.str "command")) (x_ALARM : GlobD K mg "ALARM" (.str "alarm")) (x_ROW : GlobD K mg "ROW" (.str "row")) (O_Book : ClsOk K "Book" ["_holds", "_barred", "_parts", "_quiet"]) (bt : Bt mg) : CalP P w K mg base "Book" "quiet" ["self"] 1 S_Book_quiet := by
  refine mP_ok df sc_Book_quiet ?_ ?_
  · rintro _ _ ⟨b, rfl, rfl⟩
    rfl
  rintro _ _ ⟨b, rfl, rfl⟩ f cdv A outer s H E hr J hJ
  refine rn_cons (rs_ret (go_fld O_Book (go_var 0) rfl (by decide)))
end
/-! ### books: the parts by their names -/
abbrev s_Book_barred : Stmt := inClass (topS 20) 3
theorem sc_Book_barred : FnScope ["self"] ["self"] (defScope s_Book_barred) := ⟨rfl, rfl, rfl, by decide +kernel, rfl, by decide +kernel, by decide +kernel⟩
abbrev s_Book_safe : Stmt := inClass (topS 20) 8
theorem sc_Book_safe : FnScope ["self"] ["self"] (defScope s_Book_safe) := ⟨rfl, rfl, rfl, by decide +kernel, rfl, by decide +kernel, by decide +kernel⟩
abbrev s_Book_part_named : Stmt := inClass (topS 20) 9
theorem sc_Book_part_named : FnScope ["self", "sort", "name", "part"] ["self", "sort", "name"] (defScope s_Book_part_named) := ⟨rfl, rfl, rfl, by decide +kernel, rfl, by decide +kernel, by decide +kernel⟩
abbrev s_Book_mode_named : Stmt := inClass (topS 20) 10
theorem sc_Book_mode_named : FnScope ["self", "name"] ["self", "name"] (defScope s_Book_mode_named) := ⟨rfl, rfl, rfl, by decide +kernel, rfl, by decide +kernel, by decide +kernel⟩
abbrev s_Book_command_named : Stmt := inClass (topS 20) 11
theorem sc_Book_command_named : FnScope ["self", "name"] ["self", "name"] (defScope s_Book_command_named) := ⟨rfl, rfl, rfl, by decide +kernel, rfl, by decide +kernel, by decide +kernel⟩
abbrev s_Book_alarm_named : Stmt := inClass (topS 20) 12
theorem sc_Book_alarm_named : FnScope ["self", "name"] ["self", "name"] (defScope s_Book_alarm_named) := ⟨rfl, rfl, rfl, by decide +kernel, rfl, by decide +kernel, by decide +kernel⟩
abbrev s_Book_row_named : Stmt := inClass (topS 20) 13
theorem sc_Book_row_named : FnScope ["self", "name"] ["self", "name"] (defScope s_Book_row_named) := ⟨rfl, rfl, rfl, by decide +kernel, rfl, by decide +kernel, by decide +kernel⟩
def S_Book_barred : List Mn → Ow → Prop := fun Ps R => ∃ b : Bk, Ps = [bookP b] ∧ R = lstO (srt (b.barred.map eL))
def S_Book_safe : List Mn → Mn → Prop := fun Ps R => ∃ (b : Bk) (m : Md) (r : List Md), Ps = [bookP b] ∧ R = datP (.str m.n) ∧ b.modes = m :: r
def S_Book_part_named : List Mn → Mn → Prop := fun Ps R => ∃ (b : Bk) (sort : Str) (xs : List (Str × List D)) (x : Str × List D), Ps = [bookP b, datP (.str sort), datP (.str x.1)] ∧ R = datP (encP x) ∧ (getD' b.parts sort = some (.list (xs.map encP)) ∧ x ∈ xs ∧ (xs.map (·.1)).Nodup)
def E_Book_part_named : List Mn → Er → Prop := fun Ps r => ∃ (b : Bk) (sort : Str) (xs : List (Str × List D)) (nm : Str), Ps = [bookP b, datP (.str sort), datP (.str nm)] ∧ r = erF "UnknownName" "name" (.str nm) ∧ (getD' b.parts sort = some (.list (xs.map encP)) ∧ nm ∉ xs.map (·.1))
def S_Book_mode_named : List Mn → Mn → Prop := fun Ps R => ∃ (b : Bk) (m : Md), Ps = [bookP b, datP (.str m.n)] ∧ R = datP (eM m) ∧ (BkOk b ∧ m ∈ b.modes)
def E_Book_mode_named : List Mn → Er → Prop := fun Ps r => ∃ (b : Bk) (nm : Str), Ps = [bookP b, datP (.str nm)] ∧ r = erF "UnknownName" "name" (.str nm) ∧ (BkOk b ∧ nm ∉ b.mn)
def S_Book_command_named : List Mn → Mn → Prop := fun Ps R => ∃ (b : Bk) (m : Cm), Ps = [bookP b, datP (.str m.n)] ∧ R = datP (eC m) ∧ (BkOk b ∧ m ∈ b.cmds)
def E_Book_command_named : List Mn → Er → Prop := fun Ps r => ∃ (b : Bk) (nm : Str), Ps = [bookP b, datP (.str nm)] ∧ r = erF "UnknownName" "name" (.str nm) ∧ (BkOk b ∧ nm ∉ b.cn)
def S_Book_alarm_named : List Mn → Mn → Prop := fun Ps R => ∃ (b : Bk) (m : Al), Ps = [bookP b, datP (.str m.n)] ∧ R = datP (eA m) ∧ (BkOk b ∧ m ∈ b.alarms)
def E_Book_alarm_named : List Mn → Er → Prop := fun Ps r => ∃ (b : Bk) (nm : Str), Ps = [bookP b, datP (.str nm)] ∧ r = erF "UnknownName" "name" (.str nm) ∧ (BkOk b ∧ nm ∉ b.an)
def S_Book_row_named : List Mn → Mn → Prop := fun Ps R => ∃ (b : Bk) (m : Rw), Ps = [bookP b, datP (.str m.n)] ∧ R = datP (eR m) ∧ (BkOk b ∧ m ∈ b.rows)
def E_Book_row_named : List Mn → Er → Prop := fun Ps r => ∃ (b : Bk) (nm : Str), Ps = [bookP b, datP (.str nm)] ∧ r = erF "UnknownName" "name" (.str nm) ∧ (BkOk b ∧ nm ∉ b.rn)
theorem inj_nd {xs : List (Str × List D)} (h : (xs.map (·.1)).Nodup) {x y : Str × List D} (hx : x ∈ xs) (hy : y ∈ xs) (e : x.1 = y.1) : x = y := by
  induction xs with
  | nil => cases hx
  | cons z r ih =>
    rw [List.map_cons] at h
    obtain ⟨h1, h2⟩ := List.nodup_cons.mp h
    rcases List.mem_cons.mp hx with e1 | hx1
    · rcases List.mem_cons.mp hy with e2 | hy1
      · rw [e1, e2]
      · exact absurd (List.mem_map.mpr ⟨y, hy1, by rw [← e, e1]⟩) h1
    · rcases List.mem_cons.mp hy with e2 | hy1
      · exact absurd (List.mem_map.mpr ⟨x, hx1, by rw [e, e2]⟩) h1
      · exact ih h2 hx1 hy1
section
variable {P : Program} {w : World} {K : PySem.W.Frag} {mg : Str → Option Value} {base : Heap}
theorem ok_Book_barred (df : MtdP K "Book" "barred" "Book.barred" s_Book_barred ["self"])   (x_LETTERS : GlobD K mg "LETTERS" (.str letS)) (T_InvalidBook : Ec0 K mg "InvalidBook") (x_MODE : GlobD K mg "MODE" (.str "mode")) (x_COMMAND : GlobD K mg "COMMAND" (.str "command")) (x_ALARM : GlobD K mg "ALARM" (.str "alarm")) (x_ROW : GlobD K mg "ROW" (.str "row")) (O_Book : ClsOk K "Book" ["_holds", "_barred", "_parts", "_quiet"]) (T_Unk : Xt_UnknownName P K mg) (bt : Bt mg) : CalPU P w K mg base "Book" "barred" ["self"] 1 S_Book_barred := by
  refine mPU_ok df sc_Book_barred ?_ ?_
  · rintro _ _ ⟨b, rfl, rfl⟩
    rfl
  rintro _ _ ⟨b, rfl, rfl⟩ f cdv A outer s H E hr J hJ
  refine rn_cons (rs_retU (goU_of_N (gx_list bt.list (go_fld O_Book (go_var 0) rfl (by decide)))))
theorem ok_Book_safe (df : MtdP K "Book" "safe" "Book.safe" s_Book_safe ["self"])   (x_LETTERS : GlobD K mg "LETTERS" (.str letS)) (T_InvalidBook : Ec0 K mg "InvalidBook") (x_MODE : GlobD K mg "MODE" (.str "mode")) (x_COMMAND : GlobD K mg "COMMAND" (.str "command")) (x_ALARM : GlobD K mg "ALARM" (.str "alarm")) (x_ROW : GlobD K mg "ROW" (.str "row")) (O_Book : ClsOk K "Book" ["_holds", "_barred", "_parts", "_quiet"]) (T_Unk : Xt_UnknownName P K mg) (bt : Bt mg) : CalP P w K mg base "Book" "safe" ["self"] 1 S_Book_safe := by
  refine mP_ok df sc_Book_safe ?_ ?_
  · rintro _ _ ⟨b, m, r, rfl, rfl, _⟩
    rfl
  rintro _ _ ⟨b, m, r, rfl, rfl, hm⟩ f cdv A outer s H E hr J hJ
  have e : getD' b.parts "mode" = some (.list (eM m :: r.map eM)) := by
    show some (PyData.list (b.modes.map eM)) = _
    rw [hm]
    rfl
  refine rn_cons (rs_ret (gx_ix (d := .str m.n) (gx_ix (d := eM m) (go_dctIx (.of hr) (go_fld O_Book (go_var 0) rfl (by decide)) (go_gcon x_MODE) e) go_int (by exact atI_head)) go_int (by exact rfl)))
theorem ok_Book_part_named (df : Mtd K "Book" "part_named" "Book.part_named" s_Book_part_named ["self", "sort", "name"])   (x_LETTERS : GlobD K mg "LETTERS" (.str letS)) (T_InvalidBook : Ec0 K mg "InvalidBook") (x_MODE : GlobD K mg "MODE" (.str "mode")) (x_COMMAND : GlobD K mg "COMMAND" (.str "command")) (x_ALARM : GlobD K mg "ALARM" (.str "alarm")) (x_ROW : GlobD K mg "ROW" (.str "row")) (O_Book : ClsOk K "Book" ["_holds", "_barred", "_parts", "_quiet"]) (T_Unk : Xt_UnknownName P K mg) (bt : Bt mg) : CalM P w K mg base (L2.CX P w) "Book" "part_named" ["self", "sort", "name"] 2 (orSp (spS K S_Book_part_named) (spE K E_Book_part_named)) := by
  refine mE_ok df sc_Book_part_named ?_ ?_ ?_ ?_
  · rintro _ _ ⟨b, sort, xs, x, rfl, rfl, _⟩
    rfl
  · rintro _ _ ⟨b, sort, xs, nm, rfl, rfl, _⟩
    rfl
  · rintro _ _ ⟨b, sort, xs, x, rfl, rfl, hg, hx, hnd⟩ f cdv A outer s H E hr J hJ
    refine rn_cons (rs_for (fun k Γ' => ∃ s3 : Sl, Γ' = [.pr (bookP b), .dat (.str sort), .dat (.str x.1), s3] ∧ x.1 ∉ (xs.take k).map (·.1)) (goi_list (go_dctIx (.of hr) (go_fld O_Book (go_var 0) rfl (by decide)) (go_var 1) hg)) ?_ ?_ ?_ rfl)
    · exact ⟨_, rfl, by rw [List.take_zero]; exact List.not_mem_nil⟩
    · rintro k d _ hd ⟨s3, rfl, hn⟩
      rw [List.getElem?_map] at hd
      obtain ⟨y, hk, rfl⟩ := Option.map_eq_some_iff.mp hd
      refine ⟨_, _, (gog_name 3 sc_Book_part_named.nd), ?_⟩
      refine rn_cons (rs_if (k := decide (y.1 = x.1)) (gocT (gc_eqS (gx_ix (d := .str y.1) (go_var 3) go_int (by exact atI_head)) (go_var 2))) (fun h => ?_) fun h => ?_)
      · skip
        have e := inj_nd hnd (List.mem_of_getElem? hk) hx (of_decide_eq_true h)
        exact rn_cons (rs_ret (go_is (go_var 3) (by rw [e])))
      · refine rn_nil (rn_nil ⟨_, rfl, ?_⟩)
        rw [List.take_add_one, hk]
        intro z
        rw [List.map_append] at z
        rcases List.mem_append.mp z with z | z
        · exact hn z
        · exact of_decide_eq_false h (List.mem_singleton.mp z).symm
    rintro _ ⟨s3, rfl, hn⟩
    rw [List.length_map, List.take_length] at hn
    exact absurd (List.mem_map.mpr ⟨x, hx, rfl⟩) hn
  · rintro _ _ ⟨b, sort, xs, nm, rfl, rfl, hg, hx⟩ f cdv A outer s H E hr J hJ hM hW
    refine rn_cons (rs_for (hp := passes_of rfl) (fun k Γ' => ∃ s3 : Sl, Γ' = [.pr (bookP b), .dat (.str sort), .dat (.str nm), s3] ∧ True) (goi_list (go_dctIx (.of hr) (go_fld O_Book (go_var 0) rfl (by decide)) (go_var 1) hg)) ?_ ?_ ?_ rfl)
    · exact ⟨_, rfl, True.intro⟩
    · rintro k d _ hd ⟨s3, rfl, _⟩
      rw [List.getElem?_map] at hd
      obtain ⟨y, hk, rfl⟩ := Option.map_eq_some_iff.mp hd
      have hne : ¬ y.1 = nm := fun z => hx (z ▸ List.mem_map.mpr ⟨y, List.mem_of_getElem? hk, rfl⟩)
      refine ⟨_, _, (gog_name 3 sc_Book_part_named.nd), ?_⟩
      refine rn_cons (rs_if (k := false) (goT_is (gocT (gc_eqS (gx_ix (d := .str y.1) (go_var 3) go_int (by exact atI_head)) (go_var 2))) (decide_eq_false hne)) (fun h => nomatch h) fun _ => rn_nil (rn_nil ⟨_, rfl, True.intro⟩))
    rintro _ ⟨s3, rfl, _⟩
    exact rn_cons (rs_soe (Wx := fun cls d _ H => E cls d H) (soe_raise_UnknownName T_Unk rfl hr (takes_of rfl rfl rfl rfl) (go_var 2) fun _ _ h => dp_str h) hM fun s C d H2 h1 h2 => hW C d H2 h1 h2)
theorem ok_Book_mode_named (df : Mtd K "Book" "mode_named" "Book.mode_named" s_Book_mode_named ["self", "name"]) (c_Book_part_named : CalM P w K mg base (L2.CX P w) "Book" "part_named" ["self", "sort", "name"] 2 (orSp (spS K S_Book_part_named) (spE K E_Book_part_named)))  (x_LETTERS : GlobD K mg "LETTERS" (.str letS)) (T_InvalidBook : Ec0 K mg "InvalidBook") (x_MODE : GlobD K mg "MODE" (.str "mode")) (x_COMMAND : GlobD K mg "COMMAND" (.str "command")) (x_ALARM : GlobD K mg "ALARM" (.str "alarm")) (x_ROW : GlobD K mg "ROW" (.str "row")) (O_Book : ClsOk K "Book" ["_holds", "_barred", "_parts", "_quiet"]) (T_Unk : Xt_UnknownName P K mg) (bt : Bt mg) : CalM P w K mg base (L2.CX P w) "Book" "mode_named" ["self", "name"] 3 (orSp (spS K S_Book_mode_named) (spE K E_Book_mode_named)) := by
  refine mE_ok df sc_Book_mode_named ?_ ?_ ?_ ?_
  · rintro _ _ ⟨b, m, rfl, rfl, _⟩
    rfl
  · rintro _ _ ⟨b, nm, rfl, rfl, _⟩
    rfl
  · rintro _ _ ⟨b, m, rfl, rfl, hb, hm⟩ f cdv A outer s H E hr J hJ
    refine rn_cons (rs_ret (gx_methE c_Book_part_named hr (by decide) (go_var 0) rfl (goA_cons (go_gcon x_MODE) (goA_cons (go_var 1) goA_nil)) ⟨b, _, _, pM m, rfl, rfl, get_mode b, List.mem_map.mpr ⟨m, hm, rfl⟩, by rw [pM_n]; exact hb.m.nd⟩))
  · rintro _ _ ⟨b, nm, rfl, rfl, hb, hn⟩ f cdv A outer s H E hr J hJ hM hW
    exact rn_cons (rs_soe (Wx := fun cls d _ H => E cls d H) (soe_ret (goe_meth c_Book_part_named (takes_of rfl rfl rfl rfl) hr (by decide) (go_var 0) rfl (goA_cons (go_gcon x_MODE) (goA_cons (go_var 1) goA_nil)) ⟨b, _, _, nm, rfl, rfl, get_mode b, by rw [pM_n]; exact hn⟩)) hM fun s C d H2 h1 h2 => hW C d H2 h1 h2)
theorem ok_Book_command_named (df : Mtd K "Book" "command_named" "Book.command_named" s_Book_command_named ["self", "name"]) (c_Book_part_named : CalM P w K mg base (L2.CX P w) "Book" "part_named" ["self", "sort", "name"] 2 (orSp (spS K S_Book_part_named) (spE K E_Book_part_named)))  (x_LETTERS : GlobD K mg "LETTERS" (.str letS)) (T_InvalidBook : Ec0 K mg "InvalidBook") (x_MODE : GlobD K mg "MODE" (.str "mode")) (x_COMMAND : GlobD K mg "COMMAND" (.str "command")) (x_ALARM : GlobD K mg "ALARM" (.str "alarm")) (x_ROW : GlobD K mg "ROW" (.str "row")) (O_Book : ClsOk K "Book" ["_holds", "_barred", "_parts", "_quiet"]) (T_Unk : Xt_UnknownName P K mg) (bt : Bt mg) : CalM P w K mg base (L2.CX P w) "Book" "command_named" ["self", "name"] 3 (orSp (spS K S_Book_command_named) (spE K E_Book_command_named)) := by
  refine mE_ok df sc_Book_command_named ?_ ?_ ?_ ?_
  · rintro _ _ ⟨b, m, rfl, rfl, _⟩
    rfl
  · rintro _ _ ⟨b, nm, rfl, rfl, _⟩
    rfl
  · rintro _ _ ⟨b, m, rfl, rfl, hb, hm⟩ f cdv A outer s H E hr J hJ
    refine rn_cons (rs_ret (gx_methE c_Book_part_named hr (by decide) (go_var 0) rfl (goA_cons (go_gcon x_COMMAND) (goA_cons (go_var 1) goA_nil)) ⟨b, _, _, pC m, rfl, rfl, get_cmd b, List.mem_map.mpr ⟨m, (cmds_perm b).mem_iff.mpr hm, rfl⟩, (pC_n b).nodup_iff.mpr hb.c.nd⟩))
  · rintro _ _ ⟨b, nm, rfl, rfl, hb, hn⟩ f cdv A outer s H E hr J hJ hM hW
    exact rn_cons (rs_soe (Wx := fun cls d _ H => E cls d H) (soe_ret (goe_meth c_Book_part_named (takes_of rfl rfl rfl rfl) hr (by decide) (go_var 0) rfl (goA_cons (go_gcon x_COMMAND) (goA_cons (go_var 1) goA_nil)) ⟨b, _, _, nm, rfl, rfl, get_cmd b, fun z => hn ((pC_n b).mem_iff.mp z)⟩)) hM fun s C d H2 h1 h2 => hW C d H2 h1 h2)
theorem ok_Book_alarm_named (df : Mtd K "Book" "alarm_named" "Book.alarm_named" s_Book_alarm_named ["self", "name"]) (c_Book_part_named : CalM P w K mg base (L2.CX P w) "Book" "part_named" ["self", "sort", "name"] 2 (orSp (spS K S_Book_part_named) (spE K E_Book_part_named)))  (x_LETTERS : GlobD K mg "LETTERS" (.str letS)) (T_InvalidBook : Ec0 K mg "InvalidBook") (x_MODE : GlobD K mg "MODE" (.str "mode")) (x_COMMAND : GlobD K mg "COMMAND" (.str "command")) (x_ALARM : GlobD K mg "ALARM" (.str "alarm")) (x_ROW : GlobD K mg "ROW" (.str "row")) (O_Book : ClsOk K "Book" ["_holds", "_barred", "_parts", "_quiet"]) (T_Unk : Xt_UnknownName P K mg) (bt : Bt mg) : CalM P w K mg base (L2.CX P w) "Book" "alarm_named" ["self", "name"] 3 (orSp (spS K S_Book_alarm_named) (spE K E_Book_alarm_named)) := by
  refine mE_ok df sc_Book_alarm_named ?_ ?_ ?_ ?_
  · rintro _ _ ⟨b, m, rfl, rfl, _⟩
    rfl
  · rintro _ _ ⟨b, nm, rfl, rfl, _⟩
    rfl
  · rintro _ _ ⟨b, m, rfl, rfl, hb, hm⟩ f cdv A outer s H E hr J hJ
    refine rn_cons (rs_ret (gx_methE c_Book_part_named hr (by decide) (go_var 0) rfl (goA_cons (go_gcon x_ALARM) (goA_cons (go_var 1) goA_nil)) ⟨b, _, _, pA m, rfl, rfl, get_alarm b, List.mem_map.mpr ⟨m, hm, rfl⟩, by rw [pA_n]; exact hb.a.nd⟩))
  · rintro _ _ ⟨b, nm, rfl, rfl, hb, hn⟩ f cdv A outer s H E hr J hJ hM hW
    exact rn_cons (rs_soe (Wx := fun cls d _ H => E cls d H) (soe_ret (goe_meth c_Book_part_named (takes_of rfl rfl rfl rfl) hr (by decide) (go_var 0) rfl (goA_cons (go_gcon x_ALARM) (goA_cons (go_var 1) goA_nil)) ⟨b, _, _, nm, rfl, rfl, get_alarm b, by rw [pA_n]; exact hn⟩)) hM fun s C d H2 h1 h2 => hW C d H2 h1 h2)
theorem ok_Book_row_named (df : Mtd K "Book" "row_named" "Book.row_named" s_Book_row_named ["self", "name"]) (c_Book_part_named : CalM P w K mg base (L2.CX P w) "Book" "part_named" ["self", "sort", "name"] 2 (orSp (spS K S_Book_part_named) (spE K E_Book_part_named)))  (x_LETTERS : GlobD K mg "LETTERS" (.str letS)) (T_InvalidBook : Ec0 K mg "InvalidBook") (x_MODE : GlobD K mg "MODE" (.str "mode")) (x_COMMAND : GlobD K mg "COMMAND" (.str "command")) (x_ALARM : GlobD K mg "ALARM" (.str "alarm")) (x_ROW : GlobD K mg "ROW" (.str "row")) (O_Book : ClsOk K "Book" ["_holds", "_barred", "_parts", "_quiet"]) (T_Unk : Xt_UnknownName P K mg) (bt : Bt mg) : CalM P w K mg base (L2.CX P w) "Book" "row_named" ["self", "name"] 3 (orSp (spS K S_Book_row_named) (spE K E_Book_row_named)) := by
  refine mE_ok df sc_Book_row_named ?_ ?_ ?_ ?_
  · rintro _ _ ⟨b, m, rfl, rfl, _⟩
    rfl
  · rintro _ _ ⟨b, nm, rfl, rfl, _⟩
    rfl
  · rintro _ _ ⟨b, m, rfl, rfl, hb, hm⟩ f cdv A outer s H E hr J hJ
    refine rn_cons (rs_ret (gx_methE c_Book_part_named hr (by decide) (go_var 0) rfl (goA_cons (go_gcon x_ROW) (goA_cons (go_var 1) goA_nil)) ⟨b, _, _, pR m, rfl, rfl, get_row b, List.mem_map.mpr ⟨m, hm, rfl⟩, by rw [pR_n]; exact hb.r.nd⟩))
  · rintro _ _ ⟨b, nm, rfl, rfl, hb, hn⟩ f cdv A outer s H E hr J hJ hM hW
    exact rn_cons (rs_soe (Wx := fun cls d _ H => E cls d H) (soe_ret (goe_meth c_Book_part_named (takes_of rfl rfl rfl rfl) hr (by decide) (go_var 0) rfl (goA_cons (go_gcon x_ROW) (goA_cons (go_var 1) goA_nil)) ⟨b, _, _, nm, rfl, rfl, get_row b, by rw [pR_n]; exact hn⟩)) hM fun s C d H2 h1 h2 => hW C d H2 h1 h2)
end

theorem lens6 {b : Bk} (h : BkOk b) : b.modes.length < 1000000 ∧ b.cmds.length < 1000000 ∧ b.alarms.length < 1000000 ∧ b.rows.length < 1000000 ∧ b.holds.length < 1000000 := by
  have h1 := h.m.hi
  have h2 := h.c.hi
  have h3 := h.a.hi
  have h4 := h.r.hi
  have h5 := h.h.hi
  rw [List.length_map] at h1 h2 h3 h4
  omega
/-! ### the parts that the laws of books draw -/
abbrev s__law_pick : Stmt := topS 24
theorem sc__law_pick : FnScope ["_law_names", "_law_number", "_law_without", "_law_found", "_law_rest", "_law_name"] ["_law_names", "_law_number", "_law_without"] (defScope s__law_pick) := ⟨rfl, rfl, rfl, by decide +kernel, rfl, by decide +kernel, by decide +kernel⟩
abbrev s__law_effect : Stmt := topS 25
theorem sc__law_effect : FnScope ["_law_holds", "_law_modes", "_law_numbers_here", "_law_at", "_law_on", "_law_off"] ["_law_holds", "_law_modes", "_law_numbers_here", "_law_at"] (defScope s__law_effect) := ⟨rfl, rfl, rfl, by decide +kernel, rfl, by decide +kernel, by decide +kernel⟩
abbrev s__law_parts : Stmt := topS 26
theorem sc__law_parts : FnScope ["_law_numbers_here", "_law_at", "_law_holds", "_law_modes", "_law_found", "_law_k", "_law_on", "_law_off", "_law_to", "_law_barred", "_law_lot", "_law_commands", "_law_alarms", "_law_rows", "_law_steps", "_law_j", "_law_quiet"] ["_law_numbers_here", "_law_at"] (defScope s__law_parts) := ⟨rfl, rfl, rfl, by decide +kernel, rfl, by decide +kernel, by decide +kernel⟩
def S__law_pick : List Mn → Mn → Prop := fun Ps R => ∃ (names : List Str) (m : Int) (wo : List Str), Ps = [datP (.list (names.map .str)), datP (.int m), datP (eL wo)] ∧ R = datP (eL (pickF (sortS names) m wo)) ∧ names.length ≤ 1000
def S__law_effect : List Mn → Mn → Prop := fun Ps R => ∃ (hs ms : List Str) (n : Nat) (ds : List D) (at_ : Int), Ps = [datP (.list (hs.map .str)), datP (.list (ms.map .str)), datP (.list ds), datP (.int at_)] ∧ R = datP (.tuple [eL (effF hs ms (nthI ds at_) (nthI ds (at_ + 1)) (nthI ds (at_ + 2))).1, eL (effF hs ms (nthI ds at_) (nthI ds (at_ + 1)) (nthI ds (at_ + 2))).2.1, eO (effF hs ms (nthI ds at_) (nthI ds (at_ + 1)) (nthI ds (at_ + 2))).2.2]) ∧ (hs.length ≤ 1000 ∧ ms.length ≤ 1000 ∧ IntsD Small n ds ∧ 0 ≤ at_ ∧ at_ + 3 ≤ (n : Int))
def S__law_parts : List Mn → Mn → Prop := fun Ps R => ∃ (n : Nat) (ds : List D) (at_ : Int), Ps = [datP (.list ds), datP (.int at_)] ∧ R = exP BkD (fun b => datP (pD b)) ∧ (IntsD Small n ds ∧ 0 ≤ at_ ∧ at_ + 50 ≤ (n : Int))
section
variable {P : Program} {w : World} {K : PySem.W.Frag} {mg : Str → Option Value} {base : Heap}
theorem ok__law_pick (df : Dfn K mg "_law_pick" s__law_pick ["_law_names", "_law_number", "_law_without"])   (x_LETTERS : GlobD K mg "LETTERS" (.str letS)) (T_InvalidBook : Ec0 K mg "InvalidBook") (x_MODE : GlobD K mg "MODE" (.str "mode")) (x_COMMAND : GlobD K mg "COMMAND" (.str "command")) (x_ALARM : GlobD K mg "ALARM" (.str "alarm")) (x_ROW : GlobD K mg "ROW" (.str "row")) (O_Book : ClsOk K "Book" ["_holds", "_barred", "_parts", "_quiet"]) (T_Unk : Xt_UnknownName P K mg) (bt : Bt mg) : Cal P w K mg base "_law_pick" ["_law_names", "_law_number", "_law_without"] 1 S__law_pick := by
  refine cal_ok df sc__law_pick ?_ ?_
  · rintro _ _ ⟨names, m, wo, rfl, rfl, _⟩
    rfl
  rintro _ _ ⟨names, m, wo, rfl, rfl, hl⟩ f cdv A outer s H E hr J hJ
  have hln : (sortS names).length ≤ 1000 := by rw [(sortS_perm names).length_eq]; exact hl
  refine rn_cons (rs_own 3 (goN_lst god_nil) ?_ sc__law_pick.nd)
  refine rn_cons (rs_set 4 (gx_int bt.int (go_var 1)) ?_ sc__law_pick.nd)
  refine rn_to (Γ' := [_, _, _, _, _, _]) rfl ?_
  refine rn_cons (rs_for (fun k Γ' => ∃ s5 : Sl, Γ' = [.dat (.list (names.map .str)), .dat (.int m), .dat (eL wo), .own ((pickF ((sortS names).take k) m wo).map .str), .dat (.int (m / 3 ^ k)), s5] ∧ True) (goi_list (go_of_new (gx_sort (xs := names) (.of hr) bt.sorted (go_var 0) (by exact rfl) (by omega)))) ?_ ?_ ?_ rfl)
  · refine ⟨.any, ?_, True.intro⟩
    rw [Int.pow_zero, Int.ediv_one]
    rfl
  · rintro k d _ hd ⟨s5, rfl, _⟩
    rw [List.getElem?_map] at hd
    obtain ⟨x, hk, rfl⟩ := Option.map_eq_some_iff.mp hd
    have hkl := (List.getElem?_eq_some_iff.mp hk).1
    have tl : ((sortS names).take k).length = k := by rw [List.length_take]; omega
    have e : pickF ((sortS names).take (k + 1)) m wo = pickF ((sortS names).take k) m wo ++ (if m / 3 ^ k % 3 = 1 ∧ x ∉ wo then [x] else []) := by
      rw [List.take_add_one, hk]
      show pickF (_ ++ [x]) m wo = _
      rw [pickF_snoc, tl]
    have hpl : (pickF ((sortS names).take k) m wo).length ≤ 1000 := by
      have := (pickF_sub wo ((sortS names).take k) m).1.length_le
      omega
    have hz : ((pickF ((sortS names).take k) m wo).map PyData.str).length < sizeLine := ltZ (by rw [List.length_map]; omega)
    refine ⟨_, _, (gog_name 5 sc__law_pick.nd), ?_⟩
    refine rn_cons (rs_cut (fun Γ' => Γ' = [.dat (.list (names.map .str)), .dat (.int m), .dat (eL wo), .own ((pickF ((sortS names).take (k + 1)) m wo).map .str), .dat (.int (m / 3 ^ k)), .dat (.str x)]) (rs_if (k := decide (m / 3 ^ k % 3 = 1) && !decide (x ∈ wo)) (goW_T (goW_and (gocT (gx_c (.of hr) (gx_bin (gx_int bt.int (go_var 4)) go_int) go_int)) fun hk => goW_and1 (gocT (gx_nin (k := decide (x ∈ wo)) (go_var 5) (go_var 2) (by exact ⟨wo, rfl, rfl⟩))))) (fun h => ?_) fun h => ?_) ?_)
    · skip
      rw [Bool.and_eq_true, Bool.not_eq_true', decide_eq_false_iff_not, decide_eq_true_iff] at h
      refine rn_cons (rs_app 3 rfl (go_var 5) hz (rn_nil ?_))
      rw [e, if_pos h, List.map_append]
      rfl
    · refine rn_nil ?_
      have hn : ¬ (m / 3 ^ k % 3 = 1 ∧ x ∉ wo) := fun z => by
        rw [decide_eq_true z.1, decide_eq_false z.2] at h
        cases h
      rw [e, if_neg hn, List.append_nil]
      rfl
    rintro _ rfl
    refine rn_cons (rs_set 4 (gx_bin (go_var 4) go_int) ?_ sc__law_pick.nd)
    exact rn_nil ⟨_, by rw [div3]; rfl, True.intro⟩
  · rintro _ ⟨s5, rfl, _⟩
    rw [List.length_map, List.take_length]
    refine rn_ice 3 rfl (by rw [hJ]; exact List.not_mem_nil) (rn_cons (rs_ret (go_is (gx_tuple bt.tuple (go_var 3)) rfl)))
theorem ok__law_effect (df : Dfn K mg "_law_effect" s__law_effect ["_law_holds", "_law_modes", "_law_numbers_here", "_law_at"]) (c__law_pick : Cal P w K mg base "_law_pick" ["_law_names", "_law_number", "_law_without"] 1 S__law_pick)  (x_LETTERS : GlobD K mg "LETTERS" (.str letS)) (T_InvalidBook : Ec0 K mg "InvalidBook") (x_MODE : GlobD K mg "MODE" (.str "mode")) (x_COMMAND : GlobD K mg "COMMAND" (.str "command")) (x_ALARM : GlobD K mg "ALARM" (.str "alarm")) (x_ROW : GlobD K mg "ROW" (.str "row")) (O_Book : ClsOk K "Book" ["_holds", "_barred", "_parts", "_quiet"]) (T_Unk : Xt_UnknownName P K mg) (bt : Bt mg) : Cal P w K mg base "_law_effect" ["_law_holds", "_law_modes", "_law_numbers_here", "_law_at"] 2 S__law_effect := by
  refine cal_ok df sc__law_effect ?_ ?_
  · rintro _ _ ⟨hs, ms, n, ds, at_, rfl, rfl, _⟩
    rfl
  rintro _ _ ⟨hs, ms, n, ds, at_, rfl, rfl, h1, h2, hd, h3, h4⟩ f cdv A outer s H E hr J hJ
  have g0 : atI ds at_ = some (.int (nthI ds at_)) := hd.at ⟨by omega, by omega⟩
  have g1 : atI ds (at_ + 1) = some (.int (nthI ds (at_ + 1))) := hd.at ⟨by omega, by omega⟩
  have g2 : atI ds (at_ + 2) = some (.int (nthI ds (at_ + 2))) := hd.at ⟨by omega, by omega⟩
  refine rn_cons (rs_set 4 (gx_call c__law_pick hr (by decide) (goA_cons (go_var 0) (goA_cons (gx_ix (go_var 2) (go_var 3)) (goA_cons (go_is (d' := eL []) (go_tup god_nil) rfl) goA_nil))) ⟨hs, _, [], rfl, rfl, h1⟩) ?_ sc__law_effect.nd)
  refine rn_cons (rs_set 5 (gx_call c__law_pick hr (by decide) (goA_cons (go_var 0) (goA_cons (gx_ix (go_var 2) (gx_bin (go_var 3) go_int)) (goA_cons (go_var 4) goA_nil))) ⟨hs, _, _, rfl, rfl, h1⟩) ?_ sc__law_effect.nd)
  have lm : (((ms.map PyData.str).length : Nat) : Int) = (ms.length : Int) := by rw [List.length_map]
  have hto : atI (ms.map PyData.str ++ [PyData.none, PyData.none]) (nthI ds (at_ + 2) % ((((ms.map PyData.str).length : Nat) : Int) + 2)) = some (eO (optA ms 2 (nthI ds (at_ + 2) % ((ms.length : Int) + 2)))) := by
    rw [lm]
    exact opt_at (n := 2) (Int.emod_nonneg _ (by omega)) (Int.emod_lt_of_pos _ (by omega))
  have hz1 : (ms.map PyData.str).length + ([PyData.none, PyData.none] : List D).length ≤ sizeLine := leZ (by rw [List.length_map]; show _ + 2 ≤ _; omega)
  have hz2 : 0 < (((ms.map PyData.str).length : Nat) : Int) + 2 := by omega
  refine rn_cons (rs_ret (go_is (go_tup (god_cons (go_var 4) (god_cons (go_var 5) (god_cons (gx_ix (d := eO (optA ms 2 (nthI ds (at_ + 2) % ((ms.length : Int) + 2)))) (gx_bin (go_var 1) (go_lst (god_cons go_non (god_cons go_non god_nil))) (by exact ⟨rfl, hz1⟩)) (gx_bin (gx_int bt.int (gx_ix (go_var 2) (gx_bin (go_var 3) go_int))) (gx_bin (gx_len bt.len (go_var 1)) go_int) (by exact ⟨rfl, hz2⟩)) (by exact hto)) god_nil)))) rfl))
theorem ok__law_parts (df : Dfn K mg "_law_parts" s__law_parts ["_law_numbers_here", "_law_at"]) (c__law_pick : Cal P w K mg base "_law_pick" ["_law_names", "_law_number", "_law_without"] 1 S__law_pick) (c__law_effect : Cal P w K mg base "_law_effect" ["_law_holds", "_law_modes", "_law_numbers_here", "_law_at"] 2 S__law_effect)  (x_LETTERS : GlobD K mg "LETTERS" (.str letS)) (T_InvalidBook : Ec0 K mg "InvalidBook") (x_MODE : GlobD K mg "MODE" (.str "mode")) (x_COMMAND : GlobD K mg "COMMAND" (.str "command")) (x_ALARM : GlobD K mg "ALARM" (.str "alarm")) (x_ROW : GlobD K mg "ROW" (.str "row")) (O_Book : ClsOk K "Book" ["_holds", "_barred", "_parts", "_quiet"]) (T_Unk : Xt_UnknownName P K mg) (bt : Bt mg) : Cal P w K mg base "_law_parts" ["_law_numbers_here", "_law_at"] 3 S__law_parts := by
  refine cal_ok df sc__law_parts ?_ ?_
  · rintro _ _ ⟨n, ds, at_, rfl, rfl, _⟩
    rfl
  rintro _ _ ⟨n, ds, at_, rfl, rfl, hds, ha0', han⟩ f cdv A outer s H E hr J hJ
  obtain ⟨N, hN⟩ : ∃ N : Nat → Int, ∀ (k : Nat) (i : Int), k ≤ 49 → i = at_ + k → atI ds i = some (.int (N k)) := ⟨fun k => nthI ds (at_ + (k : Nat)), fun k i hk hi => by
    rw [hi]
    exact hds.at ⟨by omega, by omega⟩⟩
  have g0 := hN 0 at_ (by omega) (by omega)
  have g1 := hN 1 (at_ + 1) (by omega) (by omega)
  have g11 := hN 11 (at_ + 11) (by omega) (by omega)
  have g14 := hN 14 (at_ + 14) (by omega) (by omega)
  have g27 := hN 27 (at_ + 27) (by omega) (by omega)
  have g34 := hN 34 (at_ + 34) (by omega) (by omega)
  have g49 := hN 49 (at_ + 49) (by omega) (by omega)
  obtain ⟨hs, hhs, hhl, hh⟩ : ∃ hs : List Str, slD (ha0.map PyData.str) none (some (1 + N 0 % 4)) = hs.map .str ∧ hs.length ≤ 4 ∧ NmsOk hs 1 6 := ⟨_, cutS (l := ha0) (by omega), by rw [List.length_take]; exact Nat.min_le_right _ _, ha_ok (by omega) (by omega)⟩
  obtain ⟨ms, hms, hml, hm, hmx⟩ : ∃ ms : List Str, slD (ma0.map PyData.str) none (some (1 + N 1 % 3)) = ms.map .str ∧ ms.length ≤ 3 ∧ NmsOk ms 1 5 ∧ noneS ∉ ms := ⟨_, cutS (l := ma0) (by omega), by rw [List.length_take]; exact Nat.min_le_right _ _, ma_ok (by omega) (by omega), fun z => absurd (List.mem_of_mem_take z) (by decide +kernel)⟩
  refine rn_cons (rs_set 2 (go_is (go_of_new (goN_sl (go_lst (god_cons go_str (god_cons go_str (god_cons go_str (god_cons go_str god_nil))))) goO_none (goO_some (gx_bin go_int (gx_bin (gx_int bt.int (gx_ix (go_var 0) (go_var 1))) go_int))))) (congrArg PyData.list hhs)) ?_ sc__law_parts.nd)
  refine rn_cons (rs_set 3 (go_is (go_of_new (goN_sl (go_lst (god_cons go_str (god_cons go_str (god_cons go_str god_nil)))) goO_none (goO_some (gx_bin go_int (gx_bin (gx_int bt.int (gx_ix (go_var 0) (gx_bin (go_var 1) go_int))) go_int))))) (congrArg PyData.list hms)) ?_ sc__law_parts.nd)
  have lM : (((ms.map PyData.str).length : Nat) : Int) = (ms.length : Int) := by rw [List.length_map]
  refine rn_cons (rs_own 4 (goN_lst god_nil) ?_ sc__law_parts.nd)
  refine rn_to (Γ' := [_, _, _, _, _, _, _, _, _, _, _, _, _, _, _, _, _]) rfl ?_
  refine rn_cons (rs_for (fun k Γ' => ∃ (l : List Md) (s5 s6 s7 s8 : Sl), Γ' = [.dat (.list ds), .dat (.int at_), .dat (.list (hs.map .str)), .dat (.list (ms.map .str)), .own (l.map eM), s5, s6, s7, s8, .any, .any, .any, .any, .any, .any, .any, .any] ∧ l.map Md.n = ms.take k ∧ ∀ x ∈ l, turnB x.on x.off hs = true) (goi_is (gx_rng1 bt.range (go_is (gx_len bt.len (go_var 3)) (congrArg PyData.int lM))) (rngNat ms.length)) ?_ ?_ ?_ rfl)
  · exact ⟨[], _, _, _, _, rfl, rfl, fun _ h => nomatch h⟩
  · rintro k d _ hd ⟨l, s5, s6, s7, s8, rfl, hn, ht⟩
    obtain ⟨hk, rfl⟩ := rngN_get hd
    have q1 := nth_at hk
    have hll : l.length ≤ 3 := by
      have := congrArg List.length hn
      rw [List.length_map, List.length_take] at this
      omega
    refine ⟨_, _, (gog_name 5 sc__law_parts.nd), ?_⟩
    refine rn_cons (rs_unp (gx_call c__law_effect hr (by decide) (goA_cons (go_var 2) (goA_cons (go_var 3) (goA_cons (go_var 0) (goA_cons (gx_bin (gx_bin (go_var 1) go_int) (gx_bin go_int (go_var 5))) goA_nil)))) ⟨hs, ms, n, ds, at_ + 2 + 3 * (k : Int), rfl, rfl, by omega, by omega, hds, by omega, by omega⟩) (gog_tup rfl (gogs_cons (gog_name 6 sc__law_parts.nd) (gogs_cons (gog_name 7 sc__law_parts.nd) (gogs_cons (gog_name 8 sc__law_parts.nd) gogs_nil)))) ?_)
    have hq := effF_ok hs ms (nthI ds (at_ + 2 + 3 * (k : Int))) (nthI ds (at_ + 2 + 3 * (k : Int) + 1)) (nthI ds (at_ + 2 + 3 * (k : Int) + 2))
    revert hq
    generalize effF hs ms (nthI ds (at_ + 2 + 3 * (k : Int))) (nthI ds (at_ + 2 + 3 * (k : Int) + 1)) (nthI ds (at_ + 2 + 3 * (k : Int) + 2)) = q
    intro hq
    refine rn_to (Γ' := [.dat (.list ds), .dat (.int at_), .dat (.list (hs.map .str)), .dat (.list (ms.map .str)), .own (l.map eM), .dat (.int (k : Int)), .dat (eL q.1), .dat (eL q.2.1), .dat (eO q.2.2), .any, .any, .any, .any, .any, .any, .any, .any]) rfl ?_
    have hz : (l.map eM).length < sizeLine := ltZ (by rw [List.length_map]; omega)
    refine rn_cons (rs_app 4 rfl (go_is (go_tup (god_cons (gx_ix (go_var 3) (go_var 5)) (god_cons (go_var 6) (god_cons (go_var 7) god_nil)))) (show _ = eM ⟨PL.nth ms k, q.1, q.2.1⟩ from rfl)) hz ?_)
    refine rn_nil ⟨l ++ [⟨PL.nth ms k, q.1, q.2.1⟩], _, _, _, _, by rw [List.map_append]; rfl, by rw [List.map_append, hn, take_snocS hk]; rfl, fun x hx => ?_⟩
    rcases List.mem_append.mp hx with hx | hx
    · exact ht x hx
    · rw [List.mem_singleton.mp hx]
      exact eff_turn hh hq
  rintro _ ⟨l, s5, s6, s7, s8, rfl, hn, ht⟩
  rw [List.length_map, List.length_range, List.take_length] at hn
  refine rn_ice 4 rfl (by rw [hJ]; exact List.not_mem_nil) ?_
  refine rn_cons (rs_own 9 (goN_lst god_nil) ?_ sc__law_parts.nd)
  refine rn_to (Γ' := [_, _, _, _, _, _, _, _, _, _, _, _, _, _, _, _, _]) rfl ?_
  refine rn_cons (rs_for (fun k Γ' => ∃ (bs : List (List Str)) (s5 s10 : Sl), Γ' = [.dat (.list ds), .dat (.int at_), .dat (.list (hs.map .str)), .dat (.list (ms.map .str)), .dat (.list (l.map eM)), s5, s6, s7, s8, .own (bs.map eL), s10, .any, .any, .any, .any, .any, .any] ∧ bs.Nodup ∧ bs.length ≤ k ∧ ∀ x ∈ bs, 2 ≤ x.length ∧ lotOfB x hs = true) (gx_rng1 bt.range (gx_bin (gx_int bt.int (gx_ix (go_var 0) (gx_bin (go_var 1) go_int))) go_int)) ?_ ?_ ?_ rfl)
  · exact ⟨[], _, _, rfl, List.nodup_nil, Nat.le_refl _, fun _ h => nomatch h⟩
  · rintro k d _ hd ⟨bs, s5, s10, rfl, hbn, hbl, hb⟩
    obtain ⟨hk, rfl⟩ := rng_get hd
    have hk2 : k < 2 := by omega
    have g12 := hN (12 + k) (at_ + 12 + (0 + (k : Int))) (by omega) (by omega)
    refine ⟨_, _, (gog_name 5 sc__law_parts.nd), ?_⟩
    have hlo := pick_lotOf hh (pickF_ok hs (N (12 + k)) [])
    refine rn_cons (rs_set 10 (gx_call c__law_pick hr (by decide) (goA_cons (go_var 2) (goA_cons (gx_ix (go_var 0) (gx_bin (gx_bin (go_var 1) go_int) (go_var 5))) (goA_cons (go_is (d' := eL []) (go_tup god_nil) rfl) goA_nil))) ⟨hs, _, [], rfl, rfl, by omega⟩) ?_ sc__law_parts.nd)
    revert hlo
    generalize pickF (sortS hs) (N (12 + k)) [] = lot
    intro hlo
    have hsh : Shp 1 (eL lot) := shp_L fun x hx => nm_ok (lot_nm (lotOf hlo).1 x hx)
    have hshb : SeqAt.shaped (.list (bs.map eL)) = true := (Shp.list (n := 1) fun d hd => by
      obtain ⟨x, hx, rfl⟩ := List.mem_map.mp hd
      exact shp_L fun y hy => nm_ok (lot_nm (lotOf (hb x hx).2).1 y hy)).ok
    have ll : (((lot.map PyData.str).length : Nat) : Int) = (lot.length : Int) := by rw [List.length_map]
    refine rn_to (Γ' := [.dat (.list ds), .dat (.int at_), .dat (.list (hs.map .str)), .dat (.list (ms.map .str)), .dat (.list (l.map eM)), .dat (.int (0 + (k : Int))), s6, s7, s8, .own (bs.map eL), .dat (eL lot), .any, .any, .any, .any, .any, .any]) rfl ?_
    refine rn_cons (rs_if (k := decide ((1 : Int) < (lot.length : Int)) && !decide (lot ∈ bs)) (goT_is (goT_thaw 9 (goW_T (goW_and (gocT (gx_c (.of hr) (gx_len bt.len (go_var 10)) go_int)) fun hk => goW_and1 (gocT (gc_notIn (.of hr) (go_var 10) (go_var 9) hsh.ok hshb))))) (by rw [ll, hasD_lots])) (fun h => ?_) fun h => rn_nil (rn_nil ⟨bs, _, _, rfl, hbn, by omega, hb⟩))
    rw [Bool.and_eq_true, decide_eq_true_iff, Bool.not_eq_true', decide_eq_false_iff_not] at h
    have hz : (bs.map eL).length < sizeLine := ltZ (by rw [List.length_map]; omega)
    refine rn_cons (rs_app 9 rfl (go_var 10) hz ?_)
    refine rn_nil (rn_nil ⟨bs ++ [lot], _, _, by rw [List.map_append]; rfl, List.nodup_append.mpr ⟨hbn, List.nodup_cons.mpr ⟨List.not_mem_nil, List.nodup_nil⟩, fun a ha b hb e => h.2 (by rw [List.mem_singleton.mp hb] at e; exact e ▸ ha)⟩, by rw [List.length_append]; exact Nat.add_le_add hbl (Nat.le_refl 1), fun x hx => ?_⟩)
    rcases List.mem_append.mp hx with hx | hx
    · exact hb x hx
    · rw [List.mem_singleton.mp hx]
      exact ⟨by omega, hlo⟩
  rintro _ ⟨bs, s5, s10, rfl, hbn, hbl, hb⟩
  rw [rng_len] at hbl
  refine rn_ice 9 rfl (by rw [hJ]; exact List.not_mem_nil) ?_
  refine rn_cons (rs_own 11 (goN_lst god_nil) ?_ sc__law_parts.nd)
  refine rn_to (Γ' := [_, _, _, _, _, _, _, _, _, _, _, _, _, _, _, _, _]) rfl ?_
  refine rn_cons (rs_for (fun k Γ' => ∃ (cs : List Cm) (s5 s6 s7 s8 : Sl), Γ' = [.dat (.list ds), .dat (.int at_), .dat (.list (hs.map .str)), .dat (.list (ms.map .str)), .dat (.list (l.map eM)), s5, s6, s7, s8, .dat (.list (bs.map eL)), s10, .own (cs.map eC), .any, .any, .any, .any, .any] ∧ cs.map Cm.n = ca0.take k ∧ (∀ x ∈ cs, lotOfB x.ms ms = true) ∧ ∀ x ∈ cs, turnB x.on x.off hs = true ∧ toOk x.to ms) (gx_rng1 bt.range (gx_bin (gx_int bt.int (gx_ix (go_var 0) (gx_bin (go_var 1) go_int))) go_int)) ?_ ?_ ?_ rfl)
  · exact ⟨[], _, _, _, _, rfl, rfl, fun _ h => (nomatch h), fun _ h => (nomatch h)⟩
  · rintro k d _ hd ⟨cs, s5, s6, s7, s8, rfl, hcn, hc1, hc2⟩
    obtain ⟨hk, rfl⟩ := rng_get hd
    have hk3 : k < 3 := by omega
    have g18 := hN (18 + 4 * k) (at_ + 18 + 4 * (0 + (k : Int))) (by omega) (by omega)
    have q1 : atI [PyData.str "go", PyData.str "a", PyData.str "burn"] (0 + (k : Int)) = some (.str (PL.nth ca0 k)) := by
      rw [Int.zero_add]
      exact nth_at (l := ca0) hk3
    have hll : cs.length ≤ 3 := by
      have := congrArg List.length hcn
      rw [List.length_map, List.length_take] at this
      omega
    refine ⟨_, _, (gog_name 5 sc__law_parts.nd), ?_⟩
    refine rn_cons (rs_unp (gx_call c__law_effect hr (by decide) (goA_cons (go_var 2) (goA_cons (go_var 3) (goA_cons (go_var 0) (goA_cons (gx_bin (gx_bin (go_var 1) go_int) (gx_bin go_int (go_var 5))) goA_nil)))) ⟨hs, ms, n, ds, at_ + 15 + 4 * (0 + (k : Int)), rfl, rfl, by omega, by omega, hds, by omega, by omega⟩) (gog_tup rfl (gogs_cons (gog_name 6 sc__law_parts.nd) (gogs_cons (gog_name 7 sc__law_parts.nd) (gogs_cons (gog_name 8 sc__law_parts.nd) gogs_nil)))) ?_)
    have hq := effF_ok hs ms (nthI ds (at_ + 15 + 4 * (0 + (k : Int)))) (nthI ds (at_ + 15 + 4 * (0 + (k : Int)) + 1)) (nthI ds (at_ + 15 + 4 * (0 + (k : Int)) + 2))
    revert hq
    generalize effF hs ms (nthI ds (at_ + 15 + 4 * (0 + (k : Int)))) (nthI ds (at_ + 15 + 4 * (0 + (k : Int)) + 1)) (nthI ds (at_ + 15 + 4 * (0 + (k : Int)) + 2)) = q
    intro hq
    refine rn_to (Γ' := [.dat (.list ds), .dat (.int at_), .dat (.list (hs.map .str)), .dat (.list (ms.map .str)), .dat (.list (l.map eM)), .dat (.int (0 + (k : Int))), .dat (eL q.1), .dat (eL q.2.1), .dat (eO q.2.2), .dat (.list (bs.map eL)), s10, .own (cs.map eC), .any, .any, .any, .any, .any]) rfl ?_
    have hz : (cs.map eC).length < sizeLine := ltZ (by rw [List.length_map]; omega)
    refine rn_cons (rs_app 11 rfl (go_is (go_tup (god_cons (gx_ix (go_lst (god_cons go_str (god_cons go_str (god_cons go_str god_nil)))) (go_var 5)) (god_cons (gx_call c__law_pick hr (by decide) (goA_cons (go_var 3) (goA_cons (gx_ix (go_var 0) (gx_bin (gx_bin (go_var 1) go_int) (gx_bin go_int (go_var 5)))) (goA_cons (go_is (d' := eL []) (go_tup god_nil) rfl) goA_nil))) ⟨ms, _, [], rfl, rfl, by omega⟩) (god_cons (go_var 6) (god_cons (go_var 7) (god_cons (go_var 8) god_nil)))))) (show _ = eC ⟨PL.nth ca0 k, pickF (sortS ms) (N (18 + 4 * k)) [], q.1, q.2.1, q.2.2⟩ from rfl)) hz ?_)
    refine rn_nil ⟨cs ++ [⟨PL.nth ca0 k, pickF (sortS ms) (N (18 + 4 * k)) [], q.1, q.2.1, q.2.2⟩], _, _, _, _, by rw [List.map_append]; rfl, by rw [List.map_append, hcn, take_snocS (l := ca0) hk3]; rfl, fun x hx => ?_, fun x hx => ?_⟩
    · rcases List.mem_append.mp hx with hx | hx
      · exact hc1 x hx
      · rw [List.mem_singleton.mp hx]
        exact pick_lotOf hm (pickF_ok ms _ [])
    · rcases List.mem_append.mp hx with hx | hx
      · exact hc2 x hx
      · rw [List.mem_singleton.mp hx]
        exact ⟨eff_turn hh hq, hq.to⟩
  rintro _ ⟨cs, s5, s6, s7, s8, rfl, hcn, hc1, hc2⟩
  rw [rng_len] at hcn
  have hcl : cs.length ≤ 3 := by
    have := congrArg List.length hcn
    rw [List.length_map, List.length_take] at this
    exact Nat.le_trans (Nat.le_of_eq this) (Nat.min_le_right _ _)
  have hcok : NmsOk (cs.map Cm.n) 0 8 := by
    rw [hcn]
    exact ca_ok (by omega)
  refine rn_ice 11 rfl (by rw [hJ]; exact List.not_mem_nil) ?_
  refine rn_cons (rs_own 12 (goN_lst god_nil) ?_ sc__law_parts.nd)
  refine rn_to (Γ' := [_, _, _, _, _, _, _, _, _, _, _, _, _, _, _, _, _]) rfl ?_
  refine rn_cons (rs_for (fun k Γ' => ∃ (al : List Al) (s5 s6 s7 s8 : Sl), Γ' = [.dat (.list ds), .dat (.int at_), .dat (.list (hs.map .str)), .dat (.list (ms.map .str)), .dat (.list (l.map eM)), s5, s6, s7, s8, .dat (.list (bs.map eL)), s10, .dat (.list (cs.map eC)), .own (al.map eA), .any, .any, .any, .any] ∧ al.map Al.n = aa0.take k ∧ ∀ x ∈ al, turnB x.on x.off hs = true ∧ toOk x.to ms) (gx_rng1 bt.range (gx_bin (gx_int bt.int (gx_ix (go_var 0) (gx_bin (go_var 1) go_int))) go_int)) ?_ ?_ ?_ rfl)
  · exact ⟨[], _, _, _, _, rfl, rfl, fun _ h => (nomatch h)⟩
  · rintro k d _ hd ⟨al, s5, s6, s7, s8, rfl, han2, ha2⟩
    obtain ⟨hk, rfl⟩ := rng_get hd
    have hk3 : k < 2 := by omega
    have q1 : atI [PyData.str "low", PyData.str "a"] (0 + (k : Int)) = some (.str (PL.nth aa0 k)) := by
      rw [Int.zero_add]
      exact nth_at (l := aa0) hk3
    have hll : al.length ≤ 3 := by
      have := congrArg List.length han2
      rw [List.length_map, List.length_take] at this
      omega
    refine ⟨_, _, (gog_name 5 sc__law_parts.nd), ?_⟩
    refine rn_cons (rs_unp (gx_call c__law_effect hr (by decide) (goA_cons (go_var 2) (goA_cons (go_var 3) (goA_cons (go_var 0) (goA_cons (gx_bin (gx_bin (go_var 1) go_int) (gx_bin go_int (go_var 5))) goA_nil)))) ⟨hs, ms, n, ds, at_ + 28 + 3 * (0 + (k : Int)), rfl, rfl, by omega, by omega, hds, by omega, by omega⟩) (gog_tup rfl (gogs_cons (gog_name 6 sc__law_parts.nd) (gogs_cons (gog_name 7 sc__law_parts.nd) (gogs_cons (gog_name 8 sc__law_parts.nd) gogs_nil)))) ?_)
    have hq := effF_ok hs ms (nthI ds (at_ + 28 + 3 * (0 + (k : Int)))) (nthI ds (at_ + 28 + 3 * (0 + (k : Int)) + 1)) (nthI ds (at_ + 28 + 3 * (0 + (k : Int)) + 2))
    revert hq
    generalize effF hs ms (nthI ds (at_ + 28 + 3 * (0 + (k : Int)))) (nthI ds (at_ + 28 + 3 * (0 + (k : Int)) + 1)) (nthI ds (at_ + 28 + 3 * (0 + (k : Int)) + 2)) = q
    intro hq
    refine rn_to (Γ' := [.dat (.list ds), .dat (.int at_), .dat (.list (hs.map .str)), .dat (.list (ms.map .str)), .dat (.list (l.map eM)), .dat (.int (0 + (k : Int))), .dat (eL q.1), .dat (eL q.2.1), .dat (eO q.2.2), .dat (.list (bs.map eL)), s10, .dat (.list (cs.map eC)), .own (al.map eA), .any, .any, .any, .any]) rfl ?_
    have hz : (al.map eA).length < sizeLine := ltZ (by rw [List.length_map]; omega)
    refine rn_cons (rs_app 12 rfl (go_is (go_tup (god_cons (gx_ix (go_lst (god_cons go_str (god_cons go_str god_nil))) (go_var 5)) (god_cons (go_var 6) (god_cons (go_var 7) (god_cons (go_var 8) god_nil))))) (show _ = eA ⟨PL.nth aa0 k, q.1, q.2.1, q.2.2⟩ from rfl)) hz ?_)
    refine rn_nil ⟨al ++ [⟨PL.nth aa0 k, q.1, q.2.1, q.2.2⟩], _, _, _, _, by rw [List.map_append]; rfl, by rw [List.map_append, han2, take_snocS (l := aa0) hk3]; rfl, fun x hx => ?_⟩
    rcases List.mem_append.mp hx with hx | hx
    · exact ha2 x hx
    · rw [List.mem_singleton.mp hx]
      exact ⟨eff_turn hh hq, hq.to⟩
  rintro _ ⟨al, s5, s6, s7, s8, rfl, han2, ha2⟩
  rw [rng_len] at han2
  have haok : NmsOk (al.map Al.n) 0 4 := by
    rw [han2]
    exact aa_ok (by omega)
  refine rn_ice 12 rfl (by rw [hJ]; exact List.not_mem_nil) ?_
  refine rn_cons (rs_own 13 (goN_lst god_nil) ?_ sc__law_parts.nd)
  refine rn_to (Γ' := [_, _, _, _, _, _, _, _, _, _, _, _, _, _, _, _, _]) rfl ?_
  refine rn_cons (rs_for (fun k Γ' => ∃ (rs : List Rw) (s5 s14 s15 : Sl), Γ' = [.dat (.list ds), .dat (.int at_), .dat (.list (hs.map .str)), .dat (.list (ms.map .str)), .dat (.list (l.map eM)), s5, s6, s7, s8, .dat (.list (bs.map eL)), s10, .dat (.list (cs.map eC)), .dat (.list (al.map eA)), .own (rs.map eR), s14, s15, .any] ∧ (rs.map Rw.n).Sublist (ra0.take k) ∧ ∀ r ∈ rs, 1 ≤ r.st.length ∧ r.st.length ≤ 4 ∧ ∀ s ∈ r.st, 1 ≤ s.1 ∧ s.1 ≤ 9 ∧ s.2 ∈ cs.map Cm.n) (gx_rng1 bt.range (gx_bin (gx_int bt.int (gx_ix (go_var 0) (gx_bin (go_var 1) go_int))) go_int)) ?_ ?_ ?_ rfl)
  · exact ⟨[], _, _, _, rfl, List.nil_sublist _, fun _ h => (nomatch h)⟩
  · rintro k d _ hd ⟨rs, s5, s14, s15, rfl, hrn, hrs⟩
    obtain ⟨hk, rfl⟩ := rng_get hd
    have hk3 : k < 2 := by omega
    have g35 := hN (35 + k) (at_ + 35 + (0 + (k : Int))) (by omega) (by omega)
    have q1 : atI [PyData.str "plan", PyData.str "a"] (0 + (k : Int)) = some (.str (PL.nth ra0 k)) := by
      rw [Int.zero_add]
      exact nth_at (l := ra0) hk3
    have hll : rs.length ≤ 2 := by
      have := hrn.length_le
      rw [List.length_map, List.length_take] at this
      omega
    refine ⟨_, _, (gog_name 5 sc__law_parts.nd), ?_⟩
    refine rn_cons (rs_own 14 (goN_lst god_nil) ?_ sc__law_parts.nd)
    refine rn_to (Γ' := [_, _, _, _, _, _, _, _, _, _, _, _, _, _, _, _, _]) rfl ?_
    refine rn_cons (rs_for (fun m Γ' => ∃ (st : List (Int × Str)) (s15 : Sl), Γ' = [.dat (.list ds), .dat (.int at_), .dat (.list (hs.map .str)), .dat (.list (ms.map .str)), .dat (.list (l.map eM)), .dat (.int (0 + (k : Int))), s6, s7, s8, .dat (.list (bs.map eL)), s10, .dat (.list (cs.map eC)), .dat (.list (al.map eA)), .own (rs.map eR), .own (st.map eSt), s15, .any] ∧ st.length ≤ m ∧ ∀ s ∈ st, 1 ≤ s.1 ∧ s.1 ≤ 9 ∧ s.2 ∈ cs.map Cm.n) (gx_rng1 bt.range (gx_bin go_int (gx_bin (gx_int bt.int (gx_ix (go_var 0) (gx_bin (gx_bin (go_var 1) go_int) (go_var 5)))) go_int))) ?_ ?_ ?_ rfl)
    · exact ⟨[], _, rfl, Nat.le_refl _, fun _ h => (nomatch h)⟩
    · rintro m d _ hd ⟨st, s15, rfl, hsl, hst⟩
      obtain ⟨hm2, rfl⟩ := rng_get hd
      have hm3 : m < 3 := by omega
      have g37 := hN (37 + 6 * k + 2 * m) (at_ + 37 + 6 * (0 + (k : Int)) + 2 * (0 + (m : Int))) (by omega) (by omega)
      have g38 := hN (38 + 6 * k + 2 * m) (at_ + 38 + 6 * (0 + (k : Int)) + 2 * (0 + (m : Int))) (by omega) (by omega)
      have lc : (((cs.map eC).length : Nat) : Int) = (cs.length : Int) := by rw [List.length_map]
      refine ⟨_, _, (gog_name 15 sc__law_parts.nd), ?_⟩
      refine rn_cons (rs_if (k := decide (0 < cs.length)) (goT_is (gocT (gx_c (.of hr) (gx_len bt.len (go_var 11)) go_int)) (by rw [lc]; exact decide_eq_decide.mpr (by omega))) (fun h => ?_) fun h => rn_nil (rn_nil ⟨st, _, rfl, by omega, hst⟩))
      have h := of_decide_eq_true h
      generalize N (38 + 6 * k + 2 * m) = z at g38
      have hz0 : 0 ≤ z % (cs.length : Int) ∧ z % (cs.length : Int) < (cs.length : Int) := ⟨Int.emod_nonneg _ (by omega), Int.emod_lt_of_pos _ (by omega)⟩
      obtain ⟨v, hv, hvm⟩ : ∃ v : Cm, atI (cs.map eC) (z % (((cs.map eC).length : Nat) : Int)) = some (eC v) ∧ v ∈ cs := by
        rw [lc]
        refine ⟨cs[(z % (cs.length : Int)).toNat]'(by omega), atI_get' (k := (z % (cs.length : Int)).toNat) ?_ (by omega), List.getElem_mem _⟩
        rw [List.getElem?_map, List.getElem?_eq_getElem (by omega)]
        rfl
      have hc0 : 0 < (((cs.map eC).length : Nat) : Int) := by rw [lc]; omega
      have hz : (st.map eSt).length < sizeLine := ltZ (by rw [List.length_map]; omega)
      refine rn_cons (rs_app 14 rfl (go_is (go_tup (god_cons (gx_bin go_int (gx_bin (gx_int bt.int (gx_ix (go_var 0) (gx_bin (gx_bin (gx_bin (go_var 1) go_int) (gx_bin go_int (go_var 5))) (gx_bin go_int (go_var 15))))) go_int)) (god_cons (gx_ix (d := .str v.n) (gx_ix (d := eC v) (go_var 11) (gx_bin (gx_int bt.int (gx_ix (go_var 0) (gx_bin (gx_bin (gx_bin (go_var 1) go_int) (gx_bin go_int (go_var 5))) (gx_bin go_int (go_var 15))))) (gx_len bt.len (go_var 11)) (by exact ⟨rfl, hc0⟩)) (by exact hv)) go_int (by exact rfl)) god_nil))) (show _ = eSt (1 + N (37 + 6 * k + 2 * m) % 3, v.n) from rfl)) hz ?_)
      refine rn_nil (rn_nil ⟨st ++ [(1 + N (37 + 6 * k + 2 * m) % 3, v.n)], _, by rw [List.map_append]; rfl, by rw [List.length_append]; exact Nat.add_le_add hsl (Nat.le_refl 1), fun x hx => ?_⟩)
      rcases List.mem_append.mp hx with hx | hx
      · exact hst x hx
      · rw [List.mem_singleton.mp hx]
        refine ⟨?_, ?_, List.mem_map.mpr ⟨v, hvm, rfl⟩⟩
        · show (1 : Int) ≤ 1 + N (37 + 6 * k + 2 * m) % 3
          omega
        · show 1 + N (37 + 6 * k + 2 * m) % 3 ≤ (9 : Int)
          omega
    rintro _ ⟨st, s15, rfl, hsl, hst⟩
    rw [rng_len] at hsl
    refine rn_ice 14 rfl (by rw [hJ]; exact List.not_mem_nil) ?_
    have lst : (((st.map eSt).length : Nat) : Int) = (st.length : Int) := by rw [List.length_map]
    refine rn_cons (rs_if (k := decide (0 < st.length)) (goT_is (gocT (gx_c (.of hr) (gx_len bt.len (go_var 14)) go_int)) (by rw [lst]; exact decide_eq_decide.mpr (by omega))) (fun h => ?_) fun h => rn_nil (rn_nil ⟨rs, _, _, _, rfl, hrn.trans (by rw [take_snocS (l := ra0) hk3]; exact List.sublist_append_left _ _), hrs⟩))
    have h := of_decide_eq_true h
    have hz : (rs.map eR).length < sizeLine := ltZ (by rw [List.length_map]; omega)
    refine rn_cons (rs_app 13 rfl (go_is (go_tup (god_cons (gx_ix (go_lst (god_cons go_str (god_cons go_str god_nil))) (go_var 5)) (god_cons (gx_tuple bt.tuple (go_var 14)) god_nil))) (show _ = eR ⟨PL.nth ra0 k, st⟩ from rfl)) hz ?_)
    refine rn_nil (rn_nil ⟨rs ++ [⟨PL.nth ra0 k, st⟩], _, _, _, by rw [List.map_append]; rfl, by rw [List.map_append, take_snocS (l := ra0) hk3]; exact hrn.append (List.Sublist.refl _), fun x hx => ?_⟩)
    rcases List.mem_append.mp hx with hx | hx
    · exact hrs x hx
    · rw [List.mem_singleton.mp hx]
      exact ⟨h, by show st.length ≤ 4; omega, hst⟩
  rintro _ ⟨rs, s5, s14, s15, rfl, hrn, hrs⟩
  refine rn_ice 13 rfl (by rw [hJ]; exact List.not_mem_nil) ?_
  obtain ⟨qu, hq1, hq2⟩ := qz_at (i := N 49 % 5) (by omega)
  refine rn_cons (rs_set 16 (gx_ix (d := eQ qu) (go_lst (god_cons go_non (god_cons go_int (god_cons go_int (god_cons go_int (god_cons go_int god_nil)))))) (gx_bin (gx_int bt.int (gx_ix (go_var 0) (gx_bin (go_var 1) go_int))) go_int) (by exact hq1)) ?_ sc__law_parts.nd)
  refine rn_cons (rs_ret (go_ex ⟨hs, l, bs, cs, al, rs, qu⟩ ⟨⟨hh, by show NmsOk (l.map Md.n) 1 5; rw [hn]; exact hm, hcok, haok, ra_nms (hrn.trans (List.take_sublist _ _)), ht, by show ∀ c ∈ cs, lotOfB c.ms (l.map Md.n) = true; rw [hn]; exact hc1, by show ∀ c ∈ cs, turnB c.on c.off hs = true ∧ toOk c.to (l.map Md.n); rw [hn]; exact hc2, by show ∀ c ∈ al, turnB c.on c.off hs = true ∧ toOk c.to (l.map Md.n); rw [hn]; exact ha2, hrs, hq2, by show bs.length ≤ 8; omega, hbn, hb⟩, by show noneS ∉ l.map Md.n; rw [hn]; exact hmx, by show noneS ∉ cs.map Cm.n; rw [hcn]; exact fun z => absurd (List.mem_of_mem_take z) (by decide +kernel), by show noneS ∉ al.map Al.n; rw [han2]; exact fun z => absurd (List.mem_of_mem_take z) (by decide +kernel), fun z => absurd ((hrn.trans (List.take_sublist _ _)).subset z) (by decide +kernel)⟩ (go_is (go_tup (god_cons (go_var 2) (god_cons (go_var 4) (god_cons (go_var 9) (god_cons (go_var 11) (god_cons (go_var 12) (god_cons (go_var 13) (god_cons (go_var 16) god_nil)))))))) rfl)))
end

/-! ### what a book of some parts tells -/
abbrev s__law_first : Stmt := topS 29
theorem sc__law_first : FnScope ["_law_part"] ["_law_part"] (defScope s__law_first) := ⟨rfl, rfl, rfl, by decide +kernel, rfl, by decide +kernel, by decide +kernel⟩
abbrev s__law_due : Stmt := topS 28
theorem sc__law_due : FnScope ["_law_parts_here", "_law_holds", "_law_modes", "_law_barred", "_law_commands", "_law_alarms", "_law_rows", "_law_quiet"] ["_law_parts_here"] (defScope s__law_due) := ⟨rfl, rfl, rfl, by decide +kernel, rfl, by decide +kernel, by decide +kernel⟩
abbrev s__law_told : Stmt := topS 30
theorem sc__law_told : FnScope ["_law_book"] ["_law_book"] (defScope s__law_told) := ⟨rfl, rfl, rfl, by decide +kernel, rfl, by decide +kernel, by decide +kernel⟩
abbrev s__law_unknown : Stmt := topS 31
theorem sc__law_unknown : FnScope ["_law_book", "_law_many", "error"] ["_law_book"] (defScope s__law_unknown) := ⟨rfl, rfl, rfl, by decide +kernel, rfl, by decide +kernel, by decide +kernel⟩
abbrev s__law_right : Stmt := topS 32
theorem sc__law_right : FnScope ["_law_parts_here", "_law_given", "_law_part", "_law_book", "_law_k", "_law_due_here", "_law_turn", "_law_told_here", "_law_mode", "_law_command", "_law_alarm", "_law_row_here"] ["_law_parts_here"] (defScope s__law_right) := ⟨rfl, rfl, rfl, by decide +kernel, rfl, by decide +kernel, by decide +kernel⟩
def S__law_due : List Mn → Mn → Prop := fun Ps R => ∃ b : Bk, Ps = [datP (pD b)] ∧ R = datP (dueD b) ∧ BkOk b
def S__law_told : List Mn → Ow → Prop := fun Ps R => ∃ b : Bk, Ps = [bookP b] ∧ R = tqO (tv b) (eQ b.quiet)
def S__law_unknown : List Mn → Mn → Prop := fun Ps R => ∃ b : Bk, Ps = [bookP b] ∧ R = datP (.bool true) ∧ BkD b
section
variable {P : Program} {w : World} {K : PySem.W.Frag} {mg : Str → Option Value} {base : Heap}
theorem ok__law_first (df : Dfn K mg "_law_first" s__law_first ["_law_part"])   (x_LETTERS : GlobD K mg "LETTERS" (.str letS)) (T_InvalidBook : Ec0 K mg "InvalidBook") (x_MODE : GlobD K mg "MODE" (.str "mode")) (x_COMMAND : GlobD K mg "COMMAND" (.str "command")) (x_ALARM : GlobD K mg "ALARM" (.str "alarm")) (x_ROW : GlobD K mg "ROW" (.str "row")) (O_Book : ClsOk K "Book" ["_holds", "_barred", "_parts", "_quiet"]) (T_Unk : Xt_UnknownName P K mg) (bt : Bt mg) : FstF K mg "_law_first" := by
  exact fst_ok df rfl (by decide +kernel) rfl rfl rfl rfl rfl
theorem ok__law_due (df : Dfn K mg "_law_due" s__law_due ["_law_parts_here"]) (c__law_first : FstF K mg "_law_first")  (x_LETTERS : GlobD K mg "LETTERS" (.str letS)) (T_InvalidBook : Ec0 K mg "InvalidBook") (x_MODE : GlobD K mg "MODE" (.str "mode")) (x_COMMAND : GlobD K mg "COMMAND" (.str "command")) (x_ALARM : GlobD K mg "ALARM" (.str "alarm")) (x_ROW : GlobD K mg "ROW" (.str "row")) (O_Book : ClsOk K "Book" ["_holds", "_barred", "_parts", "_quiet"]) (T_Unk : Xt_UnknownName P K mg) (bt : Bt mg) : Cal P w K mg base "_law_due" ["_law_parts_here"] 2 S__law_due := by
  refine cal_ok df sc__law_due ?_ ?_
  · rintro _ _ ⟨b, rfl, rfl, _⟩
    rfl
  rintro _ _ ⟨b, rfl, rfl, hb⟩ f cdv A outer s H E hr J hJ
  have h5 := hb.h.hi
  have h6 := hb.b1
  unfold pD
  refine rn_cons (rs_unp (go_var 0) (gog_tup rfl (gogs_cons (gog_name 1 sc__law_due.nd) (gogs_cons (gog_name 2 sc__law_due.nd) (gogs_cons (gog_name 3 sc__law_due.nd) (gogs_cons (gog_name 4 sc__law_due.nd) (gogs_cons (gog_name 5 sc__law_due.nd) (gogs_cons (gog_name 6 sc__law_due.nd) (gogs_cons (gog_name 7 sc__law_due.nd) gogs_nil)))))))) ?_)
  refine rn_to (Γ' := [_, _, _, _, _, _, _, _]) rfl ?_
  refine rn_cons (rs_ret (go_is (go_tup (god_cons (go_of_new (gx_sort (.of hr) bt.sorted (go_var 1) (by exact rfl) (by omega))) (god_cons (go_var 2) (god_cons (go_of_new (goN_sortD (ds := b.barred.map eL) (.of hr) bt.sorted (go_var 3) (by exact rfl) (sortOk_L (xs := b.barred) (by omega) fun l hl e => by have := (hb.b3 l hl).1; rw [e] at this; exact absurd this (by decide)))) (god_cons (go_of_new (goN_is (goN_sortF hr c__law_first bt.sorted (go_var 4) (cmds_fst hb)) (cmds_srtF b))) (god_cons (go_var 5) (god_cons (go_var 6) (god_cons (go_var 7) god_nil)))))))) rfl))
theorem ok__law_told (df : Dfn K mg "_law_told" s__law_told ["_law_book"]) (c_Book_holds : CalPU P w K mg base "Book" "holds" ["self"] 1 S_Book_holds) (c_Book_modes : CalPU P w K mg base "Book" "modes" ["self"] 1 S_Book_modes) (c_Book_barred : CalPU P w K mg base "Book" "barred" ["self"] 1 S_Book_barred) (c_Book_commands : CalPU P w K mg base "Book" "commands" ["self"] 1 S_Book_commands) (c_Book_alarms : CalPU P w K mg base "Book" "alarms" ["self"] 1 S_Book_alarms) (c_Book_rows : CalPU P w K mg base "Book" "rows" ["self"] 1 S_Book_rows) (c_Book_quiet : CalP P w K mg base "Book" "quiet" ["self"] 1 S_Book_quiet)  (x_LETTERS : GlobD K mg "LETTERS" (.str letS)) (T_InvalidBook : Ec0 K mg "InvalidBook") (x_MODE : GlobD K mg "MODE" (.str "mode")) (x_COMMAND : GlobD K mg "COMMAND" (.str "command")) (x_ALARM : GlobD K mg "ALARM" (.str "alarm")) (x_ROW : GlobD K mg "ROW" (.str "row")) (O_Book : ClsOk K "Book" ["_holds", "_barred", "_parts", "_quiet"]) (T_Unk : Xt_UnknownName P K mg) (bt : Bt mg) : CalU P w K mg base "_law_told" ["_law_book"] 3 S__law_told := by
  refine calU_ok df sc__law_told ?_ ?_
  · rintro _ _ ⟨b, rfl, rfl⟩
    rfl
  rintro _ _ ⟨b, rfl, rfl⟩ f cdv A outer s H E hr J hJ
  refine rn_cons (rs_retU (goU_tq (gonq_cons (goN_of_U (goU_prop c_Book_holds hr (by decide) (go_var 0) (by exact ⟨_, rfl, rfl⟩))) (gonq_cons (goN_of_U (goU_prop c_Book_modes hr (by decide) (go_var 0) (by exact ⟨_, rfl, rfl⟩))) (gonq_cons (goN_of_U (goU_prop c_Book_barred hr (by decide) (go_var 0) (by exact ⟨_, rfl, rfl⟩))) (gonq_cons (goN_of_U (goU_prop c_Book_commands hr (by decide) (go_var 0) (by exact ⟨_, rfl, rfl⟩))) (gonq_cons (goN_of_U (goU_prop c_Book_alarms hr (by decide) (go_var 0) (by exact ⟨_, rfl, rfl⟩))) (gonq_cons (goN_of_U (goU_prop c_Book_rows hr (by decide) (go_var 0) (by exact ⟨_, rfl, rfl⟩))) (gonq_one (gx_prop c_Book_quiet hr (by decide) (go_var 0) (by exact ⟨_, rfl, rfl⟩))))))))))) 
theorem ok__law_unknown (df : Dfn K mg "_law_unknown" s__law_unknown ["_law_book"]) (c_Book_mode_named : CalM P w K mg base (L2.CX P w) "Book" "mode_named" ["self", "name"] 3 (orSp (spS K S_Book_mode_named) (spE K E_Book_mode_named))) (c_Book_command_named : CalM P w K mg base (L2.CX P w) "Book" "command_named" ["self", "name"] 3 (orSp (spS K S_Book_command_named) (spE K E_Book_command_named))) (c_Book_alarm_named : CalM P w K mg base (L2.CX P w) "Book" "alarm_named" ["self", "name"] 3 (orSp (spS K S_Book_alarm_named) (spE K E_Book_alarm_named))) (c_Book_row_named : CalM P w K mg base (L2.CX P w) "Book" "row_named" ["self", "name"] 3 (orSp (spS K S_Book_row_named) (spE K E_Book_row_named)))  (x_LETTERS : GlobD K mg "LETTERS" (.str letS)) (T_InvalidBook : Ec0 K mg "InvalidBook") (x_MODE : GlobD K mg "MODE" (.str "mode")) (x_COMMAND : GlobD K mg "COMMAND" (.str "command")) (x_ALARM : GlobD K mg "ALARM" (.str "alarm")) (x_ROW : GlobD K mg "ROW" (.str "row")) (O_Book : ClsOk K "Book" ["_holds", "_barred", "_parts", "_quiet"]) (T_Unk : Xt_UnknownName P K mg) (bt : Bt mg) : Cal P w K mg base "_law_unknown" ["_law_book"] 4 S__law_unknown := by
  refine cal_ok df sc__law_unknown ?_ ?_
  · rintro _ _ ⟨b, rfl, rfl, _⟩
    rfl
  rintro _ _ ⟨b, rfl, rfl, hb⟩ f cdv A outer s H E hr J hJ
  obtain ⟨C0, fI, hC0, T⟩ := id T_Unk.ex
  refine rn_cons (rs_set 1 go_int ?_ sc__law_unknown.nd)
  refine rn_cons (rs_try_asF (xn := "UnknownName") (fn := "name") (fv := .str noneS) (i := 2) rfl rfl sc__law_unknown.nd rfl rfl ⟨C0, hC0, ⟨rfl, by decide, .inl T.gC⟩, T.te⟩ takes0 (fun W pn xe tk => soe_expr (goe_meth c_Book_mode_named tk hr (by decide) (go_var 0) rfl (goA_cons go_str goA_nil) ⟨b, noneS, rfl, rfl, hb.ok, hb.m⟩)) fun C a d oe pn hC hz hf => ?_)
  cases hC0.eq hC
  refine rn_cons (rs_set 1 (go_is (d' := .int 1) (gx_bin (go_var 1) (gx_int bt.int (goc (gc_eqS (go_errf (PySem.SupX.xfT T) T.noN hz hf (go_var 2) fun _ _ => Dp.str _) go_str)))) rfl) (rn_nil ?_) sc__law_unknown.nd)
  refine rn_cons (rs_try_asF (xn := "UnknownName") (fn := "name") (fv := .str noneS) (i := 2) rfl rfl sc__law_unknown.nd rfl rfl ⟨C0, hC0, ⟨rfl, by decide, .inl T.gC⟩, T.te⟩ takes0 (fun W pn xe tk => soe_expr (goe_meth c_Book_command_named tk hr (by decide) (go_var 0) rfl (goA_cons go_str goA_nil) ⟨b, noneS, rfl, rfl, hb.ok, hb.c⟩)) fun C a d oe pn hC hz hf => ?_)
  cases hC0.eq hC
  refine rn_cons (rs_set 1 (go_is (d' := .int 2) (gx_bin (go_var 1) (gx_int bt.int (goc (gc_eqS (go_errf (PySem.SupX.xfT T) T.noN hz hf (go_var 2) fun _ _ => Dp.str _) go_str)))) rfl) (rn_nil ?_) sc__law_unknown.nd)
  refine rn_cons (rs_try_asF (xn := "UnknownName") (fn := "name") (fv := .str noneS) (i := 2) rfl rfl sc__law_unknown.nd rfl rfl ⟨C0, hC0, ⟨rfl, by decide, .inl T.gC⟩, T.te⟩ takes0 (fun W pn xe tk => soe_expr (goe_meth c_Book_alarm_named tk hr (by decide) (go_var 0) rfl (goA_cons go_str goA_nil) ⟨b, noneS, rfl, rfl, hb.ok, hb.a⟩)) fun C a d oe pn hC hz hf => ?_)
  cases hC0.eq hC
  refine rn_cons (rs_set 1 (go_is (d' := .int 3) (gx_bin (go_var 1) (gx_int bt.int (goc (gc_eqS (go_errf (PySem.SupX.xfT T) T.noN hz hf (go_var 2) fun _ _ => Dp.str _) go_str)))) rfl) (rn_nil ?_) sc__law_unknown.nd)
  refine rn_cons (rs_try_asF (xn := "UnknownName") (fn := "name") (fv := .str noneS) (i := 2) rfl rfl sc__law_unknown.nd rfl rfl ⟨C0, hC0, ⟨rfl, by decide, .inl T.gC⟩, T.te⟩ takes0 (fun W pn xe tk => soe_expr (goe_meth c_Book_row_named tk hr (by decide) (go_var 0) rfl (goA_cons go_str goA_nil) ⟨b, noneS, rfl, rfl, hb.ok, hb.r⟩)) fun C a d oe pn hC hz hf => ?_)
  cases hC0.eq hC
  refine rn_cons (rs_set 1 (go_is (d' := .int 4) (gx_bin (go_var 1) (gx_int bt.int (goc (gc_eqS (go_errf (PySem.SupX.xfT T) T.noN hz hf (go_var 2) fun _ _ => Dp.str _) go_str)))) rfl) (rn_nil ?_) sc__law_unknown.nd)
  refine rn_cons (rs_ret (go_is (goc (gc_eqI (go_var 1) go_int)) rfl))
end

abbrev s_law : Stmt := topS 33
theorem sc_law : FnScope ["_law_script", "_law_numbers_here", "_law_holds", "_law_barred", "_law_modes", "_law_k", "_law_commands", "_law_alarms", "_law_rows"] ["_law_script"] (defScope s_law) := ⟨rfl, rfl, rfl, by decide +kernel, rfl, by decide +kernel, by decide +kernel⟩
/-- the numbers of the constant books -/
def nthD (l : List D) (k : Nat) : D := l.getD k .none
def sI (x : Str) (i : Int) : Str := x ++ ((toString i : String) : Str)
theorem modes_at {x : Nat} (h : x < 5) : PyData.tuple [.str (sI "m" (x : Int)), .tuple [.str "h0"], .tuple [.str "h1", .str "h2"]] = nthD (bBig.modes.map eM) x := by
  rcases (show x = 0 ∨ x = 1 ∨ x = 2 ∨ x = 3 ∨ x = 4 by omega) with rfl | rfl | rfl | rfl | rfl <;> rfl
theorem cmds_at {x : Nat} (h : x < 8) : PyData.tuple [.str (sI "c" (7 - (x : Int))), .tuple [.str "m0", .str "m4"], .tuple [], .tuple [.str "h5"], .str "m2"] = nthD (bBig.cmds.map eC) x := by
  rcases (show x = 0 ∨ x = 1 ∨ x = 2 ∨ x = 3 ∨ x = 4 ∨ x = 5 ∨ x = 6 ∨ x = 7 by omega) with rfl | rfl | rfl | rfl | rfl | rfl | rfl | rfl <;> rfl
theorem alarms_at {x : Nat} (h : x < 4) : PyData.tuple [.str (sI "l" (x : Int)), .tuple [.str "h0", .str "h1", .str "h2", .str "h3", .str "h4", .str "h5"], .tuple [], .none] = nthD (bBig.alarms.map eA) x := by
  rcases (show x = 0 ∨ x = 1 ∨ x = 2 ∨ x = 3 by omega) with rfl | rfl | rfl | rfl <;> rfl
theorem rows_at {x : Nat} (h : x < 3) : PyData.tuple [.str (sI "r" (x : Int)), .tuple [.tuple [.int 9, .str "c0"], .tuple [.int 1, .str "c7"], .tuple [.int 5, .str "c0"], .tuple [.int 9, .str "c3"]]] = nthD (bBig.rows.map eR) x := by
  rcases (show x = 0 ∨ x = 1 ∨ x = 2 by omega) with rfl | rfl | rfl <;> rfl
theorem sI_len {y : Str} {i : Int} (hy : y.length = 1) (h : 0 ≤ i ∧ i < 8) : y.length + ((toString i : String) : Str).length ≤ sizeLine := by
  rw [hy]
  rcases (show i = 0 ∨ i = 1 ∨ i = 2 ∨ i = 3 ∨ i = 4 ∨ i = 5 ∨ i = 6 ∨ i = 7 by omega) with rfl | rfl | rfl | rfl | rfl | rfl | rfl | rfl <;> exact leZ (by decide +kernel)
theorem sI_log {i : Int} (h : 0 ≤ i ∧ i < 8) : i.natAbs.log2 < 1920 := by
  rcases (show i = 0 ∨ i = 1 ∨ i = 2 ∨ i = 3 ∨ i = 4 ∨ i = 5 ∨ i = 6 ∨ i = 7 by omega) with rfl | rfl | rfl | rfl | rfl | rfl | rfl | rfl <;> decide +kernel
def S__law_right : List Mn → Mn → Prop := fun Ps R => Ps = [exP BkD fun b => datP (pD b)] ∧ R = datP (.bool true)
theorem at6 (b : Bk) {k : Nat} {ds : List D} (h : (gv b)[k]? = some ds) : atI [PyData.list (b.holds.map .str), .list (b.modes.map eM), .list (b.barred.map eL), .list (b.cmds.map eC), .list (b.alarms.map eA), .list (b.rows.map eR), eQ b.quiet] ((k : Nat) : Int) = some (.list ds) := by
  have e : [PyData.list (b.holds.map .str), .list (b.modes.map eM), .list (b.barred.map eL), .list (b.cmds.map eC), .list (b.alarms.map eA), .list (b.rows.map eR), eQ b.quiet] = (gv b).map PyData.list ++ [eQ b.quiet] := rfl
  have hl : k < (gv b).length := (List.getElem?_eq_some_iff.mp h).1
  rw [e]
  refine atI_nat ?_
  rw [List.getElem?_append_left (by rw [List.length_map]; exact hl), List.getElem?_map, h]
  rfl
section
variable {P : Program} {w : World} {K : PySem.W.Frag} {mg : Str → Option Value} {base : Heap}
theorem ok__law_right (df : Dfn K mg "_law_right" s__law_right ["_law_parts_here"]) (c_Book___init__ : CalC P w K mg base "Book" ["self", "holds", "modes", "barred", "commands", "alarms", "rows", "quiet"] 6 S_Book___init__) (c__law_due : Cal P w K mg base "_law_due" ["_law_parts_here"] 2 S__law_due) (c__law_told : CalU P w K mg base "_law_told" ["_law_book"] 3 S__law_told) (c__law_unknown : Cal P w K mg base "_law_unknown" ["_law_book"] 4 S__law_unknown) (c_Book_safe : CalP P w K mg base "Book" "safe" ["self"] 1 S_Book_safe) (c_Book_mode_named : CalM P w K mg base (L2.CX P w) "Book" "mode_named" ["self", "name"] 3 (orSp (spS K S_Book_mode_named) (spE K E_Book_mode_named))) (c_Book_command_named : CalM P w K mg base (L2.CX P w) "Book" "command_named" ["self", "name"] 3 (orSp (spS K S_Book_command_named) (spE K E_Book_command_named))) (c_Book_alarm_named : CalM P w K mg base (L2.CX P w) "Book" "alarm_named" ["self", "name"] 3 (orSp (spS K S_Book_alarm_named) (spE K E_Book_alarm_named))) (c_Book_row_named : CalM P w K mg base (L2.CX P w) "Book" "row_named" ["self", "name"] 3 (orSp (spS K S_Book_row_named) (spE K E_Book_row_named)))  (x_LETTERS : GlobD K mg "LETTERS" (.str letS)) (T_InvalidBook : Ec0 K mg "InvalidBook") (x_MODE : GlobD K mg "MODE" (.str "mode")) (x_COMMAND : GlobD K mg "COMMAND" (.str "command")) (x_ALARM : GlobD K mg "ALARM" (.str "alarm")) (x_ROW : GlobD K mg "ROW" (.str "row")) (O_Book : ClsOk K "Book" ["_holds", "_barred", "_parts", "_quiet"]) (T_Unk : Xt_UnknownName P K mg) (bt : Bt mg) : Cal P w K mg base "_law_right" ["_law_parts_here"] 8 S__law_right := by
  refine cal_ok df sc__law_right ?_ ?_
  · rintro _ _ ⟨rfl, rfl⟩
    rfl
  rintro _ _ ⟨rfl, rfl⟩ f cdv A outer s H E hr J hJ
  refine rn_ex 0 rfl fun b hd => ?_
  have hd : BkD b := hd
  have hb := hd.ok
  obtain ⟨z1, z2, z3, z4, z5⟩ := lens6 hb
  obtain ⟨m0, mr, hm0⟩ : ∃ m r, b.modes = m :: r := by
    have := hb.m.lo
    rw [List.length_map] at this
    cases h : b.modes with
    | nil =>
      rw [h] at this
      exact absurd this (by decide)
    | cons m r => exact ⟨m, r, rfl⟩
  unfold pD
  refine rn_to (Γ' := [_, _, _, _, _, _, _, _, _, _, _, _]) rfl ?_
  refine rn_cons (rs_lcU 1 (xs := gv b) (enc := .list) (f := fun l => l) (own := [("_law_part", 2)]) rfl sc__law_right.nd (goi_tup (go_is (d' := .tuple ((gv b).map .list)) (go_slT (go_var 0) goO_none (goO_some go_int)) rfl)) (fun k x hx => ⟨_, _, fun s H C cl fp => (gog_name 2 sc__law_right.nd), fun s H C cl fp => (gx_list bt.list (go_var 2) (by exact rfl)), by simp⟩) (by first | (show blkC ["_law_parts_here", "_law_given", "_law_part", "_law_book", "_law_k", "_law_due_here", "_law_turn", "_law_told_here", "_law_mode", "_law_command", "_law_alarm", "_law_row_here"] (defScope s__law_right) _ _ = true; decide +kernel) | (show blkC ["_law_parts_here", "_law_given", "_law_part", "_law_book", "_law_k", "_law_due_here", "_law_turn", "_law_told_here", "_law_mode", "_law_command", "_law_alarm", "_law_row_here"] (relS _ (defScope s__law_right)) _ _ = true; decide +kernel) | (show blkC ["_law_parts_here", "_law_given", "_law_part", "_law_book", "_law_k", "_law_due_here", "_law_turn", "_law_told_here", "_law_mode", "_law_command", "_law_alarm", "_law_row_here"] (relS _ (relS _ (defScope s__law_right))) _ _ = true; decide +kernel)) (sw_true rfl rfl rfl (by decide +kernel)) ?_ (by show 6 < 1000000; decide))
  refine rn_is 1 rfl (s' := .ob (llO (gv b))) rfl ?_
  refine rn_to (Γ' := [_, _, _, _, _, _, _, _, _, _, _, _]) rfl ?_
  refine rn_cons (rs_ownU 3 (goU_thN (W := llO (gv b)) (P := datP (.list ((gv b).map .list))) 1 rfl (fzM_of (fz_ll _)) ntw_ll (goU_make c_Book___init__ hr (by decide) (goA_cons (gx_ix (go_var 1) go_int) (goA_cons (gx_ix (go_var 1) go_int) (goA_cons (gx_ix (go_var 1) go_int) (goA_cons (gx_ix (go_var 1) go_int) (goA_cons (gx_ix (go_var 1) go_int) (goA_cons (gx_ix (go_var 1) go_int) (goA_cons (gx_ix (go_var 0) go_int) goA_nil))))))) ⟨b, rfl, rfl, rfl, rfl, hb⟩) (cutw_book b)) ?_ sc__law_right.nd)
  refine rn_iceM 3 rfl (fz_book b) (by rw [hJ]; exact List.not_mem_nil) ?_
  refine rn_to (Γ' := [_, _, _, _, _, _, _, _, _, _, _, _]) rfl ?_
  refine rn_cons (rs_for (fun k Γ' => ∃ (dss : List (List D)) (s4 : Sl), Γ' = [.dat (.tuple [.list (b.holds.map .str), .list (b.modes.map eM), .list (b.barred.map eL), .list (b.cmds.map eC), .list (b.alarms.map eA), .list (b.rows.map eR), eQ b.quiet]), .ob (llO dss), .any, .pr (bookP b), s4, .any, .any, .any, .any, .any, .any, .any] ∧ ∀ m, k ≤ m → dss[m]? = (gv b)[m]?) (gx_rng1 bt.range go_int) ?_ ?_ ?_ rfl)
  · exact ⟨_, _, rfl, fun _ _ => rfl⟩
  · rintro k d _ hd ⟨dss, s4, rfl, he⟩
    obtain ⟨hk, rfl⟩ := rng_get hd
    have hk6 : k < (gv b).length := hk
    rw [Int.zero_add]
    have hg : (gv b)[k]? = some ((gv b)[k]'hk6) := List.getElem?_eq_getElem hk6
    have hds := he k (Nat.le_refl k)
    rw [hg] at hds
    have hmem : (gv b)[k]'hk6 ∈ gv b := List.getElem_mem hk6
    generalize (gv b)[k]'hk6 = ds at hg hds hmem
    have hsh := gv_shp hb hmem
    have hln := gv_len hb hmem
    refine ⟨_, _, (gog_name 4 sc__law_right.nd), ?_⟩
    refine rn_cons (rs_if (k := false) (goT_is (goT_thM 1 rfl (fzM_of (fz_ll _)) (gocT (gc_neD (x := .list ds) (y := .list ds) (.of hr) (gx_ix (go_var 1) (go_var 4) (by exact atI_nat (by rw [List.getElem?_map, hds]; rfl))) (gx_ix (go_var 0) (go_var 4) (by exact at6 b hg)) hsh.ok hsh.ok))) (by rw [eqv_refl hsh.1]; rfl)) (fun h => nomatch h) fun _ => rn_nil ?_)
    refine rn_cons (rs_appL (gol_ixE 1 (go_var 4) hds rfl) go_str (ltZ (by omega)) (rn_nil ⟨_, _, rfl, fun m hm => ?_⟩) (Nat.le_of_ble_eq_true rfl))
    rw [List.getElem?_set_ne (by omega)]
    exact he m (by omega)
  rintro _ ⟨dss, s4, rfl, _⟩
  refine rn_cons (rs_set 5 (gx_call c__law_due hr (by decide) (goA_cons (go_var 0) goA_nil) ⟨b, rfl, rfl, hb⟩) ?_ sc__law_right.nd)
  refine rn_to (Γ' := [_, _, _, _, _, _, _, _, _, _, _, _]) rfl ?_
  have hdu := shp_due hb
  refine rn_cons (rs_for (fun k Γ' => ∃ (s4 s6 s7 : Sl), Γ' = [.dat (.tuple [.list (b.holds.map .str), .list (b.modes.map eM), .list (b.barred.map eL), .list (b.cmds.map eC), .list (b.alarms.map eA), .list (b.rows.map eR), eQ b.quiet]), .ob (llO dss), .any, .pr (bookP b), s4, .dat (dueD b), s6, s7, .any, .any, .any, .any] ∧ True) (gx_rng1 bt.range go_int) ?_ ?_ ?_ rfl)
  · exact ⟨_, _, _, rfl, True.intro⟩
  · rintro k d _ hd ⟨s4, s6, s7, rfl, _⟩
    obtain ⟨hk, rfl⟩ := rng_get hd
    refine ⟨_, _, (gog_name 6 sc__law_right.nd), ?_⟩
    refine rn_cons (rs_ownU 7 (gx_callU c__law_told hr (by decide) (goA_cons (go_var 3) goA_nil) ⟨b, rfl, rfl⟩) ?_ sc__law_right.nd)
    refine rn_cons (rs_if (k := false) (goT_is (goT_thM 7 rfl (fzM_of (fz_tq _ _)) (gocT (gc_neD (x := dueD b) (y := dueD b) (.of hr) (go_is (go_var 7) (due_tv b)) (go_var 5) hdu.ok hdu.ok))) (by rw [eqv_refl hdu.1]; rfl)) (fun h => nomatch h) fun _ => rn_nil ?_)
    refine rn_to (Γ' := [_, _, _, _, _, _, _, _, _, _, _, _]) rfl ?_
    refine rn_cons (rs_for (fun k2 Γ' => ∃ (ess : List (List D)) (s4 : Sl), Γ' = [.dat (.tuple [.list (b.holds.map .str), .list (b.modes.map eM), .list (b.barred.map eL), .list (b.cmds.map eC), .list (b.alarms.map eA), .list (b.rows.map eR), eQ b.quiet]), .ob (llO dss), .any, .pr (bookP b), s4, .dat (dueD b), .dat (.int (0 + (k : Int))), .ob (tqO ess (eQ b.quiet)), .any, .any, .any, .any] ∧ ∀ m, k2 ≤ m → ess[m]? = (tv b)[m]?) (gx_rng1 bt.range go_int) ?_ ?_ ?_ rfl)
    · exact ⟨_, _, rfl, fun _ _ => rfl⟩
    · rintro k2 d _ hd ⟨ess, s4, rfl, he⟩
      obtain ⟨hk2, rfl⟩ := rng_get hd
      have hk6 : k2 < (tv b).length := hk2
      have e0 : (0 : Int) + (k2 : Int) = (k2 : Int) := Int.zero_add _
      rw [e0]
      have hds := he k2 (Nat.le_refl k2)
      rw [List.getElem?_eq_getElem hk6] at hds
      have hln := tv_len hb (List.getElem_mem hk6)
      generalize (tv b)[k2]'hk6 = ds at hds hln
      refine ⟨_, _, (gog_name 4 sc__law_right.nd), ?_⟩
      refine rn_cons (rs_appL (gol_ixTq 7 (go_var 4) hds rfl) go_str (ltZ (by omega)) (rn_nil ⟨_, _, rfl, fun m hm => ?_⟩) (Nat.le_of_ble_eq_true rfl))
      rw [List.getElem?_set_ne (by omega)]
      exact he m (by omega)
    rintro _ ⟨ess, s4, rfl, _⟩
    exact rn_nil ⟨_, _, _, rfl, True.intro⟩
  rintro _ ⟨s4, s6, s7, rfl, _⟩
  refine rn_cons (rs_for (fun k Γ' => ∃ (s8 : Sl), Γ' = [.dat (.tuple [.list (b.holds.map .str), .list (b.modes.map eM), .list (b.barred.map eL), .list (b.cmds.map eC), .list (b.alarms.map eA), .list (b.rows.map eR), eQ b.quiet]), .ob (llO dss), .any, .pr (bookP b), s4, .dat (dueD b), s6, s7, s8, .any, .any, .any] ∧ True) (goi_list (gx_ix (d := .list (b.modes.map eM)) (go_var 0) go_int (by exact rfl))) ?_ ?_ ?_ rfl)
  · exact ⟨_, rfl, True.intro⟩
  · rintro k d _ hd ⟨s8, rfl, _⟩
    rw [List.getElem?_map] at hd
    obtain ⟨m, hk, rfl⟩ := Option.map_eq_some_iff.mp hd
    have hm := List.mem_of_getElem? hk
    have hsh := shp_eM hb hm
    refine ⟨_, _, (gog_name 8 sc__law_right.nd), ?_⟩
    refine rn_cons (rs_if (k := false) (goT_is (gocT (gc_neD (x := eM m) (y := eM m) (.of hr) (gx_methE c_Book_mode_named hr (by decide) (go_var 3) rfl (goA_cons (gx_ix (d := .str m.n) (go_var 8) go_int (by exact rfl)) goA_nil) ⟨b, m, rfl, rfl, hb, hm⟩) (go_var 8) hsh.ok hsh.ok)) (by rw [eqv_refl hsh.1]; rfl)) (fun h => nomatch h) fun _ => rn_nil (rn_nil ⟨_, rfl, True.intro⟩))
  rintro _ ⟨s8, rfl, _⟩
  refine rn_cons (rs_for (fun k Γ' => ∃ (s9 : Sl), Γ' = [.dat (.tuple [.list (b.holds.map .str), .list (b.modes.map eM), .list (b.barred.map eL), .list (b.cmds.map eC), .list (b.alarms.map eA), .list (b.rows.map eR), eQ b.quiet]), .ob (llO dss), .any, .pr (bookP b), s4, .dat (dueD b), s6, s7, s8, s9, .any, .any] ∧ True) (goi_list (gx_ix (d := .list (b.cmds.map eC)) (go_var 0) go_int (by exact rfl))) ?_ ?_ ?_ rfl)
  · exact ⟨_, rfl, True.intro⟩
  · rintro k d _ hd ⟨s9, rfl, _⟩
    rw [List.getElem?_map] at hd
    obtain ⟨m, hk, rfl⟩ := Option.map_eq_some_iff.mp hd
    have hm := List.mem_of_getElem? hk
    have hsh := shp_eC hb hm
    refine ⟨_, _, (gog_name 9 sc__law_right.nd), ?_⟩
    refine rn_cons (rs_if (k := false) (goT_is (gocT (gc_neD (x := eC m) (y := eC m) (.of hr) (gx_methE c_Book_command_named hr (by decide) (go_var 3) rfl (goA_cons (gx_ix (d := .str m.n) (go_var 9) go_int (by exact rfl)) goA_nil) ⟨b, m, rfl, rfl, hb, hm⟩) (go_var 9) hsh.ok hsh.ok)) (by rw [eqv_refl hsh.1]; rfl)) (fun h => nomatch h) fun _ => rn_nil (rn_nil ⟨_, rfl, True.intro⟩))
  rintro _ ⟨s9, rfl, _⟩
  refine rn_cons (rs_for (fun k Γ' => ∃ (s10 : Sl), Γ' = [.dat (.tuple [.list (b.holds.map .str), .list (b.modes.map eM), .list (b.barred.map eL), .list (b.cmds.map eC), .list (b.alarms.map eA), .list (b.rows.map eR), eQ b.quiet]), .ob (llO dss), .any, .pr (bookP b), s4, .dat (dueD b), s6, s7, s8, s9, s10, .any] ∧ True) (goi_list (gx_ix (d := .list (b.alarms.map eA)) (go_var 0) go_int (by exact rfl))) ?_ ?_ ?_ rfl)
  · exact ⟨_, rfl, True.intro⟩
  · rintro k d _ hd ⟨s10, rfl, _⟩
    rw [List.getElem?_map] at hd
    obtain ⟨m, hk, rfl⟩ := Option.map_eq_some_iff.mp hd
    have hm := List.mem_of_getElem? hk
    have hsh := shp_eA hb hm
    refine ⟨_, _, (gog_name 10 sc__law_right.nd), ?_⟩
    refine rn_cons (rs_if (k := false) (goT_is (gocT (gc_neD (x := eA m) (y := eA m) (.of hr) (gx_methE c_Book_alarm_named hr (by decide) (go_var 3) rfl (goA_cons (gx_ix (d := .str m.n) (go_var 10) go_int (by exact rfl)) goA_nil) ⟨b, m, rfl, rfl, hb, hm⟩) (go_var 10) hsh.ok hsh.ok)) (by rw [eqv_refl hsh.1]; rfl)) (fun h => nomatch h) fun _ => rn_nil (rn_nil ⟨_, rfl, True.intro⟩))
  rintro _ ⟨s10, rfl, _⟩
  refine rn_cons (rs_for (fun k Γ' => ∃ (s11 : Sl), Γ' = [.dat (.tuple [.list (b.holds.map .str), .list (b.modes.map eM), .list (b.barred.map eL), .list (b.cmds.map eC), .list (b.alarms.map eA), .list (b.rows.map eR), eQ b.quiet]), .ob (llO dss), .any, .pr (bookP b), s4, .dat (dueD b), s6, s7, s8, s9, s10, s11] ∧ True) (goi_list (gx_ix (d := .list (b.rows.map eR)) (go_var 0) go_int (by exact rfl))) ?_ ?_ ?_ rfl)
  · exact ⟨_, rfl, True.intro⟩
  · rintro k d _ hd ⟨s11, rfl, _⟩
    rw [List.getElem?_map] at hd
    obtain ⟨m, hk, rfl⟩ := Option.map_eq_some_iff.mp hd
    have hm := List.mem_of_getElem? hk
    have hsh := shp_eR hb hm
    refine ⟨_, _, (gog_name 11 sc__law_right.nd), ?_⟩
    refine rn_cons (rs_if (k := false) (goT_is (gocT (gc_neD (x := eR m) (y := eR m) (.of hr) (gx_methE c_Book_row_named hr (by decide) (go_var 3) rfl (goA_cons (gx_ix (d := .str m.n) (go_var 11) go_int (by exact rfl)) goA_nil) ⟨b, m, rfl, rfl, hb, hm⟩) (go_var 11) hsh.ok hsh.ok)) (by rw [eqv_refl hsh.1]; rfl)) (fun h => nomatch h) fun _ => rn_nil (rn_nil ⟨_, rfl, True.intro⟩))
  rintro _ ⟨s11, rfl, _⟩
  have hix : atI (b.modes.map eM) 0 = some (eM m0) := by
    rw [hm0]
    exact atI_head
  refine rn_cons (rs_ret (go_is (go_andV (goc (gc_eqS (gx_prop c_Book_safe hr (by decide) (go_var 3) ⟨b, m0, mr, rfl, rfl, hm0⟩) (gx_ix (d := .str m0.n) (gx_ix (d := eM m0) (gx_ix (d := .list (b.modes.map eM)) (go_var 0) go_int (by exact rfl)) go_int (by exact hix)) go_int (by exact rfl)))) fun hk => go_one (gx_call c__law_unknown hr (by decide) (goA_cons (go_var 3) goA_nil) ⟨b, rfl, rfl, hd⟩)) (by rw [decide_eq_true rfl]; rfl)))
theorem ok_law {f : Addr} {fd : FuncData} (F : Fun K "law" "law" s_law f fd) (c__law_numbers : Cal P w K mg base "_law_numbers" ["_law_script", "_law_many"] 2 S__law_numbers) (c__law_parts : Cal P w K mg base "_law_parts" ["_law_numbers_here", "_law_at"] 3 S__law_parts) (c__law_right : Cal P w K mg base "_law_right" ["_law_parts_here"] 8 S__law_right)  (x_LETTERS : GlobD K mg "LETTERS" (.str letS)) (T_InvalidBook : Ec0 K mg "InvalidBook") (x_MODE : GlobD K mg "MODE" (.str "mode")) (x_COMMAND : GlobD K mg "COMMAND" (.str "command")) (x_ALARM : GlobD K mg "ALARM" (.str "alarm")) (x_ROW : GlobD K mg "ROW" (.str "row")) (O_Book : ClsOk K "Book" ["_holds", "_barred", "_parts", "_quiet"]) (T_Unk : Xt_UnknownName P K mg) (bt : Bt mg) : FnOk P w K mg base CX0 9 f fd ["_law_script"] (spLaw K) := by
  refine def_ok F sc_law (fun _ => rfl) fun ns hns cdv A outer s H E hr J hJ => ?_
  refine rn_cons (rs_set 1 (gx_call c__law_numbers hr (by decide) (goA_cons (go_var 0) (goA_cons go_int goA_nil))) ?_ sc_law.nd)
  refine rn_ex 1 rfl fun zs hz => ?_
  have hz : IntsD Small 80 zs := hz
  refine rn_cons (rs_set 2 (go_is (go_lst (god_cons go_str (god_cons go_str (god_cons go_str (god_cons go_str (god_cons go_str (god_cons go_str god_nil))))))) (show _ = PyData.list (bBig.holds.map .str) from rfl)) ?_ sc_law.nd)
  refine rn_cons (rs_set 3 (go_is (go_lst (god_cons (go_tup (god_cons go_str (god_cons go_str god_nil))) (god_cons (go_tup (god_cons go_str (god_cons go_str god_nil))) (god_cons (go_tup (god_cons go_str (god_cons go_str god_nil))) (god_cons (go_tup (god_cons go_str (god_cons go_str god_nil))) (god_cons (go_tup (god_cons go_str (god_cons go_str god_nil))) (god_cons (go_tup (god_cons go_str (god_cons go_str (god_cons go_str god_nil)))) (god_cons (go_tup (god_cons go_str (god_cons go_str god_nil))) (god_cons (go_tup (god_cons go_str (god_cons go_str (god_cons go_str (god_cons go_str (god_cons go_str (god_cons go_str god_nil))))))) god_nil))))))))) (show _ = PyData.list (bBig.barred.map eL) from rfl)) ?_ sc_law.nd)
  refine rn_to (Γ' := [_, _, _, _, _, _, _, _, _]) rfl ?_
  refine rn_cons (rs_lcM 4 (xs := List.range 5) (enc := fun k => .int ((k : Nat) : Int)) (f := fun k => nthD (bBig.modes.map eM) k) (own := [("_law_k", 5)]) rfl sc_law.nd (goi_is (gx_rng1 bt.range go_int) (rngNat 5)) (fun t x hx => by
    have hx4 : x < 5 := List.mem_range.mp (List.mem_of_getElem? hx)
    exact ⟨_, _, fun s H C cl fp => (gog_name 5 sc_law.nd), fun s H C cl fp => (go_is (go_tup (god_cons (go_addS go_str (go_strI (go_var 5) (by exact sI_log ⟨by omega, by omega⟩) bt.str) (by exact sI_len rfl ⟨by omega, by omega⟩)) (god_cons (go_tup (god_cons go_str god_nil)) (god_cons (go_tup (god_cons go_str (god_cons go_str god_nil))) god_nil)))) (by exact modes_at hx4)), by simp⟩) (by first | (show blkC ["_law_script", "_law_numbers_here", "_law_holds", "_law_barred", "_law_modes", "_law_k", "_law_commands", "_law_alarms", "_law_rows"] (defScope s_law) _ _ = true; decide +kernel) | (show blkC ["_law_script", "_law_numbers_here", "_law_holds", "_law_barred", "_law_modes", "_law_k", "_law_commands", "_law_alarms", "_law_rows"] (relS _ (defScope s_law)) _ _ = true; decide +kernel) | (show blkC ["_law_script", "_law_numbers_here", "_law_holds", "_law_barred", "_law_modes", "_law_k", "_law_commands", "_law_alarms", "_law_rows"] (relS _ (relS _ (defScope s_law))) _ _ = true; decide +kernel)) (sw_true rfl rfl rfl (by decide +kernel)) ?_)
  refine rn_is 4 rfl (s' := .dat (.list (bBig.modes.map eM))) rfl ?_
  refine rn_cons (rs_lcM 6 (xs := List.range 8) (enc := fun k => .int ((k : Nat) : Int)) (f := fun k => nthD (bBig.cmds.map eC) k) (own := [("_law_k", 5)]) rfl sc_law.nd (goi_is (gx_rng1 bt.range go_int) (rngNat 8)) (fun t x hx => by
    have hx4 : x < 8 := List.mem_range.mp (List.mem_of_getElem? hx)
    exact ⟨_, _, fun s H C cl fp => (gog_name 5 sc_law.nd), fun s H C cl fp => (go_is (go_tup (god_cons (go_addS go_str (go_strI (gx_bin (d := .int (7 - (x : Int))) go_int (go_var 5) (by exact ⟨rfl, True.intro⟩)) (by exact sI_log ⟨by omega, by omega⟩) bt.str) (by exact sI_len rfl ⟨by omega, by omega⟩)) (god_cons (go_tup (god_cons go_str (god_cons go_str god_nil))) (god_cons (go_tup god_nil) (god_cons (go_tup (god_cons go_str god_nil)) (god_cons go_str god_nil)))))) (by exact cmds_at hx4)), by simp⟩) (by first | (show blkC ["_law_script", "_law_numbers_here", "_law_holds", "_law_barred", "_law_modes", "_law_k", "_law_commands", "_law_alarms", "_law_rows"] (defScope s_law) _ _ = true; decide +kernel) | (show blkC ["_law_script", "_law_numbers_here", "_law_holds", "_law_barred", "_law_modes", "_law_k", "_law_commands", "_law_alarms", "_law_rows"] (relS _ (defScope s_law)) _ _ = true; decide +kernel) | (show blkC ["_law_script", "_law_numbers_here", "_law_holds", "_law_barred", "_law_modes", "_law_k", "_law_commands", "_law_alarms", "_law_rows"] (relS _ (relS _ (defScope s_law))) _ _ = true; decide +kernel)) (sw_true rfl rfl rfl (by decide +kernel)) ?_)
  refine rn_is 6 rfl (s' := .dat (.list (bBig.cmds.map eC))) rfl ?_
  refine rn_cons (rs_lcM 7 (xs := List.range 4) (enc := fun k => .int ((k : Nat) : Int)) (f := fun k => nthD (bBig.alarms.map eA) k) (own := [("_law_k", 5)]) rfl sc_law.nd (goi_is (gx_rng1 bt.range go_int) (rngNat 4)) (fun t x hx => by
    have hx4 : x < 4 := List.mem_range.mp (List.mem_of_getElem? hx)
    exact ⟨_, _, fun s H C cl fp => (gog_name 5 sc_law.nd), fun s H C cl fp => (go_is (go_tup (god_cons (go_addS go_str (go_strI (go_var 5) (by exact sI_log ⟨by omega, by omega⟩) bt.str) (by exact sI_len rfl ⟨by omega, by omega⟩)) (god_cons (go_tup (god_cons go_str (god_cons go_str (god_cons go_str (god_cons go_str (god_cons go_str (god_cons go_str god_nil))))))) (god_cons (go_tup god_nil) (god_cons go_non god_nil))))) (by exact alarms_at hx4)), by simp⟩) (by first | (show blkC ["_law_script", "_law_numbers_here", "_law_holds", "_law_barred", "_law_modes", "_law_k", "_law_commands", "_law_alarms", "_law_rows"] (defScope s_law) _ _ = true; decide +kernel) | (show blkC ["_law_script", "_law_numbers_here", "_law_holds", "_law_barred", "_law_modes", "_law_k", "_law_commands", "_law_alarms", "_law_rows"] (relS _ (defScope s_law)) _ _ = true; decide +kernel) | (show blkC ["_law_script", "_law_numbers_here", "_law_holds", "_law_barred", "_law_modes", "_law_k", "_law_commands", "_law_alarms", "_law_rows"] (relS _ (relS _ (defScope s_law))) _ _ = true; decide +kernel)) (sw_true rfl rfl rfl (by decide +kernel)) ?_)
  refine rn_is 7 rfl (s' := .dat (.list (bBig.alarms.map eA))) rfl ?_
  refine rn_cons (rs_lcM 8 (xs := List.range 3) (enc := fun k => .int ((k : Nat) : Int)) (f := fun k => nthD (bBig.rows.map eR) k) (own := [("_law_k", 5)]) rfl sc_law.nd (goi_is (gx_rng1 bt.range go_int) (rngNat 3)) (fun t x hx => by
    have hx4 : x < 3 := List.mem_range.mp (List.mem_of_getElem? hx)
    exact ⟨_, _, fun s H C cl fp => (gog_name 5 sc_law.nd), fun s H C cl fp => (go_is (go_tup (god_cons (go_addS go_str (go_strI (go_var 5) (by exact sI_log ⟨by omega, by omega⟩) bt.str) (by exact sI_len rfl ⟨by omega, by omega⟩)) (god_cons (go_tup (god_cons (go_tup (god_cons go_int (god_cons go_str god_nil))) (god_cons (go_tup (god_cons go_int (god_cons go_str god_nil))) (god_cons (go_tup (god_cons go_int (god_cons go_str god_nil))) (god_cons (go_tup (god_cons go_int (god_cons go_str god_nil))) god_nil))))) god_nil))) (by exact rows_at hx4)), by simp⟩) (by first | (show blkC ["_law_script", "_law_numbers_here", "_law_holds", "_law_barred", "_law_modes", "_law_k", "_law_commands", "_law_alarms", "_law_rows"] (defScope s_law) _ _ = true; decide +kernel) | (show blkC ["_law_script", "_law_numbers_here", "_law_holds", "_law_barred", "_law_modes", "_law_k", "_law_commands", "_law_alarms", "_law_rows"] (relS _ (defScope s_law)) _ _ = true; decide +kernel) | (show blkC ["_law_script", "_law_numbers_here", "_law_holds", "_law_barred", "_law_modes", "_law_k", "_law_commands", "_law_alarms", "_law_rows"] (relS _ (relS _ (defScope s_law))) _ _ = true; decide +kernel)) (sw_true rfl rfl rfl (by decide +kernel)) ?_)
  refine rn_is 8 rfl (s' := .dat (.list (bBig.rows.map eR))) rfl ?_
  refine rn_to (Γ' := [_, _, _, _, _, _, _, _, _]) rfl ?_
  refine rn_cons (rs_if (k := false) (goW_T (goW_or (goT_not (gx_t (x := .bool true) (gx_call c__law_right hr (by decide) (goA_cons (go_ex bBig big_ok (go_is (d' := pD bBig) (go_tup (god_cons (go_var 2) (god_cons (go_var 4) (god_cons (go_var 3) (god_cons (go_var 6) (god_cons (go_var 7) (god_cons (go_var 8) (god_cons go_int god_nil)))))))) rfl)) goA_nil) ⟨rfl, rfl⟩) (by exact ⟨fun _ h => (nomatch h), fun _ h => (nomatch h)⟩))) fun _ => goW_or1 (goT_not (gx_t (x := .bool true) (gx_call c__law_right hr (by decide) (goA_cons (go_ex bMin min_ok (go_is (d' := pD bMin) (go_tup (god_cons (go_lst (god_cons go_str god_nil)) (god_cons (go_lst (god_cons (go_tup (god_cons go_str (god_cons (go_tup god_nil) (god_cons (go_tup god_nil) god_nil)))) god_nil)) (god_cons (go_lst god_nil) (god_cons (go_lst god_nil) (god_cons (go_lst god_nil) (god_cons (go_lst god_nil) (god_cons go_non god_nil)))))))) rfl)) goA_nil) ⟨rfl, rfl⟩) (by exact ⟨fun _ h => (nomatch h), fun _ h => (nomatch h)⟩))))) (fun h => nomatch h) fun _ => rn_nil ?_)
  refine rn_cons (rs_ret (gx_call c__law_right hr (by decide) (goA_cons (gx_call c__law_parts hr (by decide) (goA_cons (go_var 1) (goA_cons go_int goA_nil)) ⟨80, zs, 0, rfl, rfl, hz, by decide, by decide⟩) goA_nil) ⟨rfl, rfl⟩))
end

/-! ### what the top has written -/
theorem exm_self {K : PySem.W.Frag} {S : Addr} (h1 : PySem.W.subIn K (.ref S) (.type "BaseException") = some true) (h2 : PySem.W.isClsIn K S = true) (h3 : PySem.W.typeIn K (.ref S) = some (.type "type")) (h4 : PySem.W.subIn K (.ref S) (.ref S) = some true) :
    PySem.W.exmOne K (.ref S) (.ref S) = some true := by
  have e1 : (PySem.W.subIn K (.ref S) (.type "BaseException") == some true) = true := by rw [h1] <;> rfl
  have e2 : ((PySem.W.clsIn K S).isSome && PySem.W.typeIn K (.ref S) == some (.type "type")) = true := by
    have h2' : (PySem.W.clsIn K S).isSome = true := h2
    rw [h2', h3] <;> rfl
  show (if (PySem.W.subIn K (.ref S) (.type "BaseException") == some true) = true then (if ((PySem.W.clsIn K S).isSome && PySem.W.typeIn K (.ref S) == some (.type "type")) = true then PySem.W.subIn K (.ref S) (.ref S) else none) else none) = some true
  rw [if_pos e1, if_pos e2]
  exact h4
section
theorem all_mk {l : PySem.W.OpenLaw} {w : World} {K : PySem.W.Frag} {h : Heap} {mg : Str → Option Value} {fa f0 f1 f2 f3 f4 f5 f6 f7 f8 f9 f10 f11 f12 f13 f14 f15 f16 f17 f18 f19 f20 f21 f22 f23 f24 f25 f26 f27 f28 f29 f30 f31 f32 f33 C_Book C_UnknownName pr13 pr14 pr15 pr16 pr17 pr18 pr19 pr20 C_InvalidBook : Addr} (X : K.In h) (G : h.Ns mainGlobals mg) (hfa : mg "law" = some (.ref fa))
    {od0 an0 : Option Addr} {sl0 : Array (Option Value)} {oc0 kV0 dc0 pm0 cd0 ct0 : Value}
    {od1 an1 : Option Addr} {sl1 : Array (Option Value)} {oc1 kV1 dc1 pm1 cd1 ct1 : Value}
    {od2 an2 : Option Addr} {sl2 : Array (Option Value)} {oc2 kV2 dc2 pm2 cd2 ct2 : Value}
    {od3 an3 : Option Addr} {sl3 : Array (Option Value)} {oc3 kV3 dc3 pm3 cd3 ct3 : Value}
    {od4 an4 : Option Addr} {sl4 : Array (Option Value)} {oc4 kV4 dc4 pm4 cd4 ct4 : Value}
    {od5 an5 : Option Addr} {sl5 : Array (Option Value)} {oc5 kV5 dc5 pm5 cd5 ct5 : Value}
    {od6 an6 : Option Addr} {sl6 : Array (Option Value)} {oc6 kV6 dc6 pm6 cd6 ct6 : Value}
    {od7 an7 : Option Addr} {sl7 : Array (Option Value)} {oc7 kV7 dc7 pm7 cd7 ct7 : Value}
    {od8 an8 : Option Addr} {sl8 : Array (Option Value)} {oc8 kV8 dc8 pm8 cd8 ct8 : Value}
    {od9 an9 : Option Addr} {sl9 : Array (Option Value)} {oc9 kV9 dc9 pm9 cd9 ct9 : Value}
    {od10 an10 : Option Addr} {sl10 : Array (Option Value)} {oc10 kV10 dc10 pm10 cd10 ct10 : Value}
    {od11 an11 : Option Addr} {sl11 : Array (Option Value)} {oc11 kV11 dc11 pm11 cd11 ct11 : Value}
    {od12 an12 : Option Addr} {sl12 : Array (Option Value)} {oc12 kV12 dc12 pm12 cd12 ct12 : Value}
    {od13 an13 : Option Addr} {sl13 : Array (Option Value)} {oc13 kV13 dc13 pm13 cd13 ct13 : Value}
    {rest13 : List Value}
    {od14 an14 : Option Addr} {sl14 : Array (Option Value)} {oc14 kV14 dc14 pm14 cd14 ct14 : Value}
    {rest14 : List Value}
    {od15 an15 : Option Addr} {sl15 : Array (Option Value)} {oc15 kV15 dc15 pm15 cd15 ct15 : Value}
    {rest15 : List Value}
    {od16 an16 : Option Addr} {sl16 : Array (Option Value)} {oc16 kV16 dc16 pm16 cd16 ct16 : Value}
    {rest16 : List Value}
    {od17 an17 : Option Addr} {sl17 : Array (Option Value)} {oc17 kV17 dc17 pm17 cd17 ct17 : Value}
    {rest17 : List Value}
    {od18 an18 : Option Addr} {sl18 : Array (Option Value)} {oc18 kV18 dc18 pm18 cd18 ct18 : Value}
    {rest18 : List Value}
    {od19 an19 : Option Addr} {sl19 : Array (Option Value)} {oc19 kV19 dc19 pm19 cd19 ct19 : Value}
    {rest19 : List Value}
    {od20 an20 : Option Addr} {sl20 : Array (Option Value)} {oc20 kV20 dc20 pm20 cd20 ct20 : Value}
    {rest20 : List Value}
    {od21 an21 : Option Addr} {sl21 : Array (Option Value)} {oc21 kV21 dc21 pm21 cd21 ct21 : Value}
    {od22 an22 : Option Addr} {sl22 : Array (Option Value)} {oc22 kV22 dc22 pm22 cd22 ct22 : Value}
    {od23 an23 : Option Addr} {sl23 : Array (Option Value)} {oc23 kV23 dc23 pm23 cd23 ct23 : Value}
    {od24 an24 : Option Addr} {sl24 : Array (Option Value)} {oc24 kV24 dc24 pm24 cd24 ct24 : Value}
    {od25 an25 : Option Addr} {sl25 : Array (Option Value)} {oc25 kV25 dc25 pm25 cd25 ct25 : Value}
    {od26 an26 : Option Addr} {sl26 : Array (Option Value)} {oc26 kV26 dc26 pm26 cd26 ct26 : Value}
    {od27 an27 : Option Addr} {sl27 : Array (Option Value)} {oc27 kV27 dc27 pm27 cd27 ct27 : Value}
    {od28 an28 : Option Addr} {sl28 : Array (Option Value)} {oc28 kV28 dc28 pm28 cd28 ct28 : Value}
    {od29 an29 : Option Addr} {sl29 : Array (Option Value)} {oc29 kV29 dc29 pm29 cd29 ct29 : Value}
    {od30 an30 : Option Addr} {sl30 : Array (Option Value)} {oc30 kV30 dc30 pm30 cd30 ct30 : Value}
    {od31 an31 : Option Addr} {sl31 : Array (Option Value)} {oc31 kV31 dc31 pm31 cd31 ct31 : Value}
    {od32 an32 : Option Addr} {sl32 : Array (Option Value)} {oc32 kV32 dc32 pm32 cd32 ct32 : Value}
    {od33 an33 : Option Addr} {sl33 : Array (Option Value)} {oc33 kV33 dc33 pm33 cd33 ct33 : Value}
    {nm_UnknownName q_UnknownName : Str} {N_UnknownName F0_UnknownName f_UnknownName cda_UnknownName cc_UnknownName : Addr} {bs_UnknownName : List Value} {sn_UnknownName : List Str} {sub_UnknownName : List Value} {ab_UnknownName : Bool} {col_UnknownName : Option Bool} {dd_UnknownName od_UnknownName an_UnknownName cdd_UnknownName cld_UnknownName : Option Addr} {m0_UnknownName m1_UnknownName m2_UnknownName m3_UnknownName m5_UnknownName : Option Value} {sl_UnknownName ccs_UnknownName csl_UnknownName : Array (Option Value)} {oc_UnknownName dc_UnknownName pm_UnknownName ct_UnknownName ccl_UnknownName cl_UnknownName : Value} {msg_UnknownName file_UnknownName : Str} {jj_UnknownName : Nat} {p1_UnknownName p2_UnknownName : Pos} {vs_UnknownName : Array Value} {tf_UnknownName : Tok}
    {tg_LETTERS : Tok}
    {tg_MODE : Tok}
    {tg_COMMAND : Tok}
    {tg_ALARM : Tok}
    {tg_ROW : Tok}
    (aC_Book : PySem.W.nsIn K mainGlobals "Book" = some (some (.ref C_Book)))
    (pg_Book : PySem.W.plainGet K C_Book Str.empty = true)
    (hd_Book : PySem.W.hasDictIn K C_Book = true)
    (po_Book : PySem.W.plainOver K C_Book = true)
    (sa_Book : PySem.W.findIn K (.ref C_Book) "__setattr__" = some (some (.builtin "object.__setattr__")))
    (mk_Book : PySem.W.makesIn K C_Book = true)
    (kp_Book : PySem.W.keepIn K (.ref C_Book) = true)
    (na_Book__holds : PySem.W.findIn K (.ref C_Book) "_holds" = some none)
    (na_Book__barred : PySem.W.findIn K (.ref C_Book) "_barred" = some none)
    (na_Book__parts : PySem.W.findIn K (.ref C_Book) "_parts" = some none)
    (na_Book__quiet : PySem.W.findIn K (.ref C_Book) "_quiet" = some none)
    (aC_UnknownName : PySem.W.nsIn K mainGlobals "UnknownName" = some (some (.ref C_UnknownName)))
    (xL_UnknownName : K.lookup C_UnknownName = some (excClassObj nm_UnknownName q_UnknownName C_UnknownName N_UnknownName bs_UnknownName [.ref F0_UnknownName, .type "ValueError", .type "Exception", .type "BaseException", .type "object"] true sn_UnknownName sub_UnknownName ab_UnknownName col_UnknownName dd_UnknownName m0_UnknownName m1_UnknownName m2_UnknownName m3_UnknownName m5_UnknownName "ValueError.__new__"))
    (sa_UnknownName : PySem.W.findIn K (.ref C_UnknownName) "__setattr__" = some (some (.builtin "object.__setattr__")))
    (ga_UnknownName : PySem.W.findIn K (.ref C_UnknownName) "__getattribute__" = some (some (.builtin "BaseException.__getattribute__")))
    (gg_UnknownName : PySem.W.findIn K (.ref C_UnknownName) "__getattr__" = some none)
    (nb_UnknownName : PySem.W.findIn K (.ref C_UnknownName) "name" = some none)
    (ai_UnknownName : PySem.W.findIn K (.ref C_UnknownName) "__init__" = some (some (.ref f_UnknownName)))
    (ti_UnknownName : PySem.W.typeIn K (.ref f_UnknownName) = some (.type "function"))
    (li_UnknownName : K.lookup f_UnknownName = some ⟨oc_UnknownName, od_UnknownName, .func (PySem.W.ksFn "__init__" "UnknownName.__init__" (PySem.SupX.iA p1_UnknownName p2_UnknownName) (PySem.SupX.iB msg_UnknownName jj_UnknownName) PySem.SupX.iS .none .none dc_UnknownName pm_UnknownName an_UnknownName (.ref cda_UnknownName) ct_UnknownName cc_UnknownName), sl_UnknownName⟩)
    (ci_UnknownName : PySem.W.codeIn K (.ref cda_UnknownName) "UnknownName.__init__" = true)
    (ld_UnknownName : K.lookup cda_UnknownName = some ⟨ccl_UnknownName, cdd_UnknownName, .fields vs_UnknownName, ccs_UnknownName⟩)
    (lv_UnknownName : vs_UnknownName[2]? = some (.str file_UnknownName tf_UnknownName))
    (lf_UnknownName : ((l.prog.main.file : Str) == file_UnknownName) = true)
    (lc_UnknownName : K.lookup cc_UnknownName = some ⟨cl_UnknownName, cld_UnknownName, .cell (some (.ref C_UnknownName)), csl_UnknownName⟩)
    (kC_UnknownName : PySem.W.keepIn K (.ref C_UnknownName) = true)
    (eC_UnknownName : PySem.W.subIn K (.ref C_UnknownName) (.type "BaseException") = some true)
    (vC_UnknownName : PySem.W.subIn K (.ref C_UnknownName) (.type "ValueError") = some true)
    (tC_UnknownName : PySem.W.typeIn K (.ref C_UnknownName) = some (.type "type"))
    (hC_UnknownName : PySem.W.hasDictIn K C_UnknownName = true)
    (iC_UnknownName : PySem.W.isClsIn K C_UnknownName = true)
    (sC_UnknownName : PySem.W.subIn K (.ref C_UnknownName) (.ref C_UnknownName) = some true)
    (su_UnknownName : PySem.W.ks_superIn K C_UnknownName C_UnknownName "__init__" = some (some (.builtin "ValueError.__init__")))
    (ei_UnknownName : PySem.W.excInitIn K C_UnknownName [.type "ValueError", .type "Exception", .type "BaseException", .type "object"] "ValueError.__new__" = true)
    (mr_UnknownName : PySem.W.mroIn K C_UnknownName (.ref C_UnknownName) = some true)
    (op_UnknownName : PySem.W.nsIn K cStatics "thirdparty.any" = some none)
    (gS_UnknownName : PySem.W.nsIn K mainGlobals "super" = some none)
    (tp_UnknownName : (l.prog.main.scope.names.lookup ("super" : Str)).isSome = false)
    (aC_InvalidBook : PySem.W.nsIn K mainGlobals "InvalidBook" = some (some (.ref C_InvalidBook)))
    (kC_InvalidBook : PySem.W.keepIn K (.ref C_InvalidBook) = true)
    (eC_InvalidBook : PySem.W.subIn K (.ref C_InvalidBook) (.type "BaseException") = some true)
    (tC_InvalidBook : PySem.W.typeIn K (.ref C_InvalidBook) = some (.type "type"))
    (xC_InvalidBook : PySem.W.excIn K C_InvalidBook [.type "ValueError", .type "Exception", .type "BaseException", .type "object"] "ValueError.__new__" = true)
    (iC_InvalidBook : PySem.W.isClsIn K C_InvalidBook = true)
    (sC_InvalidBook : PySem.W.subIn K (.ref C_InvalidBook) (.ref C_InvalidBook) = some true)
    (yg_LETTERS : PySem.W.nsIn K mainGlobals "LETTERS" = some (some (.str (letS) tg_LETTERS)))
    (yg_MODE : PySem.W.nsIn K mainGlobals "MODE" = some (some (.str ("mode") tg_MODE)))
    (yg_COMMAND : PySem.W.nsIn K mainGlobals "COMMAND" = some (some (.str ("command") tg_COMMAND)))
    (yg_ALARM : PySem.W.nsIn K mainGlobals "ALARM" = some (some (.str ("alarm") tg_ALARM)))
    (yg_ROW : PySem.W.nsIn K mainGlobals "ROW" = some (some (.str ("row") tg_ROW)))
    (a0 : PySem.W.nsIn K mainGlobals "law" = some (some (.ref f0)))
    (l0 : K.lookup f0 = some ⟨oc0, od0, .func (PySem.W.fnOf "law" "law" (defArgs s_law) (defBody s_law) (defScope s_law) .none kV0 dc0 pm0 an0 cd0 ct0), sl0⟩)
    (c0 : PySem.W.codeIn K cd0 "law" = true)
    (k0 : PySem.W.keepIn K (.ref f0) = true)
    (a1 : PySem.W.nsIn K mainGlobals "_law_row" = some (some (.ref f1)))
    (l1 : K.lookup f1 = some ⟨oc1, od1, .func (PySem.W.fnOf "_law_row" "_law_row" (defArgs s__law_row) (defBody s__law_row) (defScope s__law_row) .none kV1 dc1 pm1 an1 cd1 ct1), sl1⟩)
    (c1 : PySem.W.codeIn K cd1 "_law_row" = true)
    (k1 : PySem.W.keepIn K (.ref f1) = true)
    (a2 : PySem.W.nsIn K mainGlobals "_law_numbers" = some (some (.ref f2)))
    (l2 : K.lookup f2 = some ⟨oc2, od2, .func (PySem.W.fnOf "_law_numbers" "_law_numbers" (defArgs s__law_numbers) (defBody s__law_numbers) (defScope s__law_numbers) .none kV2 dc2 pm2 an2 cd2 ct2), sl2⟩)
    (c2 : PySem.W.codeIn K cd2 "_law_numbers" = true)
    (k2 : PySem.W.keepIn K (.ref f2) = true)
    (a3 : PySem.W.nsIn K mainGlobals "is_name" = some (some (.ref f3)))
    (l3 : K.lookup f3 = some ⟨oc3, od3, .func (PySem.W.fnOf "is_name" "is_name" (defArgs s_is_name) (defBody s_is_name) (defScope s_is_name) .none kV3 dc3 pm3 an3 cd3 ct3), sl3⟩)
    (c3 : PySem.W.codeIn K cd3 "is_name" = true)
    (k3 : PySem.W.keepIn K (.ref f3) = true)
    (a4 : PySem.W.nsIn K mainGlobals "is_lot" = some (some (.ref f4)))
    (l4 : K.lookup f4 = some ⟨oc4, od4, .func (PySem.W.fnOf "is_lot" "is_lot" (defArgs s_is_lot) (defBody s_is_lot) (defScope s_is_lot) .none kV4 dc4 pm4 an4 cd4 ct4), sl4⟩)
    (c4 : PySem.W.codeIn K cd4 "is_lot" = true)
    (k4 : PySem.W.keepIn K (.ref f4) = true)
    (a5 : PySem.W.nsIn K mainGlobals "is_lot_of" = some (some (.ref f5)))
    (l5 : K.lookup f5 = some ⟨oc5, od5, .func (PySem.W.fnOf "is_lot_of" "is_lot_of" (defArgs s_is_lot_of) (defBody s_is_lot_of) (defScope s_is_lot_of) .none kV5 dc5 pm5 an5 cd5 ct5), sl5⟩)
    (c5 : PySem.W.codeIn K cd5 "is_lot_of" = true)
    (k5 : PySem.W.keepIn K (.ref f5) = true)
    (a6 : PySem.W.nsIn K mainGlobals "are_turned" = some (some (.ref f6)))
    (l6 : K.lookup f6 = some ⟨oc6, od6, .func (PySem.W.fnOf "are_turned" "are_turned" (defArgs s_are_turned) (defBody s_are_turned) (defScope s_are_turned) .none kV6 dc6 pm6 an6 cd6 ct6), sl6⟩)
    (c6 : PySem.W.codeIn K cd6 "are_turned" = true)
    (k6 : PySem.W.keepIn K (.ref f6) = true)
    (a7 : PySem.W.nsIn K mainGlobals "require" = some (some (.ref f7)))
    (l7 : K.lookup f7 = some ⟨oc7, od7, .func (PySem.W.fnOf "require" "require" (defArgs s_require) (defBody s_require) (defScope s_require) .none kV7 dc7 pm7 an7 cd7 ct7), sl7⟩)
    (c7 : PySem.W.codeIn K cd7 "require" = true)
    (k7 : PySem.W.keepIn K (.ref f7) = true)
    (a8 : PySem.W.nsIn K mainGlobals "require_names" = some (some (.ref f8)))
    (l8 : K.lookup f8 = some ⟨oc8, od8, .func (PySem.W.fnOf "require_names" "require_names" (defArgs s_require_names) (defBody s_require_names) (defScope s_require_names) .none kV8 dc8 pm8 an8 cd8 ct8), sl8⟩)
    (c8 : PySem.W.codeIn K cd8 "require_names" = true)
    (k8 : PySem.W.keepIn K (.ref f8) = true)
    (a9 : PySem.W.nsIn K mainGlobals "is_effect" = some (some (.ref f9)))
    (l9 : K.lookup f9 = some ⟨oc9, od9, .func (PySem.W.fnOf "is_effect" "is_effect" (defArgs s_is_effect) (defBody s_is_effect) (defScope s_is_effect) .none kV9 dc9 pm9 an9 cd9 ct9), sl9⟩)
    (c9 : PySem.W.codeIn K cd9 "is_effect" = true)
    (k9 : PySem.W.keepIn K (.ref f9) = true)
    (a10 : PySem.W.nsIn K mainGlobals "is_step" = some (some (.ref f10)))
    (l10 : K.lookup f10 = some ⟨oc10, od10, .func (PySem.W.fnOf "is_step" "is_step" (defArgs s_is_step) (defBody s_is_step) (defScope s_is_step) .none kV10 dc10 pm10 an10 cd10 ct10), sl10⟩)
    (c10 : PySem.W.codeIn K cd10 "is_step" = true)
    (k10 : PySem.W.keepIn K (.ref f10) = true)
    (a11 : PySem.W.nsIn K mainGlobals "names_of" = some (some (.ref f11)))
    (l11 : K.lookup f11 = some ⟨oc11, od11, .func (PySem.W.fnOf "names_of" "names_of" (defArgs s_names_of) (defBody s_names_of) (defScope s_names_of) .none kV11 dc11 pm11 an11 cd11 ct11), sl11⟩)
    (c11 : PySem.W.codeIn K cd11 "names_of" = true)
    (k11 : PySem.W.keepIn K (.ref f11) = true)
    (a12 : PySem.W.findIn K (.ref C_Book) "__init__" = some (some (.ref f12)))
    (l12 : K.lookup f12 = some ⟨oc12, od12, .func (PySem.W.fnOf "__init__" "Book.__init__" (defArgs s_Book___init__) (defBody s_Book___init__) (defScope s_Book___init__) .none kV12 dc12 pm12 an12 cd12 ct12), sl12⟩)
    (c12 : PySem.W.codeIn K cd12 "Book.__init__" = true)
    (k12 : PySem.W.keepIn K (.ref f12) = true)
    (j12 : PySem.W.isFn K (.ref f12) = true)
    (a13 : PySem.W.findIn K (.ref C_Book) "holds" = some (some (.ref pr13)))
    (g13 : PySem.W.specialIn K (.ref pr13) "__get__" = some (some (.builtin "property.__get__")))
    (tk13 : PySem.W.takesIn K (.ref pr13) = some true)
    (r13 : PySem.W.recIn K pr13 "property" = some (.ref f13 :: rest13))
    (l13 : K.lookup f13 = some ⟨oc13, od13, .func (PySem.W.fnOf "holds" "Book.holds" (defArgs s_Book_holds) (defBody s_Book_holds) (defScope s_Book_holds) .none kV13 dc13 pm13 an13 cd13 ct13), sl13⟩)
    (c13 : PySem.W.codeIn K cd13 "Book.holds" = true)
    (k13 : PySem.W.keepIn K (.ref f13) = true)
    (a14 : PySem.W.findIn K (.ref C_Book) "modes" = some (some (.ref pr14)))
    (g14 : PySem.W.specialIn K (.ref pr14) "__get__" = some (some (.builtin "property.__get__")))
    (tk14 : PySem.W.takesIn K (.ref pr14) = some true)
    (r14 : PySem.W.recIn K pr14 "property" = some (.ref f14 :: rest14))
    (l14 : K.lookup f14 = some ⟨oc14, od14, .func (PySem.W.fnOf "modes" "Book.modes" (defArgs s_Book_modes) (defBody s_Book_modes) (defScope s_Book_modes) .none kV14 dc14 pm14 an14 cd14 ct14), sl14⟩)
    (c14 : PySem.W.codeIn K cd14 "Book.modes" = true)
    (k14 : PySem.W.keepIn K (.ref f14) = true)
    (a15 : PySem.W.findIn K (.ref C_Book) "commands" = some (some (.ref pr15)))
    (g15 : PySem.W.specialIn K (.ref pr15) "__get__" = some (some (.builtin "property.__get__")))
    (tk15 : PySem.W.takesIn K (.ref pr15) = some true)
    (r15 : PySem.W.recIn K pr15 "property" = some (.ref f15 :: rest15))
    (l15 : K.lookup f15 = some ⟨oc15, od15, .func (PySem.W.fnOf "commands" "Book.commands" (defArgs s_Book_commands) (defBody s_Book_commands) (defScope s_Book_commands) .none kV15 dc15 pm15 an15 cd15 ct15), sl15⟩)
    (c15 : PySem.W.codeIn K cd15 "Book.commands" = true)
    (k15 : PySem.W.keepIn K (.ref f15) = true)
    (a16 : PySem.W.findIn K (.ref C_Book) "alarms" = some (some (.ref pr16)))
    (g16 : PySem.W.specialIn K (.ref pr16) "__get__" = some (some (.builtin "property.__get__")))
    (tk16 : PySem.W.takesIn K (.ref pr16) = some true)
    (r16 : PySem.W.recIn K pr16 "property" = some (.ref f16 :: rest16))
    (l16 : K.lookup f16 = some ⟨oc16, od16, .func (PySem.W.fnOf "alarms" "Book.alarms" (defArgs s_Book_alarms) (defBody s_Book_alarms) (defScope s_Book_alarms) .none kV16 dc16 pm16 an16 cd16 ct16), sl16⟩)
    (c16 : PySem.W.codeIn K cd16 "Book.alarms" = true)
    (k16 : PySem.W.keepIn K (.ref f16) = true)
    (a17 : PySem.W.findIn K (.ref C_Book) "rows" = some (some (.ref pr17)))
    (g17 : PySem.W.specialIn K (.ref pr17) "__get__" = some (some (.builtin "property.__get__")))
    (tk17 : PySem.W.takesIn K (.ref pr17) = some true)
    (r17 : PySem.W.recIn K pr17 "property" = some (.ref f17 :: rest17))
    (l17 : K.lookup f17 = some ⟨oc17, od17, .func (PySem.W.fnOf "rows" "Book.rows" (defArgs s_Book_rows) (defBody s_Book_rows) (defScope s_Book_rows) .none kV17 dc17 pm17 an17 cd17 ct17), sl17⟩)
    (c17 : PySem.W.codeIn K cd17 "Book.rows" = true)
    (k17 : PySem.W.keepIn K (.ref f17) = true)
    (a18 : PySem.W.findIn K (.ref C_Book) "quiet" = some (some (.ref pr18)))
    (g18 : PySem.W.specialIn K (.ref pr18) "__get__" = some (some (.builtin "property.__get__")))
    (tk18 : PySem.W.takesIn K (.ref pr18) = some true)
    (r18 : PySem.W.recIn K pr18 "property" = some (.ref f18 :: rest18))
    (l18 : K.lookup f18 = some ⟨oc18, od18, .func (PySem.W.fnOf "quiet" "Book.quiet" (defArgs s_Book_quiet) (defBody s_Book_quiet) (defScope s_Book_quiet) .none kV18 dc18 pm18 an18 cd18 ct18), sl18⟩)
    (c18 : PySem.W.codeIn K cd18 "Book.quiet" = true)
    (k18 : PySem.W.keepIn K (.ref f18) = true)
    (a19 : PySem.W.findIn K (.ref C_Book) "barred" = some (some (.ref pr19)))
    (g19 : PySem.W.specialIn K (.ref pr19) "__get__" = some (some (.builtin "property.__get__")))
    (tk19 : PySem.W.takesIn K (.ref pr19) = some true)
    (r19 : PySem.W.recIn K pr19 "property" = some (.ref f19 :: rest19))
    (l19 : K.lookup f19 = some ⟨oc19, od19, .func (PySem.W.fnOf "barred" "Book.barred" (defArgs s_Book_barred) (defBody s_Book_barred) (defScope s_Book_barred) .none kV19 dc19 pm19 an19 cd19 ct19), sl19⟩)
    (c19 : PySem.W.codeIn K cd19 "Book.barred" = true)
    (k19 : PySem.W.keepIn K (.ref f19) = true)
    (a20 : PySem.W.findIn K (.ref C_Book) "safe" = some (some (.ref pr20)))
    (g20 : PySem.W.specialIn K (.ref pr20) "__get__" = some (some (.builtin "property.__get__")))
    (tk20 : PySem.W.takesIn K (.ref pr20) = some true)
    (r20 : PySem.W.recIn K pr20 "property" = some (.ref f20 :: rest20))
    (l20 : K.lookup f20 = some ⟨oc20, od20, .func (PySem.W.fnOf "safe" "Book.safe" (defArgs s_Book_safe) (defBody s_Book_safe) (defScope s_Book_safe) .none kV20 dc20 pm20 an20 cd20 ct20), sl20⟩)
    (c20 : PySem.W.codeIn K cd20 "Book.safe" = true)
    (k20 : PySem.W.keepIn K (.ref f20) = true)
    (a21 : PySem.W.findIn K (.ref C_Book) "part_named" = some (some (.ref f21)))
    (l21 : K.lookup f21 = some ⟨oc21, od21, .func (PySem.W.fnOf "part_named" "Book.part_named" (defArgs s_Book_part_named) (defBody s_Book_part_named) (defScope s_Book_part_named) .none kV21 dc21 pm21 an21 cd21 ct21), sl21⟩)
    (c21 : PySem.W.codeIn K cd21 "Book.part_named" = true)
    (k21 : PySem.W.keepIn K (.ref f21) = true)
    (j21 : PySem.W.isFn K (.ref f21) = true)
    (a22 : PySem.W.findIn K (.ref C_Book) "mode_named" = some (some (.ref f22)))
    (l22 : K.lookup f22 = some ⟨oc22, od22, .func (PySem.W.fnOf "mode_named" "Book.mode_named" (defArgs s_Book_mode_named) (defBody s_Book_mode_named) (defScope s_Book_mode_named) .none kV22 dc22 pm22 an22 cd22 ct22), sl22⟩)
    (c22 : PySem.W.codeIn K cd22 "Book.mode_named" = true)
    (k22 : PySem.W.keepIn K (.ref f22) = true)
    (j22 : PySem.W.isFn K (.ref f22) = true)
    (a23 : PySem.W.findIn K (.ref C_Book) "command_named" = some (some (.ref f23)))
    (l23 : K.lookup f23 = some ⟨oc23, od23, .func (PySem.W.fnOf "command_named" "Book.command_named" (defArgs s_Book_command_named) (defBody s_Book_command_named) (defScope s_Book_command_named) .none kV23 dc23 pm23 an23 cd23 ct23), sl23⟩)
    (c23 : PySem.W.codeIn K cd23 "Book.command_named" = true)
    (k23 : PySem.W.keepIn K (.ref f23) = true)
    (j23 : PySem.W.isFn K (.ref f23) = true)
    (a24 : PySem.W.findIn K (.ref C_Book) "alarm_named" = some (some (.ref f24)))
    (l24 : K.lookup f24 = some ⟨oc24, od24, .func (PySem.W.fnOf "alarm_named" "Book.alarm_named" (defArgs s_Book_alarm_named) (defBody s_Book_alarm_named) (defScope s_Book_alarm_named) .none kV24 dc24 pm24 an24 cd24 ct24), sl24⟩)
    (c24 : PySem.W.codeIn K cd24 "Book.alarm_named" = true)
    (k24 : PySem.W.keepIn K (.ref f24) = true)
    (j24 : PySem.W.isFn K (.ref f24) = true)
    (a25 : PySem.W.findIn K (.ref C_Book) "row_named" = some (some (.ref f25)))
    (l25 : K.lookup f25 = some ⟨oc25, od25, .func (PySem.W.fnOf "row_named" "Book.row_named" (defArgs s_Book_row_named) (defBody s_Book_row_named) (defScope s_Book_row_named) .none kV25 dc25 pm25 an25 cd25 ct25), sl25⟩)
    (c25 : PySem.W.codeIn K cd25 "Book.row_named" = true)
    (k25 : PySem.W.keepIn K (.ref f25) = true)
    (j25 : PySem.W.isFn K (.ref f25) = true)
    (a26 : PySem.W.nsIn K mainGlobals "_law_pick" = some (some (.ref f26)))
    (l26 : K.lookup f26 = some ⟨oc26, od26, .func (PySem.W.fnOf "_law_pick" "_law_pick" (defArgs s__law_pick) (defBody s__law_pick) (defScope s__law_pick) .none kV26 dc26 pm26 an26 cd26 ct26), sl26⟩)
    (c26 : PySem.W.codeIn K cd26 "_law_pick" = true)
    (k26 : PySem.W.keepIn K (.ref f26) = true)
    (a27 : PySem.W.nsIn K mainGlobals "_law_effect" = some (some (.ref f27)))
    (l27 : K.lookup f27 = some ⟨oc27, od27, .func (PySem.W.fnOf "_law_effect" "_law_effect" (defArgs s__law_effect) (defBody s__law_effect) (defScope s__law_effect) .none kV27 dc27 pm27 an27 cd27 ct27), sl27⟩)
    (c27 : PySem.W.codeIn K cd27 "_law_effect" = true)
    (k27 : PySem.W.keepIn K (.ref f27) = true)
    (a28 : PySem.W.nsIn K mainGlobals "_law_parts" = some (some (.ref f28)))
    (l28 : K.lookup f28 = some ⟨oc28, od28, .func (PySem.W.fnOf "_law_parts" "_law_parts" (defArgs s__law_parts) (defBody s__law_parts) (defScope s__law_parts) .none kV28 dc28 pm28 an28 cd28 ct28), sl28⟩)
    (c28 : PySem.W.codeIn K cd28 "_law_parts" = true)
    (k28 : PySem.W.keepIn K (.ref f28) = true)
    (a29 : PySem.W.nsIn K mainGlobals "_law_first" = some (some (.ref f29)))
    (l29 : K.lookup f29 = some ⟨oc29, od29, .func (PySem.W.fnOf "_law_first" "_law_first" (defArgs s__law_first) (defBody s__law_first) (defScope s__law_first) .none kV29 dc29 pm29 an29 cd29 ct29), sl29⟩)
    (c29 : PySem.W.codeIn K cd29 "_law_first" = true)
    (k29 : PySem.W.keepIn K (.ref f29) = true)
    (a30 : PySem.W.nsIn K mainGlobals "_law_due" = some (some (.ref f30)))
    (l30 : K.lookup f30 = some ⟨oc30, od30, .func (PySem.W.fnOf "_law_due" "_law_due" (defArgs s__law_due) (defBody s__law_due) (defScope s__law_due) .none kV30 dc30 pm30 an30 cd30 ct30), sl30⟩)
    (c30 : PySem.W.codeIn K cd30 "_law_due" = true)
    (k30 : PySem.W.keepIn K (.ref f30) = true)
    (a31 : PySem.W.nsIn K mainGlobals "_law_told" = some (some (.ref f31)))
    (l31 : K.lookup f31 = some ⟨oc31, od31, .func (PySem.W.fnOf "_law_told" "_law_told" (defArgs s__law_told) (defBody s__law_told) (defScope s__law_told) .none kV31 dc31 pm31 an31 cd31 ct31), sl31⟩)
    (c31 : PySem.W.codeIn K cd31 "_law_told" = true)
    (k31 : PySem.W.keepIn K (.ref f31) = true)
    (a32 : PySem.W.nsIn K mainGlobals "_law_unknown" = some (some (.ref f32)))
    (l32 : K.lookup f32 = some ⟨oc32, od32, .func (PySem.W.fnOf "_law_unknown" "_law_unknown" (defArgs s__law_unknown) (defBody s__law_unknown) (defScope s__law_unknown) .none kV32 dc32 pm32 an32 cd32 ct32), sl32⟩)
    (c32 : PySem.W.codeIn K cd32 "_law_unknown" = true)
    (k32 : PySem.W.keepIn K (.ref f32) = true)
    (a33 : PySem.W.nsIn K mainGlobals "_law_right" = some (some (.ref f33)))
    (l33 : K.lookup f33 = some ⟨oc33, od33, .func (PySem.W.fnOf "_law_right" "_law_right" (defArgs s__law_right) (defBody s__law_right) (defScope s__law_right) .none kV33 dc33 pm33 an33 cd33 ct33), sl33⟩)
    (c33 : PySem.W.codeIn K cd33 "_law_right" = true)
    (k33 : PySem.W.keepIn K (.ref f33) = true)
    (z0 : PySem.W.nsIn K mainGlobals "abs" = some none) (z1 : PySem.W.nsIn K mainGlobals "int" = some none) (z2 : PySem.W.nsIn K mainGlobals "len" = some none) (z3 : PySem.W.nsIn K mainGlobals "max" = some none) (z4 : PySem.W.nsIn K mainGlobals "range" = some none) (z5 : PySem.W.nsIn K mainGlobals "list" = some none) (z6 : PySem.W.nsIn K mainGlobals "all" = some none) (z7 : PySem.W.nsIn K mainGlobals "any" = some none) (z8 : PySem.W.nsIn K mainGlobals "sum" = some none) (z9 : PySem.W.nsIn K mainGlobals "tuple" = some none) (z10 : PySem.W.nsIn K mainGlobals "sorted" = some none) (z11 : PySem.W.nsIn K mainGlobals "set" = some none) (z12 : PySem.W.nsIn K mainGlobals "enumerate" = some none) (z13 : PySem.W.nsIn K mainGlobals "zip" = some none) (z14 : PySem.W.nsIn K mainGlobals "isinstance" = some none) (z15 : PySem.W.nsIn K mainGlobals "str" = some none) (z16 : PySem.W.nsIn K mainGlobals "bool" = some none) (z17 : PySem.W.nsIn K mainGlobals "min" = some none)  :
    ∃ fd : FuncData, (∀ (s : Shared) (v : Value), BindsTo s fd ⟨[v], []⟩ [("_law_script", v)]) ∧ ∀ base : Heap, K.In base → base.Ns mainGlobals mg → FnOk l.prog w K mg base CX0 9 fa fd ["_law_script"] (spLaw K) := by
  have F0 := fun_mk (st := s_law) l0 c0 k0
  have F1 := fun_mk (st := s__law_row) l1 c1 k1
  have F2 := fun_mk (st := s__law_numbers) l2 c2 k2
  have F3 := fun_mk (st := s_is_name) l3 c3 k3
  have F4 := fun_mk (st := s_is_lot) l4 c4 k4
  have F5 := fun_mk (st := s_is_lot_of) l5 c5 k5
  have F6 := fun_mk (st := s_are_turned) l6 c6 k6
  have F7 := fun_mk (st := s_require) l7 c7 k7
  have F8 := fun_mk (st := s_require_names) l8 c8 k8
  have F9 := fun_mk (st := s_is_effect) l9 c9 k9
  have F10 := fun_mk (st := s_is_step) l10 c10 k10
  have F11 := fun_mk (st := s_names_of) l11 c11 k11
  have F12 := fun_mk (st := s_Book___init__) l12 c12 k12
  have F13 := fun_mk (st := s_Book_holds) l13 c13 k13
  have F14 := fun_mk (st := s_Book_modes) l14 c14 k14
  have F15 := fun_mk (st := s_Book_commands) l15 c15 k15
  have F16 := fun_mk (st := s_Book_alarms) l16 c16 k16
  have F17 := fun_mk (st := s_Book_rows) l17 c17 k17
  have F18 := fun_mk (st := s_Book_quiet) l18 c18 k18
  have F19 := fun_mk (st := s_Book_barred) l19 c19 k19
  have F20 := fun_mk (st := s_Book_safe) l20 c20 k20
  have F21 := fun_mk (st := s_Book_part_named) l21 c21 k21
  have F22 := fun_mk (st := s_Book_mode_named) l22 c22 k22
  have F23 := fun_mk (st := s_Book_command_named) l23 c23 k23
  have F24 := fun_mk (st := s_Book_alarm_named) l24 c24 k24
  have F25 := fun_mk (st := s_Book_row_named) l25 c25 k25
  have F26 := fun_mk (st := s__law_pick) l26 c26 k26
  have F27 := fun_mk (st := s__law_effect) l27 c27 k27
  have F28 := fun_mk (st := s__law_parts) l28 c28 k28
  have F29 := fun_mk (st := s__law_first) l29 c29 k29
  have F30 := fun_mk (st := s__law_due) l30 c30 k30
  have F31 := fun_mk (st := s__law_told) l31 c31 k31
  have F32 := fun_mk (st := s__law_unknown) l32 c32 k32
  have F33 := fun_mk (st := s__law_right) l33 c33 k33
  have e := hfa.symm.trans (PySem.W.mg_of X G a0)
  cases e
  have CL_Book : Cls K C_Book := ⟨pg_Book, hd_Book, po_Book, sa_Book⟩
  have O_Book : ClsOk K "Book" ["_holds", "_barred", "_parts", "_quiet"] := ⟨fun C h => (ClsAt.eq aC_Book h) ▸ CL_Book, fun C f h hf => by
    cases ClsAt.eq aC_Book h
    simp only [List.mem_cons, List.not_mem_nil, or_false] at hf
    rcases hf with rfl | rfl | rfl | rfl
    all_goals assumption⟩
  have T_InvalidBook : Ec0 K mg "InvalidBook" := ⟨C_InvalidBook, aC_InvalidBook, PySem.W.mg_of X G aC_InvalidBook, kC_InvalidBook, xC_InvalidBook, eC_InvalidBook, tC_InvalidBook, exm_self eC_InvalidBook iC_InvalidBook tC_InvalidBook sC_InvalidBook⟩
  have x_LETTERS : GlobD K mg "LETTERS" (.str letS) := globS (PySem.W.mg_of X G yg_LETTERS)
  have x_MODE : GlobD K mg "MODE" (.str "mode") := globS (PySem.W.mg_of X G yg_MODE)
  have x_COMMAND : GlobD K mg "COMMAND" (.str "command") := globS (PySem.W.mg_of X G yg_COMMAND)
  have x_ALARM : GlobD K mg "ALARM" (.str "alarm") := globS (PySem.W.mg_of X G yg_ALARM)
  have x_ROW : GlobD K mg "ROW" (.str "row") := globS (PySem.W.mg_of X G yg_ROW)
  have T_Unk : Xt_UnknownName l.prog K mg := ⟨C_UnknownName, f_UnknownName, aC_UnknownName, { gC := PySem.W.mg_of X G aC_UnknownName, cls := ⟨nm_UnknownName, q_UnknownName, N_UnknownName, bs_UnknownName, _, sn_UnknownName, sub_UnknownName, ab_UnknownName, col_UnknownName, dd_UnknownName, m0_UnknownName, m1_UnknownName, m2_UnknownName, m3_UnknownName, m5_UnknownName, xL_UnknownName, rfl⟩, sa := sa_UnknownName, ga := ga_UnknownName, gg := gg_UnknownName, noN := nb_UnknownName, iC := ai_UnknownName, tC := ti_UnknownName, kC := kC_UnknownName, exC := eC_UnknownName, veC := vC_UnknownName, tyC := tC_UnknownName, hdC := hC_UnknownName, te := exm_self eC_UnknownName iC_UnknownName tC_UnknownName sC_UnknownName, su := su_UnknownName, ei := ei_UnknownName, mro := mr_UnknownName, op := op_UnknownName, gS := PySem.W.mg_none_of X G gS_UnknownName, tp := tp_UnknownName, fn := ⟨_, _, _, _, _, _, _, _, _, _, _, _, _, _, _, _, _, _, _, _, _, _, li_UnknownName, ci_UnknownName, ld_UnknownName, lv_UnknownName, lf_UnknownName, lc_UnknownName⟩ }⟩
  have D__law_row : Dfn K mg "_law_row" s__law_row ["_law_cell", "_law_many"] := ⟨_, _, F1, PySem.W.mg_of X G a1, F1.binds fun _ _ _ _ _ _ us hl => match us, hl with | [_, _], _ => rfl⟩
  have D__law_numbers : Dfn K mg "_law_numbers" s__law_numbers ["_law_script", "_law_many"] := ⟨_, _, F2, PySem.W.mg_of X G a2, F2.binds fun _ _ _ _ _ _ us hl => match us, hl with | [_, _], _ => rfl⟩
  have D_is_name : Dfn K mg "is_name" s_is_name ["text"] := ⟨_, _, F3, PySem.W.mg_of X G a3, F3.binds fun _ _ _ _ _ _ us hl => match us, hl with | [_], _ => rfl⟩
  have D_is_lot : Dfn K mg "is_lot" s_is_lot ["names"] := ⟨_, _, F4, PySem.W.mg_of X G a4, F4.binds fun _ _ _ _ _ _ us hl => match us, hl with | [_], _ => rfl⟩
  have D_is_lot_of : Dfn K mg "is_lot_of" s_is_lot_of ["names", "known"] := ⟨_, _, F5, PySem.W.mg_of X G a5, F5.binds fun _ _ _ _ _ _ us hl => match us, hl with | [_, _], _ => rfl⟩
  have D_are_turned : Dfn K mg "are_turned" s_are_turned ["on", "off", "holds"] := ⟨_, _, F6, PySem.W.mg_of X G a6, F6.binds fun _ _ _ _ _ _ us hl => match us, hl with | [_, _, _], _ => rfl⟩
  have D_require : Dfn K mg "require" s_require ["holds"] := ⟨_, _, F7, PySem.W.mg_of X G a7, F7.binds fun _ _ _ _ _ _ us hl => match us, hl with | [_], _ => rfl⟩
  have D_require_names : Dfn K mg "require_names" s_require_names ["names", "least", "most"] := ⟨_, _, F8, PySem.W.mg_of X G a8, F8.binds fun _ _ _ _ _ _ us hl => match us, hl with | [_, _, _], _ => rfl⟩
  have D_is_effect : Dfn K mg "is_effect" s_is_effect ["on", "off", "to", "holds", "modes"] := ⟨_, _, F9, PySem.W.mg_of X G a9, F9.binds fun _ _ _ _ _ _ us hl => match us, hl with | [_, _, _, _, _], _ => rfl⟩
  have D_is_step : Dfn K mg "is_step" s_is_step ["step", "commands"] := ⟨_, _, F10, PySem.W.mg_of X G a10, F10.binds fun _ _ _ _ _ _ us hl => match us, hl with | [_, _], _ => rfl⟩
  have D_names_of : Dfn K mg "names_of" s_names_of ["parts"] := ⟨_, _, F11, PySem.W.mg_of X G a11, F11.binds fun _ _ _ _ _ _ us hl => match us, hl with | [_], _ => rfl⟩
  have D_Book___init__ : MtdI K mg "Book" "Book.__init__" s_Book___init__ ["self", "holds", "modes", "barred", "commands", "alarms", "rows", "quiet"] := ⟨_, _, _, aC_Book, PySem.W.mg_of X G aC_Book, ⟨mk_Book, a12, j12, kp_Book⟩, F12, F12.binds fun _ _ _ _ _ _ us hl => match us, hl with | [_, _, _, _, _, _, _, _], _ => rfl⟩
  have D_Book_holds : MtdP K "Book" "holds" "Book.holds" s_Book_holds ["self"] := ⟨C_Book, pr13, f13, _, aC_Book, CL_Book, ⟨a13, g13, tk13, rest13, r13⟩, F13, F13.binds fun _ _ _ _ _ _ us hl => match us, hl with | [_], _ => rfl⟩
  have D_Book_modes : MtdP K "Book" "modes" "Book.modes" s_Book_modes ["self"] := ⟨C_Book, pr14, f14, _, aC_Book, CL_Book, ⟨a14, g14, tk14, rest14, r14⟩, F14, F14.binds fun _ _ _ _ _ _ us hl => match us, hl with | [_], _ => rfl⟩
  have D_Book_commands : MtdP K "Book" "commands" "Book.commands" s_Book_commands ["self"] := ⟨C_Book, pr15, f15, _, aC_Book, CL_Book, ⟨a15, g15, tk15, rest15, r15⟩, F15, F15.binds fun _ _ _ _ _ _ us hl => match us, hl with | [_], _ => rfl⟩
  have D_Book_alarms : MtdP K "Book" "alarms" "Book.alarms" s_Book_alarms ["self"] := ⟨C_Book, pr16, f16, _, aC_Book, CL_Book, ⟨a16, g16, tk16, rest16, r16⟩, F16, F16.binds fun _ _ _ _ _ _ us hl => match us, hl with | [_], _ => rfl⟩
  have D_Book_rows : MtdP K "Book" "rows" "Book.rows" s_Book_rows ["self"] := ⟨C_Book, pr17, f17, _, aC_Book, CL_Book, ⟨a17, g17, tk17, rest17, r17⟩, F17, F17.binds fun _ _ _ _ _ _ us hl => match us, hl with | [_], _ => rfl⟩
  have D_Book_quiet : MtdP K "Book" "quiet" "Book.quiet" s_Book_quiet ["self"] := ⟨C_Book, pr18, f18, _, aC_Book, CL_Book, ⟨a18, g18, tk18, rest18, r18⟩, F18, F18.binds fun _ _ _ _ _ _ us hl => match us, hl with | [_], _ => rfl⟩
  have D_Book_barred : MtdP K "Book" "barred" "Book.barred" s_Book_barred ["self"] := ⟨C_Book, pr19, f19, _, aC_Book, CL_Book, ⟨a19, g19, tk19, rest19, r19⟩, F19, F19.binds fun _ _ _ _ _ _ us hl => match us, hl with | [_], _ => rfl⟩
  have D_Book_safe : MtdP K "Book" "safe" "Book.safe" s_Book_safe ["self"] := ⟨C_Book, pr20, f20, _, aC_Book, CL_Book, ⟨a20, g20, tk20, rest20, r20⟩, F20, F20.binds fun _ _ _ _ _ _ us hl => match us, hl with | [_], _ => rfl⟩
  have D_Book_part_named : Mtd K "Book" "part_named" "Book.part_named" s_Book_part_named ["self", "sort", "name"] := ⟨_, _, _, aC_Book, CL_Book, ⟨a21, j21, k21⟩, F21, F21.binds fun _ _ _ _ _ _ us hl => match us, hl with | [_, _, _], _ => rfl⟩
  have D_Book_mode_named : Mtd K "Book" "mode_named" "Book.mode_named" s_Book_mode_named ["self", "name"] := ⟨_, _, _, aC_Book, CL_Book, ⟨a22, j22, k22⟩, F22, F22.binds fun _ _ _ _ _ _ us hl => match us, hl with | [_, _], _ => rfl⟩
  have D_Book_command_named : Mtd K "Book" "command_named" "Book.command_named" s_Book_command_named ["self", "name"] := ⟨_, _, _, aC_Book, CL_Book, ⟨a23, j23, k23⟩, F23, F23.binds fun _ _ _ _ _ _ us hl => match us, hl with | [_, _], _ => rfl⟩
  have D_Book_alarm_named : Mtd K "Book" "alarm_named" "Book.alarm_named" s_Book_alarm_named ["self", "name"] := ⟨_, _, _, aC_Book, CL_Book, ⟨a24, j24, k24⟩, F24, F24.binds fun _ _ _ _ _ _ us hl => match us, hl with | [_, _], _ => rfl⟩
  have D_Book_row_named : Mtd K "Book" "row_named" "Book.row_named" s_Book_row_named ["self", "name"] := ⟨_, _, _, aC_Book, CL_Book, ⟨a25, j25, k25⟩, F25, F25.binds fun _ _ _ _ _ _ us hl => match us, hl with | [_, _], _ => rfl⟩
  have D__law_pick : Dfn K mg "_law_pick" s__law_pick ["_law_names", "_law_number", "_law_without"] := ⟨_, _, F26, PySem.W.mg_of X G a26, F26.binds fun _ _ _ _ _ _ us hl => match us, hl with | [_, _, _], _ => rfl⟩
  have D__law_effect : Dfn K mg "_law_effect" s__law_effect ["_law_holds", "_law_modes", "_law_numbers_here", "_law_at"] := ⟨_, _, F27, PySem.W.mg_of X G a27, F27.binds fun _ _ _ _ _ _ us hl => match us, hl with | [_, _, _, _], _ => rfl⟩
  have D__law_parts : Dfn K mg "_law_parts" s__law_parts ["_law_numbers_here", "_law_at"] := ⟨_, _, F28, PySem.W.mg_of X G a28, F28.binds fun _ _ _ _ _ _ us hl => match us, hl with | [_, _], _ => rfl⟩
  have D__law_first : Dfn K mg "_law_first" s__law_first ["_law_part"] := ⟨_, _, F29, PySem.W.mg_of X G a29, F29.binds fun _ _ _ _ _ _ us hl => match us, hl with | [_], _ => rfl⟩
  have D__law_due : Dfn K mg "_law_due" s__law_due ["_law_parts_here"] := ⟨_, _, F30, PySem.W.mg_of X G a30, F30.binds fun _ _ _ _ _ _ us hl => match us, hl with | [_], _ => rfl⟩
  have D__law_told : Dfn K mg "_law_told" s__law_told ["_law_book"] := ⟨_, _, F31, PySem.W.mg_of X G a31, F31.binds fun _ _ _ _ _ _ us hl => match us, hl with | [_], _ => rfl⟩
  have D__law_unknown : Dfn K mg "_law_unknown" s__law_unknown ["_law_book"] := ⟨_, _, F32, PySem.W.mg_of X G a32, F32.binds fun _ _ _ _ _ _ us hl => match us, hl with | [_], _ => rfl⟩
  have D__law_right : Dfn K mg "_law_right" s__law_right ["_law_parts_here"] := ⟨_, _, F33, PySem.W.mg_of X G a33, F33.binds fun _ _ _ _ _ _ us hl => match us, hl with | [_], _ => rfl⟩
  have bt : Bt mg := ⟨PySem.W.mg_none_of X G z0, PySem.W.mg_none_of X G z1, PySem.W.mg_none_of X G z2, PySem.W.mg_none_of X G z3, PySem.W.mg_none_of X G z4, PySem.W.mg_none_of X G z5, PySem.W.mg_none_of X G z6, PySem.W.mg_none_of X G z7, PySem.W.mg_none_of X G z8, PySem.W.mg_none_of X G z9, PySem.W.mg_none_of X G z10, PySem.W.mg_none_of X G z11, PySem.W.mg_none_of X G z12, PySem.W.mg_none_of X G z13, PySem.W.mg_none_of X G z14, PySem.W.mg_none_of X G z15, PySem.W.mg_none_of X G z16, PySem.W.mg_none_of X G z17⟩
  refine ⟨PySem.W.fnOf "law" "law" (defArgs s_law) (defBody s_law) (defScope s_law) .none kV0 dc0 pm0 an0 cd0 ct0, fun s v => .of_eq rfl, fun base _ _ => ?_⟩
  have c__law_row := ok__law_row (P := l.prog) (w := w) (base := base) D__law_row  bt
  have c__law_numbers := ok__law_numbers (P := l.prog) (w := w) (base := base) D__law_numbers c__law_row bt
  have c_is_name := ok_is_name (P := l.prog) (w := w) (base := base) D_is_name x_LETTERS T_InvalidBook bt
  have c_is_lot := ok_is_lot (P := l.prog) (w := w) (base := base) D_is_lot c_is_name x_LETTERS T_InvalidBook bt
  have c_is_lot_of := ok_is_lot_of (P := l.prog) (w := w) (base := base) D_is_lot_of c_is_lot x_LETTERS T_InvalidBook bt
  have c_are_turned := ok_are_turned (P := l.prog) (w := w) (base := base) D_are_turned c_is_lot_of x_LETTERS T_InvalidBook bt
  have c_require := ok_require (P := l.prog) (w := w) (base := base) D_require x_LETTERS T_InvalidBook bt
  have c_require_names := ok_require_names (P := l.prog) (w := w) (base := base) D_require_names c_is_name c_require x_LETTERS T_InvalidBook bt
  have c_is_effect := ok_is_effect (P := l.prog) (w := w) (base := base) D_is_effect c_are_turned x_LETTERS T_InvalidBook bt
  have c_is_step := ok_is_step (P := l.prog) (w := w) (base := base) D_is_step x_LETTERS T_InvalidBook bt
  have c_names_of := ok_names_of (P := l.prog) (w := w) (base := base) D_names_of x_LETTERS T_InvalidBook bt
  have c_Book___init__ := ok_Book___init__ (P := l.prog) (w := w) (base := base) D_Book___init__ c_require c_require_names c_names_of c_are_turned c_is_lot_of c_is_effect c_is_step x_LETTERS T_InvalidBook x_MODE x_COMMAND x_ALARM x_ROW O_Book bt
  have c_Book_holds := ok_Book_holds (P := l.prog) (w := w) (base := base) D_Book_holds x_LETTERS T_InvalidBook x_MODE x_COMMAND x_ALARM x_ROW O_Book bt
  have c_Book_modes := ok_Book_modes (P := l.prog) (w := w) (base := base) D_Book_modes x_LETTERS T_InvalidBook x_MODE x_COMMAND x_ALARM x_ROW O_Book bt
  have c_Book_commands := ok_Book_commands (P := l.prog) (w := w) (base := base) D_Book_commands x_LETTERS T_InvalidBook x_MODE x_COMMAND x_ALARM x_ROW O_Book bt
  have c_Book_alarms := ok_Book_alarms (P := l.prog) (w := w) (base := base) D_Book_alarms x_LETTERS T_InvalidBook x_MODE x_COMMAND x_ALARM x_ROW O_Book bt
  have c_Book_rows := ok_Book_rows (P := l.prog) (w := w) (base := base) D_Book_rows x_LETTERS T_InvalidBook x_MODE x_COMMAND x_ALARM x_ROW O_Book bt
  have c_Book_quiet := ok_Book_quiet (P := l.prog) (w := w) (base := base) D_Book_quiet x_LETTERS T_InvalidBook x_MODE x_COMMAND x_ALARM x_ROW O_Book bt
  have c_Book_barred := ok_Book_barred (P := l.prog) (w := w) (base := base) D_Book_barred x_LETTERS T_InvalidBook x_MODE x_COMMAND x_ALARM x_ROW O_Book T_Unk bt
  have c_Book_safe := ok_Book_safe (P := l.prog) (w := w) (base := base) D_Book_safe x_LETTERS T_InvalidBook x_MODE x_COMMAND x_ALARM x_ROW O_Book T_Unk bt
  have c_Book_part_named := ok_Book_part_named (P := l.prog) (w := w) (base := base) D_Book_part_named x_LETTERS T_InvalidBook x_MODE x_COMMAND x_ALARM x_ROW O_Book T_Unk bt
  have c_Book_mode_named := ok_Book_mode_named (P := l.prog) (w := w) (base := base) D_Book_mode_named c_Book_part_named x_LETTERS T_InvalidBook x_MODE x_COMMAND x_ALARM x_ROW O_Book T_Unk bt
  have c_Book_command_named := ok_Book_command_named (P := l.prog) (w := w) (base := base) D_Book_command_named c_Book_part_named x_LETTERS T_InvalidBook x_MODE x_COMMAND x_ALARM x_ROW O_Book T_Unk bt
  have c_Book_alarm_named := ok_Book_alarm_named (P := l.prog) (w := w) (base := base) D_Book_alarm_named c_Book_part_named x_LETTERS T_InvalidBook x_MODE x_COMMAND x_ALARM x_ROW O_Book T_Unk bt
  have c_Book_row_named := ok_Book_row_named (P := l.prog) (w := w) (base := base) D_Book_row_named c_Book_part_named x_LETTERS T_InvalidBook x_MODE x_COMMAND x_ALARM x_ROW O_Book T_Unk bt
  have c__law_pick := ok__law_pick (P := l.prog) (w := w) (base := base) D__law_pick x_LETTERS T_InvalidBook x_MODE x_COMMAND x_ALARM x_ROW O_Book T_Unk bt
  have c__law_effect := ok__law_effect (P := l.prog) (w := w) (base := base) D__law_effect c__law_pick x_LETTERS T_InvalidBook x_MODE x_COMMAND x_ALARM x_ROW O_Book T_Unk bt
  have c__law_parts := ok__law_parts (P := l.prog) (w := w) (base := base) D__law_parts c__law_pick c__law_effect x_LETTERS T_InvalidBook x_MODE x_COMMAND x_ALARM x_ROW O_Book T_Unk bt
  have c__law_first := ok__law_first D__law_first x_LETTERS T_InvalidBook x_MODE x_COMMAND x_ALARM x_ROW O_Book T_Unk bt
  have c__law_due := ok__law_due (P := l.prog) (w := w) (base := base) D__law_due c__law_first x_LETTERS T_InvalidBook x_MODE x_COMMAND x_ALARM x_ROW O_Book T_Unk bt
  have c__law_told := ok__law_told (P := l.prog) (w := w) (base := base) D__law_told c_Book_holds c_Book_modes c_Book_barred c_Book_commands c_Book_alarms c_Book_rows c_Book_quiet x_LETTERS T_InvalidBook x_MODE x_COMMAND x_ALARM x_ROW O_Book T_Unk bt
  have c__law_unknown := ok__law_unknown (P := l.prog) (w := w) (base := base) D__law_unknown c_Book_mode_named c_Book_command_named c_Book_alarm_named c_Book_row_named x_LETTERS T_InvalidBook x_MODE x_COMMAND x_ALARM x_ROW O_Book T_Unk bt
  have c__law_right := ok__law_right (P := l.prog) (w := w) (base := base) D__law_right c_Book___init__ c__law_due c__law_told c__law_unknown c_Book_safe c_Book_mode_named c_Book_command_named c_Book_alarm_named c_Book_row_named x_LETTERS T_InvalidBook x_MODE x_COMMAND x_ALARM x_ROW O_Book T_Unk bt
  exact ok_law F0 c__law_numbers c__law_parts c__law_right x_LETTERS T_InvalidBook x_MODE x_COMMAND x_ALARM x_ROW O_Book T_Unk bt
end
end K
open PySem PySem.W PyProof.Rows
set_option maxHeartbeats 0 in
theorem PySem.Challenge.cw_farword_k01_books_taken_holds : PySem.Challenge.rw_farword_k01_books_taken.Holds := by
  w_on; o_law; k_headL; (case hw => w_witness2)
  k_fill
  refine L2.walk_of (l := PySem.Challenge.rw_farword_k01_books_taken) (n := 63) (k := 9) (x := "_law_script") (CX := fun _ => L2.CX0) (sp := fun w => PL.spLaw _) rfl (by decide) rfl ⟨rfl, by decide, by decide⟩ (fun w h Y => PySem.W.kIn_of Y) ?F (fun _ H a ns hl _ hS => PL.law_sp hl hS) (fun _ _ _ _ _ h => h)
  case F =>
    intro w mg fa h KX G hmg
    refine' K.all_mk KX G hmg ?aC_Book ?pg_Book ?hd_Book ?po_Book ?sa_Book ?mk_Book ?kp_Book ?na_Book__holds ?na_Book__barred ?na_Book__parts ?na_Book__quiet ?aC_UnknownName ?xL_UnknownName ?sa_UnknownName ?ga_UnknownName ?gg_UnknownName ?nb_UnknownName ?ai_UnknownName ?ti_UnknownName ?li_UnknownName ?ci_UnknownName ?ld_UnknownName ?lv_UnknownName ?lf_UnknownName ?lc_UnknownName ?kC_UnknownName ?eC_UnknownName ?vC_UnknownName ?tC_UnknownName ?hC_UnknownName ?iC_UnknownName ?sC_UnknownName ?su_UnknownName ?ei_UnknownName ?mr_UnknownName ?op_UnknownName ?gS_UnknownName ?tp_UnknownName ?aC_InvalidBook ?kC_InvalidBook ?eC_InvalidBook ?tC_InvalidBook ?xC_InvalidBook ?iC_InvalidBook ?sC_InvalidBook ?yg_LETTERS ?yg_MODE ?yg_COMMAND ?yg_ALARM ?yg_ROW ?a0 ?l0 ?c0 ?k0 ?a1 ?l1 ?c1 ?k1 ?a2 ?l2 ?c2 ?k2 ?a3 ?l3 ?c3 ?k3 ?a4 ?l4 ?c4 ?k4 ?a5 ?l5 ?c5 ?k5 ?a6 ?l6 ?c6 ?k6 ?a7 ?l7 ?c7 ?k7 ?a8 ?l8 ?c8 ?k8 ?a9 ?l9 ?c9 ?k9 ?a10 ?l10 ?c10 ?k10 ?a11 ?l11 ?c11 ?k11 ?a12 ?l12 ?c12 ?k12 ?j12 ?a13 ?g13 ?tk13 ?r13 ?l13 ?c13 ?k13 ?a14 ?g14 ?tk14 ?r14 ?l14 ?c14 ?k14 ?a15 ?g15 ?tk15 ?r15 ?l15 ?c15 ?k15 ?a16 ?g16 ?tk16 ?r16 ?l16 ?c16 ?k16 ?a17 ?g17 ?tk17 ?r17 ?l17 ?c17 ?k17 ?a18 ?g18 ?tk18 ?r18 ?l18 ?c18 ?k18 ?a19 ?g19 ?tk19 ?r19 ?l19 ?c19 ?k19 ?a20 ?g20 ?tk20 ?r20 ?l20 ?c20 ?k20 ?a21 ?l21 ?c21 ?k21 ?j21 ?a22 ?l22 ?c22 ?k22 ?j22 ?a23 ?l23 ?c23 ?k23 ?j23 ?a24 ?l24 ?c24 ?k24 ?j24 ?a25 ?l25 ?c25 ?k25 ?j25 ?a26 ?l26 ?c26 ?k26 ?a27 ?l27 ?c27 ?k27 ?a28 ?l28 ?c28 ?k28 ?a29 ?l29 ?c29 ?k29 ?a30 ?l30 ?c30 ?k30 ?a31 ?l31 ?c31 ?k31 ?a32 ?l32 ?c32 ?k32 ?a33 ?l33 ?c33 ?k33 ?z0 ?z1 ?z2 ?z3 ?z4 ?z5 ?z6 ?z7 ?z8 ?z9 ?z10 ?z11 ?z12 ?z13 ?z14 ?z15 ?z16 ?z17
    (case aC_Book => k_is)
    (case pg_Book => k_is)
    (case hd_Book => k_is)
    (case po_Book => k_is)
    (case sa_Book => k_is)
    (case mk_Book => k_is)
    (case kp_Book => k_is)
    (case na_Book__holds => k_is)
    (case na_Book__barred => k_is)
    (case na_Book__parts => k_is)
    (case na_Book__quiet => k_is)
    (case aC_UnknownName => k_is)
    (case xL_UnknownName => k_is)
    (case sa_UnknownName => k_is)
    (case ga_UnknownName => k_is)
    (case gg_UnknownName => k_is)
    (case nb_UnknownName => k_is)
    (case ai_UnknownName => k_is)
    (case ti_UnknownName => k_is)
    (case li_UnknownName => k_is)
    (case ci_UnknownName => k_is)
    (case ld_UnknownName => k_is)
    (case lv_UnknownName => first | rfl | k_is)
    (case lf_UnknownName => first | rfl | decide +kernel)
    (case lc_UnknownName => k_is)
    (case kC_UnknownName => k_is)
    (case eC_UnknownName => k_is)
    (case vC_UnknownName => k_is)
    (case tC_UnknownName => k_is)
    (case hC_UnknownName => k_is)
    (case iC_UnknownName => k_is)
    (case sC_UnknownName => first | rfl | k_is)
    (case su_UnknownName => first | ks_is | k_is | rfl)
    (case ei_UnknownName => first | k_is | k_exc | rfl)
    (case mr_UnknownName => first | k_is | rfl)
    (case op_UnknownName => k_is)
    (case gS_UnknownName => k_is)
    (case tp_UnknownName => first | rfl | decide +kernel)
    (case aC_InvalidBook => k_is)
    (case kC_InvalidBook => k_is)
    (case eC_InvalidBook => k_is)
    (case tC_InvalidBook => k_is)
    (case xC_InvalidBook => first | k_exc | k_is | rfl)
    (case iC_InvalidBook => k_is)
    (case sC_InvalidBook => first | rfl | k_is)
    (case yg_LETTERS => k_is)
    (case yg_MODE => k_is)
    (case yg_COMMAND => k_is)
    (case yg_ALARM => k_is)
    (case yg_ROW => k_is)
    (case a0 => k_is)
    (case l0 => k_is)
    (case c0 => k_is)
    (case k0 => k_is)
    (case a1 => k_is)
    (case l1 => k_is)
    (case c1 => k_is)
    (case k1 => k_is)
    (case a2 => k_is)
    (case l2 => k_is)
    (case c2 => k_is)
    (case k2 => k_is)
    (case a3 => k_is)
    (case l3 => k_is)
    (case c3 => k_is)
    (case k3 => k_is)
    (case a4 => k_is)
    (case l4 => k_is)
    (case c4 => k_is)
    (case k4 => k_is)
    (case a5 => k_is)
    (case l5 => k_is)
    (case c5 => k_is)
    (case k5 => k_is)
    (case a6 => k_is)
    (case l6 => k_is)
    (case c6 => k_is)
    (case k6 => k_is)
    (case a7 => k_is)
    (case l7 => k_is)
    (case c7 => k_is)
    (case k7 => k_is)
    (case a8 => k_is)
    (case l8 => k_is)
    (case c8 => k_is)
    (case k8 => k_is)
    (case a9 => k_is)
    (case l9 => k_is)
    (case c9 => k_is)
    (case k9 => k_is)
    (case a10 => k_is)
    (case l10 => k_is)
    (case c10 => k_is)
    (case k10 => k_is)
    (case a11 => k_is)
    (case l11 => k_is)
    (case c11 => k_is)
    (case k11 => k_is)
    (case a12 => k_is)
    (case l12 => k_is)
    (case c12 => k_is)
    (case k12 => k_is)
    (case j12 => first | k_is | rfl)
    (case a13 => k_is)
    (case g13 => k_is)
    (case tk13 => k_is)
    (case r13 => first | k_is | rfl)
    (case l13 => k_is)
    (case c13 => k_is)
    (case k13 => k_is)
    (case a14 => k_is)
    (case g14 => k_is)
    (case tk14 => k_is)
    (case r14 => first | k_is | rfl)
    (case l14 => k_is)
    (case c14 => k_is)
    (case k14 => k_is)
    (case a15 => k_is)
    (case g15 => k_is)
    (case tk15 => k_is)
    (case r15 => first | k_is | rfl)
    (case l15 => k_is)
    (case c15 => k_is)
    (case k15 => k_is)
    (case a16 => k_is)
    (case g16 => k_is)
    (case tk16 => k_is)
    (case r16 => first | k_is | rfl)
    (case l16 => k_is)
    (case c16 => k_is)
    (case k16 => k_is)
    (case a17 => k_is)
    (case g17 => k_is)
    (case tk17 => k_is)
    (case r17 => first | k_is | rfl)
    (case l17 => k_is)
    (case c17 => k_is)
    (case k17 => k_is)
    (case a18 => k_is)
    (case g18 => k_is)
    (case tk18 => k_is)
    (case r18 => first | k_is | rfl)
    (case l18 => k_is)
    (case c18 => k_is)
    (case k18 => k_is)
    (case a19 => k_is)
    (case g19 => k_is)
    (case tk19 => k_is)
    (case r19 => first | k_is | rfl)
    (case l19 => k_is)
    (case c19 => k_is)
    (case k19 => k_is)
    (case a20 => k_is)
    (case g20 => k_is)
    (case tk20 => k_is)
    (case r20 => first | k_is | rfl)
    (case l20 => k_is)
    (case c20 => k_is)
    (case k20 => k_is)
    (case a21 => k_is)
    (case l21 => k_is)
    (case c21 => k_is)
    (case k21 => k_is)
    (case j21 => first | k_is | rfl)
    (case a22 => k_is)
    (case l22 => k_is)
    (case c22 => k_is)
    (case k22 => k_is)
    (case j22 => first | k_is | rfl)
    (case a23 => k_is)
    (case l23 => k_is)
    (case c23 => k_is)
    (case k23 => k_is)
    (case j23 => first | k_is | rfl)
    (case a24 => k_is)
    (case l24 => k_is)
    (case c24 => k_is)
    (case k24 => k_is)
    (case j24 => first | k_is | rfl)
    (case a25 => k_is)
    (case l25 => k_is)
    (case c25 => k_is)
    (case k25 => k_is)
    (case j25 => first | k_is | rfl)
    (case a26 => k_is)
    (case l26 => k_is)
    (case c26 => k_is)
    (case k26 => k_is)
    (case a27 => k_is)
    (case l27 => k_is)
    (case c27 => k_is)
    (case k27 => k_is)
    (case a28 => k_is)
    (case l28 => k_is)
    (case c28 => k_is)
    (case k28 => k_is)
    (case a29 => k_is)
    (case l29 => k_is)
    (case c29 => k_is)
    (case k29 => k_is)
    (case a30 => k_is)
    (case l30 => k_is)
    (case c30 => k_is)
    (case k30 => k_is)
    (case a31 => k_is)
    (case l31 => k_is)
    (case c31 => k_is)
    (case k31 => k_is)
    (case a32 => k_is)
    (case l32 => k_is)
    (case c32 => k_is)
    (case k32 => k_is)
    (case a33 => k_is)
    (case l33 => k_is)
    (case c33 => k_is)
    (case k33 => k_is)
    (case z0 => k_is)
    (case z1 => k_is)
    (case z2 => k_is)
    (case z3 => k_is)
    (case z4 => k_is)
    (case z5 => k_is)
    (case z6 => k_is)
    (case z7 => k_is)
    (case z8 => k_is)
    (case z9 => k_is)
    (case z10 => k_is)
    (case z11 => k_is)
    (case z12 => k_is)
    (case z13 => k_is)
    (case z14 => k_is)
    (case z15 => k_is)
    (case z16 => k_is)
    (case z17 => k_is)


