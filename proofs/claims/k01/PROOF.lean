import PyProof.Rows.All
import Wide.All
import OpenK.AllK
import Wide.FinOn
import PySem.Challenge.RW_openshares_k01_valid_names
import HandS.ForMost
import HandS.Exc
import HandS.Wide
import HandS.ExcOwn
import HandS.WordsExc
import HandS.IsInst
import HandS.Style
import HandS.Deep
import HandS.Defaults
set_option Elab.async false
set_option linter.all false
set_option maxRecDepth 100000
set_option maxHeartbeats 4000000
/-! Layer O: pure data, owned lists, and readings over them. -/
namespace OW
open PySem PySem.Spec L2

/-! ### data -/
inductive D where
  | non | bl (b : Bool) | int (i : Int) | str (s : Str) | ty (n : String) | glob (a : Addr)
  | tup (ds : List D) | lst (ds : List D) | dic (kvs : List (Key × D)) | ins (C : Addr) (fs : List (Str × D))

/-- an owned container -/
inductive T where
  | lst (ds : List D)
  | dic (kvs : List (Key × D))
def T.toD : T → D
  | .lst ds => .lst ds
  | .dic kvs => .dic kvs

section
variable (K : PySem.W.Frag)
mutual
def Rep (F : Hp) : D → V → Prop
  | .non, v => v = .non
  | .bl b, v => v = .bl b
  | .int i, v => v = .int i
  | .str s, v => v = .str s
  | .ty n, v => v = .ty n
  | .glob a, v => v = .ref a
  | .tup ds, v => ∃ p vs, v = .ref p ∧ SqT K F p vs ∧ Reps F ds vs
  | .lst ds, v => ∃ p vs, v = .ref p ∧ F p = some (.lst vs) ∧ Reps F ds vs
  | .dic kvs, v => ∃ p ws, v = .ref p ∧ F p = some (.dK ws) ∧ RepK F kvs ws
  | .ins C fs, v => ∃ p dx ws, v = .ref p ∧ F p = some (.ins C dx ws) ∧ RepF F fs ws
def Reps (F : Hp) : List D → List V → Prop
  | [], vs => vs = []
  | d :: ds, vs => ∃ v ws, vs = v :: ws ∧ Rep F d v ∧ Reps F ds ws
def RepK (F : Hp) : List (Key × D) → List (Key × V) → Prop
  | [], ws => ws = []
  | (k, d) :: ds, ws => ∃ v r, ws = (k, v) :: r ∧ Rep F d v ∧ RepK F ds r
def RepF (F : Hp) : List (Str × D) → List (Str × V) → Prop
  | [], ws => ws = []
  | (k, d) :: ds, ws => ∃ v r, ws = (k, v) :: r ∧ Rep F d v ∧ RepF F ds r
end
end

variable {K : PySem.W.Frag}
theorem sqT_mono {F F' : Hp} {p : Addr} {vs : List V} (h : ∀ p o, F p = some o → F' p = some o) (x : SqT K F p vs) : SqT K F' p vs := by
  rcases x with (x | ⟨o, x⟩) | x
  · exact .inl (.inl (h _ _ x))
  · exact .inl (.inr ⟨o, h _ _ x⟩)
  · exact .inr x
mutual
theorem Rep.mono {F F' : Hp} (h : ∀ p o, F p = some o → F' p = some o) : ∀ (d : D) {v : V}, Rep K F d v → Rep K F' d v
  | .non, _, x => by unfold Rep at *; exact x
  | .bl b, _, x => by unfold Rep at *; exact x
  | .int i, _, x => by unfold Rep at *; exact x
  | .str s, _, x => by unfold Rep at *; exact x
  | .ty n, _, x => by unfold Rep at *; exact x
  | .glob a, _, x => by unfold Rep at *; exact x
  | .tup ds, _, x => by
    unfold Rep at *
    obtain ⟨p, vs, e, q, r⟩ := x
    exact ⟨p, vs, e, sqT_mono h q, Reps.mono h ds r⟩
  | .lst ds, _, x => by
    unfold Rep at *
    obtain ⟨p, vs, e, q, r⟩ := x
    exact ⟨p, vs, e, h _ _ q, Reps.mono h ds r⟩
  | .dic kvs, _, x => by
    unfold Rep at *
    obtain ⟨p, vs, e, q, r⟩ := x
    exact ⟨p, vs, e, h _ _ q, RepK.mono h kvs r⟩
  | .ins C fs, _, x => by
    unfold Rep at *
    obtain ⟨p, dx, vs, e, q, r⟩ := x
    exact ⟨p, dx, vs, e, h _ _ q, RepF.mono h fs r⟩
theorem Reps.mono {F F' : Hp} (h : ∀ p o, F p = some o → F' p = some o) : ∀ (ds : List D) {vs : List V}, Reps K F ds vs → Reps K F' ds vs
  | [], _, x => by unfold Reps at *; exact x
  | d :: ds, _, x => by
    unfold Reps at *
    obtain ⟨v, ws, e, q, r⟩ := x
    exact ⟨v, ws, e, Rep.mono h d q, Reps.mono h ds r⟩
theorem RepK.mono {F F' : Hp} (h : ∀ p o, F p = some o → F' p = some o) : ∀ (ds : List (Key × D)) {vs : List (Key × V)}, RepK K F ds vs → RepK K F' ds vs
  | [], _, x => by unfold RepK at *; exact x
  | (k, d) :: ds, _, x => by
    unfold RepK at *
    obtain ⟨v, ws, e, q, r⟩ := x
    exact ⟨v, ws, e, Rep.mono h d q, RepK.mono h ds r⟩
theorem RepF.mono {F F' : Hp} (h : ∀ p o, F p = some o → F' p = some o) : ∀ (ds : List (Str × D)) {vs : List (Str × V)}, RepF K F ds vs → RepF K F' ds vs
  | [], _, x => by unfold RepF at *; exact x
  | (k, d) :: ds, _, x => by
    unfold RepF at *
    obtain ⟨v, ws, e, q, r⟩ := x
    exact ⟨v, ws, e, Rep.mono h d q, RepF.mono h ds r⟩
end

theorem Reps.length {F : Hp} : ∀ {ds : List D} {vs : List V}, Reps K F ds vs → vs.length = ds.length
  | [], _, x => by unfold Reps at x; rw [x]; rfl
  | d :: ds, _, x => by
    unfold Reps at x
    obtain ⟨v, ws, e, _, r⟩ := x
    rw [e, List.length_cons, List.length_cons, Reps.length r]
theorem Reps.get {F : Hp} : ∀ {ds : List D} {vs : List V} {i : Nat} {d : D}, Reps K F ds vs → ds[i]? = some d → ∃ v, vs[i]? = some v ∧ Rep K F d v
  | [], _, _, _, _, h => by simp at h
  | d :: ds, _, i, y, x, h => by
    unfold Reps at x
    obtain ⟨v, ws, e, q, r⟩ := x
    subst e
    cases i with
    | zero => simp at h; subst h; exact ⟨v, rfl, q⟩
    | succ i => simp at h; simpa using Reps.get r h
theorem Reps.get' {F : Hp} : ∀ {ds : List D} {vs : List V} {i : Nat} {v : V}, Reps K F ds vs → vs[i]? = some v → ∃ d, ds[i]? = some d ∧ Rep K F d v
  | [], _, _, _, x, h => by unfold Reps at x; subst x; simp at h
  | d :: ds, _, i, y, x, h => by
    unfold Reps at x
    obtain ⟨v, ws, e, q, r⟩ := x
    subst e
    cases i with
    | zero => simp at h; subst h; exact ⟨d, rfl, q⟩
    | succ i => simp at h; simpa using Reps.get' r h
theorem Reps.nil {F : Hp} : Reps K F [] [] := by unfold Reps; rfl
theorem Reps.cons {F : Hp} {d : D} {v : V} {ds : List D} {vs : List V} (q : Rep K F d v) (r : Reps K F ds vs) : Reps K F (d :: ds) (v :: vs) := by unfold Reps; exact ⟨v, vs, rfl, q, r⟩
theorem Reps.app {F : Hp} : ∀ {ds es : List D} {vs ws : List V}, Reps K F ds vs → Reps K F es ws → Reps K F (ds ++ es) (vs ++ ws)
  | [], _, _, _, x, y => by unfold Reps at x; subst x; exact y
  | d :: ds, _, _, _, x, y => by
    unfold Reps at x
    obtain ⟨v, ws, e, q, r⟩ := x
    subst e
    exact Reps.cons q (Reps.app r y)
theorem Reps.take {F : Hp} : ∀ {ds : List D} {vs : List V} (n : Nat), Reps K F ds vs → Reps K F (ds.take n) (vs.take n)
  | _, _, 0, _ => Reps.nil
  | [], _, n + 1, x => by unfold Reps at x; subst x; exact Reps.nil
  | d :: ds, _, n + 1, x => by
    unfold Reps at x
    obtain ⟨v, ws, e, q, r⟩ := x
    subst e
    exact Reps.cons q (Reps.take n r)
theorem Reps.drop {F : Hp} : ∀ {ds : List D} {vs : List V} (n : Nat), Reps K F ds vs → Reps K F (ds.drop n) (vs.drop n)
  | _, _, 0, x => x
  | [], _, n + 1, x => by unfold Reps at x; subst x; exact Reps.nil
  | d :: ds, _, n + 1, x => by
    unfold Reps at x
    obtain ⟨v, ws, e, q, r⟩ := x
    subst e
    exact Reps.drop n r
theorem Reps.set {F : Hp} : ∀ {ds : List D} {vs : List V} {d : D} {v : V} (n : Nat), Rep K F d v → Reps K F ds vs → Reps K F (ds.set n d) (vs.set n v)
  | [], _, _, _, n, q, x => by unfold Reps at x; subst x; exact Reps.nil
  | d :: ds, _, _, _, n, q, x => by
    unfold Reps at x
    obtain ⟨v, ws, e, q', r⟩ := x
    subst e
    cases n with
    | zero => exact Reps.cons q r
    | succ n => exact Reps.cons q' (Reps.set n q r)
theorem Reps.erase {F : Hp} : ∀ {ds : List D} {vs : List V} (n : Nat), Reps K F ds vs → Reps K F (ds.eraseIdx n) (vs.eraseIdx n)
  | [], _, n, x => by unfold Reps at x; subst x; exact Reps.nil
  | d :: ds, _, n, x => by
    unfold Reps at x
    obtain ⟨v, ws, e, q', r⟩ := x
    subst e
    cases n with
    | zero => exact r
    | succ n => exact Reps.cons q' (Reps.erase n r)

/-! ### the ghost world -/
structure Gh where
  H : Hp
  F : Hp
  O : Addr → Option Nat
  c : Nat
  /-- what stood before this frame began -/
  B : Addr → Prop
  /-- the draw state, where it is at hand -/
  S : Option Addr

/-- the draw state [big cells, all cells, count]: its nodes satisfy P -/
def StBy (P : Addr → Prop) (H : Hp) (c : Nat) (p : Addr) : Prop := ∃ (q r : Addr) (xs ys : List Int) (n : Int), p ≠ q ∧ p ≠ r ∧ q ≠ r ∧ P p ∧ P q ∧ P r ∧
  H p = some (.lst [.ref q, .ref r, .int n]) ∧ H q = some (.lst (xs.map V.int)) ∧ H r = some (.lst (ys.map V.int)) ∧ (∀ x ∈ xs, 0 ≤ x) ∧ ys ≠ [] ∧ 0 ≤ n ∧ n ≤ c
theorem StBy.up {P P' : Addr → Prop} {H H' : Hp} {c c' : Nat} {p : Addr} (h : StBy P H c p) (hh : ∀ p o, P p → H p = some o → H' p = some o ∧ P' p) (hc : c ≤ c') : StBy P' H' c' p := by
  obtain ⟨q, r, xs, ys, n, a1, a2, a3, b1, b2, b3, c1, c2, c3, d1, d2, d3, d4⟩ := h
  obtain ⟨e1, f1⟩ := hh p _ b1 c1
  obtain ⟨e2, f2⟩ := hh q _ b2 c2
  obtain ⟨e3, f3⟩ := hh r _ b3 c3
  exact ⟨q, r, xs, ys, n, a1, a2, a3, f1, f2, f3, e1, e2, e3, d1, d2, d3, by omega⟩

structure GOk (G : Gh) : Prop where
  sub : ∀ p o, G.F p = some o → G.H p = some o
  own : ∀ p i, G.O p = some i → G.F p = none ∧ ∃ o, G.H p = some o
  old : ∀ p, G.B p → ∃ o, G.H p = some o
  new : ∀ p i, G.O p = some (i + 1) → ¬ G.B p
  st : ∀ p, G.S = some p → StBy (fun p => G.O p = some 0) G.H G.c p

/-- what a step keeps: frozen things, and what belongs to nobody here -/
structure Step (n : Nat) (G G' : Gh) : Prop where
  fz : ∀ p o, G.F p = some o → G'.F p = some o
  fl : ∀ p o, G.H p = some o → G.O p = none → G.F p = none → G'.H p = some o ∧ G'.O p = none ∧ G'.F p = none
  bud : G'.c ≤ G.c + n
  dom : ∀ p o, G.H p = some o → ∃ o', G'.H p = some o'
  bs : G'.B = G.B
  ss : ∀ p, G.S = some p → G'.S = some p
  up : G.c ≤ G'.c
theorem Step.refl {G : Gh} : Step 0 G G := ⟨fun _ _ h => h, fun _ _ a b c => ⟨a, b, c⟩, Nat.le_refl _, fun _ o h => ⟨o, h⟩, rfl, fun _ h => h, Nat.le_refl _⟩
theorem Step.trans {a b : Nat} {G G1 G2 : Gh} (x : Step a G G1) (y : Step b G1 G2) : Step (a + b) G G2 :=
  ⟨fun p o h => y.fz p o (x.fz p o h), fun p o h1 h2 h3 => let ⟨q1, q2, q3⟩ := x.fl p o h1 h2 h3; y.fl p o q1 q2 q3, by have := x.bud; have := y.bud; omega,
    fun p o h => let ⟨o1, h1⟩ := x.dom p o h; y.dom p o1 h1, y.bs.trans x.bs, fun p h => y.ss p (x.ss p h), Nat.le_trans x.up y.up⟩
theorem Step.le {a b : Nat} {G G1 : Gh} (x : Step a G G1) (h : a ≤ b) : Step b G G1 := ⟨x.fz, x.fl, by have := x.bud; omega, x.dom, x.bs, x.ss, x.up⟩
theorem Step.new {n : Nat} {G G1 : Gh} (x : Step n G G1) {p : Addr} (h : G1.H p = none) : G.H p = none := by
  cases e : G.H p with
  | none => rfl
  | some o => obtain ⟨o', z⟩ := x.dom p o e; rw [h] at z; cases z

/-- an owned container whose node satisfies P -/
def Own (K : PySem.W.Frag) (P : Addr → Prop) (H F : Hp) : T → V → Prop
  | .lst ds, v => ∃ p vs, v = .ref p ∧ P p ∧ H p = some (.lst vs) ∧ F p = none ∧ Reps K F ds vs
  | .dic kvs, v => ∃ p ws, v = .ref p ∧ P p ∧ H p = some (.dK ws) ∧ F p = none ∧ RepK K F kvs ws

/-! ### values and slots -/
inductive Val where
  | d (x : D)
  | r (i : Nat)
  | st
/-- what a def hands back -/
inductive RV where
  | d (x : D)
  | o (t : T)
  | st
inductive Sl where
  | no
  | fz (x : D)
  | ow (t : T)
  | bw (t : T)
  | st
  | sc (ns : List Int)

def ValOk (K : PySem.W.Frag) (G : Gh) (σ : St) (v : V) : Val → Prop
  | .d x => Rep K G.F x v
  | .r i => σ[i]? = some (some v)
  | .st => ∃ p, v = .ref p ∧ G.S = some p
def SlOk (K : PySem.W.Frag) (G : Gh) (i : Nat) : Sl → Option V → Prop
  | .no, _ => True
  | .fz x, ov => ∃ v, ov = some v ∧ Rep K G.F x v
  | .ow t, ov => ∃ v, ov = some v ∧ Own K (fun p => G.O p = some (i + 1)) G.H G.F t v
  | .bw t, ov => ∃ v, ov = some v ∧ Own K (fun p => G.O p = none ∧ G.B p) G.H G.F t v
  | .st, ov => ∃ p, ov = some (.ref p) ∧ G.S = some p
  | .sc ns, ov => ∃ a, ov = some (.ref a) ∧ SqL K G.F a (ns.map V.int) ∧ G.S = none

structure Rel (K : PySem.W.Frag) (G : Gh) (σ : St) (R : List Sl) : Prop where
  ok : GOk G
  len : R.length = σ.length
  sl : ∀ i s, R[i]? = some s → ∃ ov, σ[i]? = some ov ∧ SlOk K G i s ov

/-- an exception: its class, its attributes -/
structure Ex where
  C : Addr
  fs : List (Str × D)
def ExOk (K : PySem.W.Frag) (G : Gh) (x : Ex) (cls : Value) (d : Option Addr) : Prop :=
  cls = .ref x.C ∧ (x.fs = [] ∨ ∃ da ws, d = some da ∧ G.H da = some (.xd ws) ∧ RepF K G.F x.fs ws)

/-! ### readings -/
abbrev RR := List Sl
/-- an expression; one that gives a new container; arguments; a statement -/
structure EDen where
  cost : Nat
  wp : RR → (Val → RR → Prop) → (Ex → RR → Prop) → Prop
structure FDen where
  cost : Nat
  wp : RR → (T → RR → Prop) → (Ex → RR → Prop) → Prop
structure ADen where
  cost : Nat
  wp : RR → (List Val → RR → Prop) → (Ex → RR → Prop) → Prop
structure TDen where
  cost : Nat
  wp : RR → (Bool → RR → Prop) → (Ex → RR → Prop) → Prop
structure OEnds where
  nx : RR → Prop
  rt : RV → RR → Prop
  bk : RR → Prop
  ct : RR → Prop
  ex : Ex → RR → Prop
structure SDen where
  cost : Nat
  wp : RR → OEnds → Prop
/-- as many draws are never made -/
def CM : Nat := 2 ^ 2000

/-- the wish about exceptions -/
def ExW (K : PySem.W.Frag) (W : WX) (n : Nat) (G : Gh) (σ : St) (E : Ex → RR → Prop) : Prop :=
  ∀ x cls d G' R', Step n G G' → Rel K G' σ R' → ExOk K G' x cls d → E x R' → W cls d σ G'.H

def tO (K : PySem.W.Frag) (W : WX) (de : EDen) : TE := fun σ H QH => ∃ G R Q E, G.H = H ∧ Rel K G σ R ∧ G.c + de.cost ≤ CM ∧ de.wp R Q E ∧ ExW K W de.cost G σ E ∧
  ∀ v G' R' x, Step de.cost G G' → Rel K G' σ R' → ValOk K G' σ v x → Q x R' → QH v G'.H
def OE (X : Cx) (W : WX) (e : Expr) (de : EDen) : Prop := PE X e (tO X.K W de)
def tOF (K : PySem.W.Frag) (W : WX) (de : FDen) : TE := fun σ H QH => ∃ G R Q E, G.H = H ∧ Rel K G σ R ∧ G.c + de.cost ≤ CM ∧ de.wp R Q E ∧ ExW K W de.cost G σ E ∧
  ∀ v G' R' t, Step de.cost G G' → Rel K G' σ R' → Own K (fun p => G'.O p = none ∧ G.H p = none) G'.H G'.F t v → Q t R' → QH v G'.H
def OF (X : Cx) (W : WX) (e : Expr) (de : FDen) : Prop := PE X e (tOF X.K W de)
def tOT (K : PySem.W.Frag) (W : WX) (de : TDen) : TT := fun σ H QH => ∃ G R Q E, G.H = H ∧ Rel K G σ R ∧ G.c + de.cost ≤ CM ∧ de.wp R Q E ∧ ExW K W de.cost G σ E ∧
  ∀ b G' R', Step de.cost G G' → Rel K G' σ R' → Q b R' → QH b G'.H
def OT (X : Cx) (W : WX) (e : Expr) (de : TDen) : Prop := PT X e (tOT X.K W de)
inductive ValsOk (K : PySem.W.Frag) (G : Gh) (σ : St) : List V → List Val → Prop
  | nil : ValsOk K G σ [] []
  | cons {v : V} {x : Val} {vs : List V} {xs : List Val} : ValOk K G σ v x → x ≠ .st → ValsOk K G σ vs xs → ValsOk K G σ (v :: vs) (x :: xs)
def tOA (K : PySem.W.Frag) (W : WX) (de : ADen) : TA := fun σ H QH => ∃ G R Q E, G.H = H ∧ Rel K G σ R ∧ G.c + de.cost ≤ CM ∧ de.wp R Q E ∧ ExW K W de.cost G σ E ∧
  ∀ vs G' R' xs, Step de.cost G G' → Rel K G' σ R' → ValsOk K G' σ vs xs → Q xs R' → QH vs G'.H
def OA (X : Cx) (W : WX) (es : List Expr) (de : ADen) : Prop := PA X es (tOA X.K W de)

def RvOk (K : PySem.W.Frag) (G : Gh) (v : V) : RV → Prop
  | .d x => Rep K G.F x v
  | .o t => Own K (fun p => G.O p = none ∧ ¬ G.B p) G.H G.F t v
  | .st => ∃ p, v = .ref p ∧ StBy (fun p => G.O p = none ∧ ¬ G.B p ∧ G.F p = none) G.H G.c p
def tOS (K : PySem.W.Frag) (W : WX) (sd : SDen) : TS := fun D σ H => ∃ G R N, G.H = H ∧ Rel K G σ R ∧ G.c + sd.cost ≤ CM ∧ sd.wp R N ∧
  (∀ σ' x cls d G' R', Step sd.cost G G' → Rel K G' σ' R' → ExOk K G' x cls d → N.ex x R' → W cls d σ' G'.H) ∧
  (∀ σ' G' R', Step sd.cost G G' → Rel K G' σ' R' → N.nx R' → D.nx σ' G'.H) ∧
  (∀ σ' G' R' v x, Step sd.cost G G' → Rel K G' σ' R' → RvOk K G' v x → N.rt x R' → D.rt v G'.H) ∧
  (∀ σ' G' R', Step sd.cost G G' → Rel K G' σ' R' → N.bk R' → D.bk σ' G'.H) ∧
  (∀ σ' G' R', Step sd.cost G G' → Rel K G' σ' R' → N.ct R' → D.ct σ' G'.H)
def OS (X : Cx) (W : WX) (st : Stmt) (sd : SDen) : Prop := PS X st (tOS X.K W sd)
def OSs (X : Cx) (W : WX) (st : List Stmt) (sd : SDen) : Prop := PSs X st (tOS X.K W sd)

theorem peImp {X : Cx} {e : Expr} {t t' : TE} (h : PE X e t) (i : ∀ σ H Q, t' σ H Q → t σ H Q) : PE X e t' := ⟨fun pins s σ H Q I q => h.run pins s σ H Q I (i σ H Q q)⟩
theorem ptImp {X : Cx} {e : Expr} {t t' : TT} (h : PT X e t) (i : ∀ σ H Q, t' σ H Q → t σ H Q) : PT X e t' := ⟨fun pins s σ H Q I q => h.run pins s σ H Q I (i σ H Q q)⟩
theorem paImp {X : Cx} {e : List Expr} {t t' : TA} (h : PA X e t) (i : ∀ σ H Q, t' σ H Q → t σ H Q) : PA X e t' := ⟨fun pos pins s σ H Q I q => h.run pos pins s σ H Q I (i σ H Q q)⟩
theorem psImp {X : Cx} {e : Stmt} {t t' : TS} (h : PS X e t) (i : ∀ D σ H, t' D σ H → t D σ H) : PS X e t' := ⟨fun pins s σ H D I q => h.run pins s σ H D I (i D σ H q)⟩
theorem pssImp {X : Cx} {e : List Stmt} {t t' : TS} (h : PSs X e t) (i : ∀ D σ H, t' D σ H → t D σ H) : PSs X e t' := ⟨fun pins s σ H D I q => h.run pins s σ H D I (i D σ H q)⟩
theorem ExW.step {W : WX} {a b n : Nat} {G G1 : Gh} {σ : St} {E : Ex → RR → Prop} (h : ExW K W n G σ E) (s : Step a G G1) (l : a + b ≤ n) : ExW K W b G1 σ E :=
  fun x cls d G' R' s' r e q => h x cls d G' R' ((s.trans s').le l) r e q

/-! ### how values live on -/
theorem Own.keep {P P' : Addr → Prop} {H F H' F' : Hp} {t : T} {v : V} (h : Own K P H F t v) (hf : ∀ p o, F p = some o → F' p = some o) (hk : ∀ p o, P p → H p = some o → F p = none → H' p = some o ∧ P' p ∧ F' p = none) : Own K P' H' F' t v := by
  cases t with
  | lst ds =>
    obtain ⟨p, vs, e, q, hh, n, r⟩ := h
    obtain ⟨a, b, c⟩ := hk p _ q hh n
    exact ⟨p, vs, e, b, a, c, Reps.mono hf ds r⟩
  | dic kvs =>
    obtain ⟨p, vs, e, q, hh, n, r⟩ := h
    obtain ⟨a, b, c⟩ := hk p _ q hh n
    exact ⟨p, vs, e, b, a, c, RepK.mono hf kvs r⟩
theorem Own.float {n : Nat} {G G' : Gh} {t : T} {v : V} (s : Step n G G') (h : Own K (fun p => G.O p = none) G.H G.F t v) : Own K (fun p => G'.O p = none) G'.H G'.F t v :=
  h.keep s.fz fun p o q hh nn => let ⟨a, b, c⟩ := s.fl p o hh q nn; ⟨a, b, c⟩
/-- a value that is no state lives on -/
theorem ValOk.step {n : Nat} {G G' : Gh} {σ : St} {v : V} {x : Val} (s : Step n G G') (hx : x ≠ .st) (h : ValOk K G σ v x) : ValOk K G' σ v x := by
  cases x with
  | d x => exact Rep.mono s.fz x h
  | r i => exact h
  | st => exact absurd rfl hx
theorem ValsOk.step {n : Nat} {G G' : Gh} {σ : St} (s : Step n G G') : ∀ {vs : List V} {xs : List Val}, ValsOk K G σ vs xs → ValsOk K G' σ vs xs
  | _, _, .nil => .nil
  | _, _, .cons a b c => .cons (a.step s b) b (c.step s)

/-! ### reading a value as data: the top node in the heap, what is in it frozen -/
def Top (K : PySem.W.Frag) (H F : Hp) : D → V → Prop
  | .tup ds, v => ∃ p vs, v = .ref p ∧ SqT K H p vs ∧ Reps K F ds vs
  | .lst ds, v => ∃ p vs, v = .ref p ∧ H p = some (.lst vs) ∧ Reps K F ds vs
  | .dic kvs, v => ∃ p ws, v = .ref p ∧ H p = some (.dK ws) ∧ RepK K F kvs ws
  | .ins C fs, v => ∃ p dx ws, v = .ref p ∧ H p = some (.ins C dx ws) ∧ RepF K F fs ws
  | d, v => Rep K F d v
theorem Top.of {H F : Hp} (sub : ∀ p o, F p = some o → H p = some o) {d : D} {v : V} (h : Rep K F d v) : Top K H F d v := by
  cases d with
  | tup ds => unfold Rep at h; obtain ⟨p, vs, e, q, r⟩ := h; exact ⟨p, vs, e, sqT_mono sub q, r⟩
  | lst ds => unfold Rep at h; obtain ⟨p, vs, e, q, r⟩ := h; exact ⟨p, vs, e, sub _ _ q, r⟩
  | dic ds => unfold Rep at h; obtain ⟨p, vs, e, q, r⟩ := h; exact ⟨p, vs, e, sub _ _ q, r⟩
  | ins C fs => unfold Rep at h; obtain ⟨p, dx, vs, e, q, r⟩ := h; exact ⟨p, dx, vs, e, sub _ _ q, r⟩
  | non => exact h
  | bl b => exact h
  | int i => exact h
  | str i => exact h
  | ty i => exact h
  | glob i => exact h
theorem Top.rep {H F : Hp} (sub : ∀ p o, F p = some o → H p = some o) {d : D} {v : V} (h : Top K H F d v) : Rep K H d v := by
  cases d with
  | tup ds => unfold Rep; obtain ⟨p, vs, e, q, r⟩ := h; exact ⟨p, vs, e, q, Reps.mono sub _ r⟩
  | lst ds => unfold Rep; obtain ⟨p, vs, e, q, r⟩ := h; exact ⟨p, vs, e, q, Reps.mono sub _ r⟩
  | dic ds => unfold Rep; obtain ⟨p, vs, e, q, r⟩ := h; exact ⟨p, vs, e, q, RepK.mono sub _ r⟩
  | ins C fs => unfold Rep; obtain ⟨p, dx, vs, e, q, r⟩ := h; exact ⟨p, dx, vs, e, q, RepF.mono sub _ r⟩
  | non => exact h
  | bl b => exact h
  | int i => exact h
  | str i => exact h
  | ty i => exact h
  | glob i => exact h
inductive Tops (K : PySem.W.Frag) (H F : Hp) : List D → List V → Prop
  | nil : Tops K H F [] []
  | cons {d : D} {v : V} {ds : List D} {vs : List V} : Top K H F d v → Tops K H F ds vs → Tops K H F (d :: ds) (v :: vs)
def slD : Sl → Option D
  | .fz x => some x
  | .ow t => some t.toD
  | .bw t => some t.toD
  | _ => none
def rdD (R : RR) : Val → Option D
  | .d x => some x
  | .r i => (R[i]?).bind slD
  | .st => none
def rdDs (R : RR) : List Val → Option (List D)
  | [] => some []
  | x :: xs => (rdD R x).bind fun d => (rdDs R xs).bind fun ds => some (d :: ds)
theorem Own.top {P : Addr → Prop} {G : Gh} {t : T} {v : V} (h : Own K P G.H G.F t v) : Top K G.H G.F t.toD v := by
  cases t with
  | lst ds => obtain ⟨p, vs, e, q, hh, n, r⟩ := h; exact ⟨p, vs, e, hh, r⟩
  | dic ds => obtain ⟨p, vs, e, q, hh, n, r⟩ := h; exact ⟨p, vs, e, hh, r⟩
theorem rd_top {G : Gh} {σ : St} {R : RR} {v : V} {x : Val} {d : D} (r : Rel K G σ R) (h : ValOk K G σ v x) (e : rdD R x = some d) : Top K G.H G.F d v := by
  cases x with
  | d y => cases e; exact Top.of r.ok.sub h
  | r i =>
    have e : (R[i]?).bind slD = some d := e
    cases hr : R[i]? with
    | none => rw [hr] at e; cases e
    | some s =>
      rw [hr] at e
      obtain ⟨ov, h1, h2⟩ := r.sl i s hr
      have h3 : σ[i]? = some (some v) := h
      rw [h3] at h1; cases h1
      cases s with
      | no => cases e
      | fz y => cases e; obtain ⟨w, e1, q⟩ := h2; cases e1; exact Top.of r.ok.sub q
      | ow t => cases e; obtain ⟨w, e1, q⟩ := h2; cases e1; exact q.top
      | bw t => cases e; obtain ⟨w, e1, q⟩ := h2; cases e1; exact q.top
      | st => cases e
      | sc ns => cases e
  | st => cases e
theorem rd_tops {G : Gh} {σ : St} {R : RR} (r : Rel K G σ R) : ∀ {vs : List V} {xs : List Val} {ds : List D}, ValsOk K G σ vs xs → rdDs R xs = some ds → Tops K G.H G.F ds vs
  | _, _, _, .nil, e => by cases e; exact .nil
  | _, _, ds, .cons (x := x) (xs := xs) a _ c, e => by
    unfold rdDs at e
    cases h1 : rdD R x with
    | none => rw [h1] at e; cases e
    | some d =>
      rw [h1] at e
      cases h2 : rdDs R xs with
      | none => rw [h2] at e; cases e
      | some es =>
        rw [h2] at e; cases e
        exact .cons (rd_top r a h1) (rd_tops r c h2)

/-! ### results of primitives -/
inductive Res where
  | s (d : D)
  | l (ds : List D)
  | t (ds : List D)
def Res.val : Res → Val
  | .s d => .d d
  | .l ds => .d (.lst ds)
  | .t ds => .d (.tup ds)
def ResOk (K : PySem.W.Frag) (F : Hp) (H : Hp) (QH : VK) : Res → Prop
  | .s d => ∀ u, Rep K F d u → QH u H
  | .l ds => ∀ p vs, H p = none → Reps K F ds vs → QH (.ref p) (upd H p (.lst vs))
  | .t ds => ∀ p vs, H p = none → Reps K F ds vs → QH (.ref p) (upd H p (.tup vs))

/-- a new object, frozen at once -/
def Gh.newF (G : Gh) (p : Addr) (o : HO) : Gh := ⟨upd G.H p o, upd G.F p o, G.O, G.c, G.B, G.S⟩
/-- a new object that belongs to nobody -/
def Gh.newN (G : Gh) (p : Addr) (o : HO) : Gh := ⟨upd G.H p o, G.F, G.O, G.c, G.B, G.S⟩
theorem GOk.none {G : Gh} (ok : GOk G) {p : Addr} (h : G.H p = none) : G.F p = none ∧ G.O p = none := by
  constructor
  · cases e : G.F p with
    | none => rfl
    | some o => rw [ok.sub p o e] at h; cases h
  · cases e : G.O p with
    | none => rfl
    | some i => obtain ⟨_, o, q⟩ := ok.own p i e; rw [h] at q; cases q
theorem upd_mono {H : Hp} {p : Addr} {o : HO} (h : H p = none) : ∀ q u, H q = some u → upd H p o q = some u := fun q u e => by
  rw [upd_ne (ne_of_none e h)]; exact e
theorem stepF {G : Gh} (ok : GOk G) {p : Addr} {o : HO} (h : G.H p = none) : Step 0 G (G.newF p o) :=
  ⟨upd_mono (ok.none h).1, fun q u e1 e2 e3 => ⟨upd_mono h q u e1, e2, by show upd G.F p o q = none; rw [upd_ne (ne_of_none e1 h)]; exact e3⟩, Nat.le_refl _, fun q u e => ⟨u, upd_mono h q u e⟩, rfl, fun _ z => z, Nat.le_refl _⟩
theorem stepN {G : Gh} (ok : GOk G) {p : Addr} {o : HO} (h : G.H p = none) : Step 0 G (G.newN p o) :=
  ⟨fun _ _ e => e, fun q u e1 e2 e3 => ⟨upd_mono h q u e1, e2, e3⟩, Nat.le_refl _, fun q u e => ⟨u, upd_mono h q u e⟩, rfl, fun _ z => z, Nat.le_refl _⟩
theorem gokF {G : Gh} (ok : GOk G) {p : Addr} {o : HO} (h : G.H p = none) : GOk (G.newF p o) := by
  refine ⟨fun q u e => ?_, fun q i e => ?_, fun q b => let ⟨u, e⟩ := ok.old q b; ⟨u, upd_mono h q u e⟩, ok.new, fun q e => (ok.st q e).up (fun r u a b => ⟨upd_mono h r u b, a⟩) (Nat.le_refl _)⟩
  · by_cases hq : q = p
    · subst hq
      have e : upd G.F q o q = some u := e
      show upd G.H q o q = some u
      rw [upd_same] at e ⊢; exact e
    · have e : upd G.F p o q = some u := e
      show upd G.H p o q = some u
      rw [upd_ne hq] at e ⊢
      exact ok.sub q u e
  · obtain ⟨a, u, b⟩ := ok.own q i e
    refine ⟨?_, u, upd_mono h q u b⟩
    show upd G.F p o q = none
    rw [upd_ne (ne_of_none b h)]; exact a
theorem gokN {G : Gh} (ok : GOk G) {p : Addr} {o : HO} (h : G.H p = none) : GOk (G.newN p o) :=
  ⟨fun q u e => upd_mono h q u (ok.sub q u e), fun q i e => let ⟨a, u, b⟩ := ok.own q i e; ⟨a, u, upd_mono h q u b⟩, fun q b => let ⟨u, e⟩ := ok.old q b; ⟨u, upd_mono h q u e⟩, ok.new, fun q e => (ok.st q e).up (fun r u a b => ⟨upd_mono h r u b, a⟩) (Nat.le_refl _)⟩
/-- a slot lives on where every labelled object is kept -/
theorem SlOk.up {G G' : Gh} {i : Nat} {s : Sl} {ov : Option V} (h : SlOk K G i s ov) (hf : ∀ p o, G.F p = some o → G'.F p = some o)
    (hl : ∀ p o j, G.O p = some j → G.H p = some o → G'.H p = some o ∧ G'.O p = some j ∧ G'.F p = none)
    (hn : ∀ p o, G.O p = none → G.F p = none → G.H p = some o → G'.H p = some o ∧ G'.O p = none ∧ G'.F p = none) (hc : G.c ≤ G'.c) (hb : ∀ p, G.B p → G'.B p := by exact fun _ z => z) (hs : G'.S = G.S := by rfl) : SlOk K G' i s ov := by
  cases s with
  | no => trivial
  | fz x => obtain ⟨v, e, q⟩ := h; exact ⟨v, e, Rep.mono hf x q⟩
  | ow t =>
    obtain ⟨v, e, q⟩ := h
    exact ⟨v, e, q.keep hf fun p o a b c => let ⟨x, y, z⟩ := hl p o _ a b; ⟨x, y, z⟩⟩
  | bw t =>
    obtain ⟨v, e, q⟩ := h
    exact ⟨v, e, q.keep hf fun p o a b c => let ⟨x, y, z⟩ := hn p o a.1 c b; ⟨x, ⟨y, hb p a.2⟩, z⟩⟩
  | st => obtain ⟨v, e, q⟩ := h; exact ⟨v, e, hs.trans q⟩
  | sc ns =>
    obtain ⟨a, e, q, sn⟩ := h
    refine ⟨a, e, ?_, hs.trans sn⟩
    rcases q with (q | ⟨o, q⟩) | q
    · exact .inl (.inl (hf _ _ q))
    · exact .inl (.inr ⟨o, hf _ _ q⟩)
    · exact .inr q
theorem relF {G : Gh} {σ : St} {R : RR} (r : Rel K G σ R) {p : Addr} {o : HO} (h : G.H p = none) : Rel K (G.newF p o) σ R :=
  ⟨gokF r.ok h, r.len, fun i s e => let ⟨ov, a, b⟩ := r.sl i s e
    ⟨ov, a, b.up (G' := G.newF p o) (stepF r.ok h).fz (fun q u j e1 e2 => ⟨upd_mono h q u e2, e1, by show upd G.F p o q = none; rw [upd_ne (ne_of_none e2 h)]; exact (r.ok.own q j e1).1⟩)
      (fun q u e1 e2 e3 => (stepF r.ok h).fl q u e3 e1 e2) (Nat.le_refl _)⟩⟩
theorem relN {G : Gh} {σ : St} {R : RR} (r : Rel K G σ R) {p : Addr} {o : HO} (h : G.H p = none) : Rel K (G.newN p o) σ R :=
  ⟨gokN r.ok h, r.len, fun i s e => let ⟨ov, a, b⟩ := r.sl i s e
    ⟨ov, a, b.up (G' := G.newN p o) (fun _ _ z => z) (fun q u j e1 e2 => ⟨upd_mono h q u e2, e1, (r.ok.own q j e1).1⟩)
      (fun q u e1 e2 e3 => ⟨upd_mono h q u e3, e1, e2⟩) (Nat.le_refl _)⟩⟩

theorem res_fin {n : Nat} {G0 G : Gh} {σ : St} {R : RR} {QH : VK} {res : Res} (s : Step n G0 G) (r : Rel K G σ R)
    (h : ∀ v G' R' x, Step n G0 G' → Rel K G' σ R' → ValOk K G' σ v x → (x = res.val ∧ R' = R) → QH v G'.H) : ResOk K G.F G.H QH res := by
  cases res with
  | s d => exact fun u q => h u G R (.d d) s r q ⟨rfl, rfl⟩
  | l ds =>
    intro p vs hp q
    have z := h (.ref p) (G.newF p (.lst vs)) R (.d (.lst ds)) ((s.trans (stepF r.ok hp)).le (by omega)) (relF r hp)
      (by show Rep K _ (.lst ds) _; unfold Rep; exact ⟨p, vs, rfl, upd_same, Reps.mono (stepF r.ok hp).fz ds q⟩) ⟨rfl, rfl⟩
    exact z
  | t ds =>
    intro p vs hp q
    have z := h (.ref p) (G.newF p (.tup vs)) R (.d (.tup ds)) ((s.trans (stepF r.ok hp)).le (by omega)) (relF r hp)
      (by show Rep K _ (.tup ds) _; unfold Rep; exact ⟨p, vs, rfl, SqT.of upd_same, Reps.mono (stepF r.ok hp).fz ds q⟩) ⟨rfl, rfl⟩
    exact z
theorem res_finF {n : Nat} {G0 G : Gh} {σ : St} {R : RR} {QH : VK} {ds : List D} (s : Step n G0 G) (r : Rel K G σ R)
    (h : ∀ v G' R' t, Step n G0 G' → Rel K G' σ R' → Own K (fun p => G'.O p = none ∧ G0.H p = none) G'.H G'.F t v → (t = .lst ds ∧ R' = R) → QH v G'.H) : ResOk K G.F G.H QH (.l ds) := by
  intro p vs hp q
  have hp0 : G0.H p = none := s.new hp
  exact h (.ref p) (G.newN p (.lst vs)) R (.lst ds) ((s.trans (stepN r.ok hp)).le (by omega)) (relN r hp) ⟨p, vs, rfl, ⟨(r.ok.none hp).2, hp0⟩, upd_same, (r.ok.none hp).1, q⟩ ⟨rfl, rfl⟩
end OW
namespace OW
open PySem PySem.Spec L2
variable {X : Cx} {W : WX} {K : PySem.W.Frag} {a b e : Expr} {es : List Expr} {pos : Pos} {da db de : EDen}

/-! ### constants, names -/
def eC (x : D) : EDen := ⟨0, fun R Q _ => Q (.d x) R⟩
theorem oe_c {v : V} {x : D} (h : PE X e (tC v)) (r : ∀ F, Rep X.K F x v) : OE X W e (eC x) :=
  peImp h fun σ H QH ⟨G, R, Q, E, e1, rel, _, wp, _, k⟩ => by
    subst e1
    exact k v G R (.d x) Step.refl rel (r _) wp
def vVal (i : Nat) : Sl → Option Val
  | .no => none
  | .fz x => some (.d x)
  | _ => some (.r i)
def eV (i : Nat) : EDen := ⟨0, fun R Q _ => ∃ x, (R[i]?).bind (vVal i) = some x ∧ Q x R⟩
theorem oe_v {i : Nat} (h : PE X e (tVar i)) : OE X W e (eV i) :=
  peImp h fun σ H QH ⟨G, R, Q, E, e1, rel, _, ⟨x, hx, wp⟩, _, k⟩ => by
    subst e1
    cases hr : R[i]? with
    | none => rw [hr] at hx; cases hx
    | some s =>
      rw [hr] at hx
      have hx : vVal i s = some x := hx
      obtain ⟨ov, h1, h2⟩ := rel.sl i s hr
      cases s with
      | no => cases hx
      | fz y =>
        cases hx
        obtain ⟨v, e2, q⟩ := h2
        subst e2
        exact ⟨v, h1, k v G R (.d y) Step.refl rel q wp⟩
      | ow t => cases hx; obtain ⟨v, e2, q⟩ := h2; subst e2; exact ⟨v, h1, k v G R (.r i) Step.refl rel h1 wp⟩
      | bw t => cases hx; obtain ⟨v, e2, q⟩ := h2; subst e2; exact ⟨v, h1, k v G R (.r i) Step.refl rel h1 wp⟩
      | st => cases hx; obtain ⟨v, e2, q⟩ := h2; subst e2; exact ⟨_, h1, k _ G R (.r i) Step.refl rel h1 wp⟩
      | sc ns => cases hx; obtain ⟨v, e2, q⟩ := h2; subst e2; exact ⟨_, h1, k _ G R (.r i) Step.refl rel h1 wp⟩

/-! ### primitives of two values -/
def Sub (F H : Hp) : Prop := ∀ p o, F p = some o → H p = some o
def Snd2 (K : PySem.W.Frag) (r : R2) (prim : D → D → Option Res) : Prop := ∀ d1 d2 res v w H F QH, Sub F H → prim d1 d2 = some res → Top K H F d1 v → Top K H F d2 w → ResOk K F H QH res → r v w H QH
def dP2 (prim : D → D → Option Res) (da db : EDen) : EDen := ⟨da.cost + db.cost, fun R Q E => da.wp R (fun x R1 => db.wp R1 (fun y R2 => ∃ d1 d2 res, rdD R2 x = some d1 ∧ rdD R2 y = some d2 ∧ prim d1 d2 = some res ∧ Q res.val R2) E) E⟩
def fP2 (prim : D → D → Option Res) (da db : EDen) : FDen := ⟨da.cost + db.cost, fun R Q E => da.wp R (fun x R1 => db.wp R1 (fun y R2 => ∃ d1 d2 ds, rdD R2 x = some d1 ∧ rdD R2 y = some d2 ∧ prim d1 d2 = some (.l ds) ∧ Q (.lst ds) R2) E) E⟩
theorem rd_nost {R : RR} {x : Val} {d : D} (h : rdD R x = some d) : x ≠ .st := fun z => by subst z; cases h
theorem p2_core {r : R2} {prim : D → D → Option Res} (hp : Snd2 K r prim) (σ : St) (H : Hp) (QH : VK) (h : tO K W (dP2 prim da db) σ H QH) : tOp r (tO K W da) (tO K W db) σ H QH := by
  obtain ⟨G, R, Q, E, e1, rel, bud, wp, ex, k⟩ := h
  have bud : G.c + (da.cost + db.cost) ≤ CM := bud
  refine ⟨G, R, _, E, e1, rel, by omega, wp, fun x cls d G' R' s => ex x cls d G' R' (s.le (Nat.le_add_right _ _)), fun v G1 R1 x s1 r1 v1 wp1 => ?_⟩
  refine ⟨G1, R1, _, E, rfl, r1, by have := s1.bud; omega, wp1, ex.step s1 (Nat.le_refl _), fun w G2 R2 y s2 r2 v2 q => ?_⟩
  obtain ⟨d1, d2, res, e2, e3, e4, q⟩ := q
  have s12 := s1.trans s2
  exact hp d1 d2 res v w G2.H G2.F QH r2.ok.sub e4 (rd_top r2 (v1.step s2 (rd_nost e2)) e2) (rd_top r2 v2 e3)
    (res_fin s12 r2 fun v' G' R' x' s' r' vx ⟨e5, e6⟩ => k v' G' R' x' s' r' vx (by rw [e5, e6]; exact q))
theorem f2_core {r : R2} {prim : D → D → Option Res} (hp : Snd2 K r prim) (σ : St) (H : Hp) (QH : VK) (h : tOF K W (fP2 prim da db) σ H QH) : tOp r (tO K W da) (tO K W db) σ H QH := by
  obtain ⟨G, R, Q, E, e1, rel, bud, wp, ex, k⟩ := h
  have bud : G.c + (da.cost + db.cost) ≤ CM := bud
  refine ⟨G, R, _, E, e1, rel, by omega, wp, fun x cls d G' R' s => ex x cls d G' R' (s.le (Nat.le_add_right _ _)), fun v G1 R1 x s1 r1 v1 wp1 => ?_⟩
  refine ⟨G1, R1, _, E, rfl, r1, by have := s1.bud; omega, wp1, ex.step s1 (Nat.le_refl _), fun w G2 R2 y s2 r2 v2 q => ?_⟩
  obtain ⟨d1, d2, res, e2, e3, e4, q⟩ := q
  have s12 := s1.trans s2
  exact hp d1 d2 _ v w G2.H G2.F QH r2.ok.sub e4 (rd_top r2 (v1.step s2 (rd_nost e2)) e2) (rd_top r2 v2 e3)
    (res_finF s12 r2 fun v' G' R' x' s' r' vx ⟨e5, e6⟩ => k v' G' R' x' s' r' vx (by rw [e5, e6]; exact q))
theorem oe_bin {op : Operator} {r : R2} {prim : D → D → Option Res} (ho : OpR X (binaryOp op) r) (hp : Snd2 X.K r prim) (ha : OE X W a da) (hb : OE X W b db) : OE X W (.BinOp a op b pos) (dP2 prim da db) := peImp (pe_op ho ha hb) (p2_core hp)
theorem of_bin {op : Operator} {r : R2} {prim : D → D → Option Res} (ho : OpR X (binaryOp op) r) (hp : Snd2 X.K r prim) (ha : OE X W a da) (hb : OE X W b db) : OF X W (.BinOp a op b pos) (fP2 prim da db) := peImp (pe_op ho ha hb) (f2_core hp)
theorem oe_cmp {op : CmpOp} {r : R2} {prim : D → D → Option Res} (ho : OpR X (compareOp op) r) (hp : Snd2 X.K r prim) (ha : OE X W a da) (hb : OE X W b db) (hm : behindInMarks op b = false) : OE X W (.Compare a [op] [b] pos) (dP2 prim da db) := peImp (pe_cmpR ho ha hb hm) (p2_core hp)
theorem oe_ix {r : R2} {prim : D → D → Option Res} (ho : IxR X r) (hp : Snd2 X.K r prim) (ha : OE X W a da) (hb : OE X W b db) (hs : PlainIx b) : OE X W (.Subscript a b pos) (dP2 prim da db) := peImp (pe_ix ho ha hb hs) (p2_core hp)

/-! ### tests -/
def tV (de : EDen) : TDen := ⟨de.cost, fun R Q E => de.wp R (fun x R' => ∃ k, x = .d (.bl k) ∧ Q k R') E⟩
theorem tv_core (σ : St) (H : Hp) (QH : Bool → Hp → Prop) (h : tOT K W (tV de) σ H QH) : tO K W de σ H fun x H' => ∃ k, x = .bl k ∧ QH k H' := by
  obtain ⟨G, R, Q, E, e1, rel, bud, wp, ex, k⟩ := h
  refine ⟨G, R, _, E, e1, rel, bud, wp, ex, fun v G1 R1 x s1 r1 v1 q => ?_⟩
  obtain ⟨kk, e2, q⟩ := q
  subst e2
  have v1 : v = .bl kk := by have := v1; unfold ValOk Rep at this; exact this
  exact ⟨kk, v1, k kk G1 R1 s1 r1 q⟩
theorem ot_v (h : OE X W e de) (he : ∀ whole, isTrue e X.env whole = (do let v ← whole; standAt e.pos; holding [v] (truthy v)) := by intro _; rfl) : OT X W e (tV de) := ptImp (pt_val h he) fun σ H Q z => tv_core σ H Q z
theorem ot_cmp {op : CmpOp} {r : R2} {prim : D → D → Option Res} (ho : OpR X (compareOp op) r) (hp : Snd2 X.K r prim) (ha : OE X W a da) (hb : OE X W b db) (hm : behindInMarks op b = false) : OT X W (.Compare a [op] [b] pos) (tV (dP2 prim da db)) :=
  ptImp (pt_cmpR ho ha hb hm) fun σ H Q z => p2_core hp _ _ _ (tv_core σ H Q z)
def OW_ (X : Cx) (W : WX) (e : Expr) (de : TDen) : Prop := PW X e (tOT X.K W de)
theorem pwImp {X : Cx} {e : Expr} {t t' : TT} (h : PW X e t) (i : ∀ σ H Q, t' σ H Q → t σ H Q) : PW X e t' := ⟨fun wh pins s σ H Q I q => h.run wh pins s σ H Q I (i σ H Q q)⟩
variable {ta tb : TDen} {rest : List Expr}
def tAnd' (ta tb : TDen) : TDen := ⟨ta.cost + tb.cost, fun R Q E => ta.wp R (fun c R1 => if c = true then tb.wp R1 Q E else Q false R1) E⟩
def tOr' (ta tb : TDen) : TDen := ⟨ta.cost + tb.cost, fun R Q E => ta.wp R (fun c R1 => if c = true then Q true R1 else tb.wp R1 Q E) E⟩
def tNot' (ta : TDen) : TDen := ⟨ta.cost, fun R Q E => ta.wp R (fun c R1 => Q (!c) R1) E⟩
theorem ow_and1 (h : OT X W a ta) : OW_ X W (.BoolOp .And [a] pos) ta := pw_and1 h
theorem ow_or1 (h : OT X W a ta) : OW_ X W (.BoolOp .Or [a] pos) ta := pw_or1 h
theorem ow_and (ha : OT X W a ta) (hb : OW_ X W (.BoolOp .And (b :: rest) pos) tb) : OW_ X W (.BoolOp .And (a :: b :: rest) pos) (tAnd' ta tb) :=
  pwImp (pw_and ha hb) fun σ H QH ⟨G, R, Q, E, e1, rel, bud, wp, ex, k⟩ => by
    have bud : G.c + (ta.cost + tb.cost) ≤ CM := bud
    refine ⟨G, R, _, E, e1, rel, by omega, wp, fun x cls d G' R' s => ex x cls d G' R' (s.le (Nat.le_add_right _ _)), fun c G1 R1 s1 r1 q => ?_⟩
    cases c with
    | true => exact ⟨G1, R1, _, E, rfl, r1, by have := s1.bud; omega, q, ex.step s1 (Nat.le_refl _), fun c G2 R2 s2 r2 q => k c G2 R2 (s1.trans s2) r2 q⟩
    | false => exact k false G1 R1 (s1.le (Nat.le_add_right _ _)) r1 q
theorem ow_or (ha : OT X W a ta) (hb : OW_ X W (.BoolOp .Or (b :: rest) pos) tb) : OW_ X W (.BoolOp .Or (a :: b :: rest) pos) (tOr' ta tb) :=
  pwImp (pw_or ha hb) fun σ H QH ⟨G, R, Q, E, e1, rel, bud, wp, ex, k⟩ => by
    have bud : G.c + (ta.cost + tb.cost) ≤ CM := bud
    refine ⟨G, R, _, E, e1, rel, by omega, wp, fun x cls d G' R' s => ex x cls d G' R' (s.le (Nat.le_add_right _ _)), fun c G1 R1 s1 r1 q => ?_⟩
    cases c with
    | true => exact k true G1 R1 (s1.le (Nat.le_add_right _ _)) r1 q
    | false => exact ⟨G1, R1, _, E, rfl, r1, by have := s1.bud; omega, q, ex.step s1 (Nat.le_refl _), fun c G2 R2 s2 r2 q => k c G2 R2 (s1.trans s2) r2 q⟩
theorem ot_w (h : OW_ X W e ta) : OT X W e ta := h.pt
theorem ot_not (ha : OT X W a ta) : OT X W (.UnaryOp .Not a pos) (tNot' ta) :=
  ptImp (pt_not ha) fun σ H QH ⟨G, R, Q, E, e1, rel, bud, wp, ex, k⟩ => ⟨G, R, _, E, e1, rel, bud, wp, ex, fun c G1 R1 s1 r1 q => k (!c) G1 R1 s1 r1 q⟩
/-- a op b op' c as a test -/
def dCh (p p' : D → D → Option Res) (da db dc : EDen) : EDen := ⟨da.cost + (db.cost + dc.cost), fun R Q E => da.wp R (fun x R1 => db.wp R1 (fun y R2 => ∃ d1 d2 k, rdD R2 x = some d1 ∧ rdD R2 y = some d2 ∧ p d1 d2 = some (.s (.bl k)) ∧
  (if k = true then dc.wp R2 (fun z R3 => ∃ d2 d3 res, rdD R3 y = some d2 ∧ rdD R3 z = some d3 ∧ p' d2 d3 = some res ∧ Q res.val R3) E else Q (.d (.bl false)) R2)) E) E⟩
theorem ch_core {c : Expr} {dc : EDen} {r r' : R2} {p p' : D → D → Option Res} (hp : Snd2 K r p) (hp' : Snd2 K r' p') (σ : St) (H : Hp) (QH : VK) (h : tO K W (dCh p p' da db dc) σ H QH) : tChain r r' (tO K W da) (tO K W db) (tO K W dc) σ H QH := by
  obtain ⟨G, R, Q, E, e1, rel, bud, wp, ex, k⟩ := h
  have bud : G.c + (da.cost + (db.cost + dc.cost)) ≤ CM := bud
  refine ⟨G, R, _, E, e1, rel, by omega, wp, fun x cls d G' R' s => ex x cls d G' R' (s.le (Nat.le_add_right _ _)), fun v G1 R1 x s1 r1 v1 wp1 => ?_⟩
  refine ⟨G1, R1, _, E, rfl, r1, by have := s1.bud; omega, wp1, ex.step s1 (Nat.add_le_add_left (Nat.le_add_right _ _) _), fun w G2 R2 y s2 r2 v2 q => ?_⟩
  obtain ⟨d1, d2, kk, e2, e3, e4, q⟩ := q
  have s12 := s1.trans s2
  refine hp d1 d2 _ v w G2.H G2.F _ r2.ok.sub e4 (rd_top r2 (v1.step s2 (rd_nost e2)) e2) (rd_top r2 v2 e3) fun u hu => ?_
  have hu : u = .bl kk := by unfold Rep at hu; exact hu
  refine ⟨kk, hu, ?_⟩
  cases kk with
  | false => exact k (.bl false) G2 R2 (.d (.bl false)) (s12.le (by show _ ≤ da.cost + (db.cost + dc.cost); omega)) r2 (by show Rep _ _ _ _; unfold Rep; rfl) q
  | true =>
    refine ⟨G2, R2, _, E, rfl, r2, by have := s12.bud; omega, q, ex.step s12 (by show _ ≤ da.cost + (db.cost + dc.cost); omega), fun w' G3 R3 z s3 r3 v3 q => ?_⟩
    obtain ⟨d2', d3, res, e5, e6, e7, q⟩ := q
    exact hp' d2' d3 res w w' G3.H G3.F QH r3.ok.sub e7 (rd_top r3 (v2.step s3 (rd_nost e5)) e5) (rd_top r3 v3 e6)
      (res_fin ((s12.trans s3).le (by show _ ≤ da.cost + (db.cost + dc.cost); omega)) r3 fun v' G' R' x' s' r' vx ⟨e8, e9⟩ => k v' G' R' x' s' r' vx (by rw [e8, e9]; exact q))
theorem ot_chain {c : Expr} {dc : EDen} {op op' : CmpOp} {r r' : R2} {p p' : D → D → Option Res} (ho : OpR X (compareOp op) r) (ho' : OpR X (compareOp op') r') (hp : Snd2 X.K r p) (hp' : Snd2 X.K r' p') (ha : OE X W a da) (hb : OE X W b db) (hc : OE X W c dc)
    (hm : lastMarks [op, op'] [b, c] = false := by with_unfolding_all rfl) : OT X W (.Compare a [op, op'] [b, c] pos) (tV (dCh p p' da db dc)) :=
  ptImp (pt_chain ho ho' ha hb hc hm) fun σ H Q z => ch_core (c := c) hp hp' _ _ _ (tv_core σ H Q z)
theorem oe_chain {c : Expr} {dc : EDen} {op op' : CmpOp} {r r' : R2} {p p' : D → D → Option Res} (ho : OpR X (compareOp op) r) (ho' : OpR X (compareOp op') r') (hp : Snd2 X.K r p) (hp' : Snd2 X.K r' p') (ha : OE X W a da) (hb : OE X W b db) (hc : OE X W c dc)
    (hm : lastMarks [op, op'] [b, c] = false := by with_unfolding_all rfl) : OE X W (.Compare a [op, op'] [b, c] pos) (dCh p p' da db dc) :=
  peImp (pe_chain ho ho' ha hb hc hm) fun σ H Q z => ch_core (c := c) hp hp' _ _ _ z

/-! ### and, or, not, if as values -/
def eAnd (da db : EDen) : EDen := ⟨da.cost + db.cost, fun R Q E => da.wp R (fun x R1 => ∃ k, x = .d (.bl k) ∧ if k = true then db.wp R1 Q E else Q (.d (.bl false)) R1) E⟩
def eOr (da db : EDen) : EDen := ⟨da.cost + db.cost, fun R Q E => da.wp R (fun x R1 => ∃ k, x = .d (.bl k) ∧ if k = true then Q (.d (.bl true)) R1 else db.wp R1 Q E) E⟩
def eNot (da : EDen) : EDen := ⟨da.cost, fun R Q E => da.wp R (fun x R1 => ∃ k, x = .d (.bl k) ∧ Q (.d (.bl (!k))) R1) E⟩
theorem bl_of {G : Gh} {σ : St} {v : V} {k : Bool} (h : ValOk K G σ v (.d (.bl k))) : v = .bl k := by unfold ValOk Rep at h; exact h
theorem oe_one {op : BoolOp} (h : OE X W a da) : OE X W (.BoolOp op [a] pos) da := pe_one h
theorem oe_and (ha : OE X W a da) (hb : OE X W (.BoolOp .And (b :: rest) pos) db) : OE X W (.BoolOp .And (a :: b :: rest) pos) (eAnd da db) :=
  peImp (pe_and ha hb) fun σ H QH ⟨G, R, Q, E, e1, rel, bud, wp, ex, k⟩ => by
    have bud : G.c + (da.cost + db.cost) ≤ CM := bud
    refine ⟨G, R, _, E, e1, rel, by omega, wp, fun x cls d G' R' s => ex x cls d G' R' (s.le (Nat.le_add_right _ _)), fun v G1 R1 x s1 r1 v1 q => ?_⟩
    obtain ⟨kk, e2, q⟩ := q
    subst e2
    refine ⟨kk, bl_of v1, ?_⟩
    cases kk with
    | true => exact ⟨G1, R1, _, E, rfl, r1, by have := s1.bud; omega, q, ex.step s1 (Nat.le_refl _), fun v G2 R2 x s2 r2 v2 q => k v G2 R2 x (s1.trans s2) r2 v2 q⟩
    | false => exact k _ G1 R1 _ (s1.le (Nat.le_add_right _ _)) r1 (by show Rep _ _ _ _; unfold Rep; rfl) q
theorem oe_or (ha : OE X W a da) (hb : OE X W (.BoolOp .Or (b :: rest) pos) db) : OE X W (.BoolOp .Or (a :: b :: rest) pos) (eOr da db) :=
  peImp (pe_or ha hb) fun σ H QH ⟨G, R, Q, E, e1, rel, bud, wp, ex, k⟩ => by
    have bud : G.c + (da.cost + db.cost) ≤ CM := bud
    refine ⟨G, R, _, E, e1, rel, by omega, wp, fun x cls d G' R' s => ex x cls d G' R' (s.le (Nat.le_add_right _ _)), fun v G1 R1 x s1 r1 v1 q => ?_⟩
    obtain ⟨kk, e2, q⟩ := q
    subst e2
    refine ⟨kk, bl_of v1, ?_⟩
    cases kk with
    | false => exact ⟨G1, R1, _, E, rfl, r1, by have := s1.bud; omega, q, ex.step s1 (Nat.le_refl _), fun v G2 R2 x s2 r2 v2 q => k v G2 R2 x (s1.trans s2) r2 v2 q⟩
    | true => exact k _ G1 R1 _ (s1.le (Nat.le_add_right _ _)) r1 (by show Rep _ _ _ _; unfold Rep; rfl) q
theorem oe_not (ha : OE X W a da) : OE X W (.UnaryOp .Not a pos) (eNot da) :=
  peImp (pe_not ha) fun σ H QH ⟨G, R, Q, E, e1, rel, bud, wp, ex, k⟩ => by
    refine ⟨G, R, _, E, e1, rel, bud, wp, ex, fun v G1 R1 x s1 r1 v1 q => ?_⟩
    obtain ⟨kk, e2, q⟩ := q
    subst e2
    exact ⟨kk, bl_of v1, k _ G1 R1 _ s1 r1 (by show Rep _ _ _ _; unfold Rep; rfl) q⟩
def eIf (t : TDen) (da db : EDen) : EDen := ⟨t.cost + (da.cost + db.cost), fun R Q E => t.wp R (fun c R1 => if c = true then da.wp R1 Q E else db.wp R1 Q E) E⟩
theorem oe_if {c : Expr} (hc : OT X W c ta) (ha : OE X W a da) (hb : OE X W b db) : OE X W (.IfExp c a b pos) (eIf ta da db) :=
  peImp (pe_ifExp hc ha hb) fun σ H QH ⟨G, R, Q, E, e1, rel, bud, wp, ex, k⟩ => by
    have bud : G.c + (ta.cost + (da.cost + db.cost)) ≤ CM := bud
    refine ⟨G, R, _, E, e1, rel, by omega, wp, fun x cls d G' R' s => ex x cls d G' R' (s.le (Nat.le_add_right _ _)), fun c G1 R1 s1 r1 q => ?_⟩
    cases c with
    | true => exact ⟨G1, R1, _, E, rfl, r1, by have := s1.bud; omega, q, ex.step s1 (by show _ ≤ ta.cost + (da.cost + db.cost); omega), fun v G2 R2 x s2 r2 v2 q => k v G2 R2 x ((s1.trans s2).le (by show _ ≤ ta.cost + (da.cost + db.cost); omega)) r2 v2 q⟩
    | false => exact ⟨G1, R1, _, E, rfl, r1, by have := s1.bud; omega, q, ex.step s1 (by show _ ≤ ta.cost + (da.cost + db.cost); omega), fun v G2 R2 x s2 r2 v2 q => k v G2 R2 x ((s1.trans s2).le (by show _ ≤ ta.cost + (da.cost + db.cost); omega)) r2 v2 q⟩

/-! ### arguments -/
variable {ad : ADen}
def aN : ADen := ⟨0, fun R Q _ => Q [] R⟩
def aS (da : EDen) (ad : ADen) : ADen := ⟨da.cost + ad.cost, fun R Q E => da.wp R (fun x R1 => x ≠ .st ∧ ad.wp R1 (fun xs R2 => Q (x :: xs) R2) E) E⟩
theorem oa_nil : OA X W [] aN := paImp pa_nil fun σ H QH ⟨G, R, Q, E, e1, rel, bud, wp, ex, k⟩ => by
  subst e1; exact k [] G R [] Step.refl rel .nil wp
theorem oa_cons (ha : OE X W e da) (hr : OA X W es ad) (hs : starEach (e :: es) X.env = (false, eval e X.env) :: starEach es X.env := by rfl) : OA X W (e :: es) (aS da ad) :=
  paImp (pa_cons ha hr hs) fun σ H QH ⟨G, R, Q, E, e1, rel, bud, wp, ex, k⟩ => by
    have bud : G.c + (da.cost + ad.cost) ≤ CM := bud
    refine ⟨G, R, _, E, e1, rel, by omega, wp, fun x cls d G' R' s => ex x cls d G' R' (s.le (Nat.le_add_right _ _)), fun v G1 R1 x s1 r1 v1 q => ?_⟩
    obtain ⟨ns, q⟩ := q
    exact ⟨G1, R1, _, E, rfl, r1, by have := s1.bud; omega, q, ex.step s1 (Nat.le_refl _), fun vs G2 R2 xs s2 r2 v2 q => k _ G2 R2 _ (s1.trans s2) r2 (.cons (v1.step s2 ns) ns v2) q⟩
def SndA (K : PySem.W.Frag) (r : List V → Hp → VK → Prop) (prim : List D → Option Res) : Prop := ∀ ds res vs H F QH, Sub F H → prim ds = some res → Tops K H F ds vs → ResOk K F H QH res → r vs H QH
def dPA (prim : List D → Option Res) (ad : ADen) : EDen := ⟨ad.cost, fun R Q E => ad.wp R (fun xs R1 => ∃ ds res, rdDs R1 xs = some ds ∧ prim ds = some res ∧ Q res.val R1) E⟩
def fPA (prim : List D → Option Res) (ad : ADen) : FDen := ⟨ad.cost, fun R Q E => ad.wp R (fun xs R1 => ∃ ds es, rdDs R1 xs = some ds ∧ prim ds = some (.l es) ∧ Q (.lst es) R1) E⟩
theorem pa_core {r : List V → Hp → VK → Prop} {prim : List D → Option Res} (hp : SndA K r prim) (σ : St) (H : Hp) (QH : VK) (h : tO K W (dPA prim ad) σ H QH) : tCB r (tOA K W ad) σ H QH := by
  obtain ⟨G, R, Q, E, e1, rel, bud, wp, ex, k⟩ := h
  refine ⟨G, R, _, E, e1, rel, bud, wp, ex, fun vs G1 R1 xs s1 r1 v1 q => ?_⟩
  obtain ⟨ds, res, e2, e3, q⟩ := q
  exact hp ds res vs G1.H G1.F QH r1.ok.sub e3 (rd_tops r1 v1 e2) (res_fin s1 r1 fun v' G' R' x' s' r' vx ⟨e5, e6⟩ => k v' G' R' x' s' r' vx (by rw [e5, e6]; exact q))
theorem paf_core {r : List V → Hp → VK → Prop} {prim : List D → Option Res} (hp : SndA K r prim) (σ : St) (H : Hp) (QH : VK) (h : tOF K W (fPA prim ad) σ H QH) : tCB r (tOA K W ad) σ H QH := by
  obtain ⟨G, R, Q, E, e1, rel, bud, wp, ex, k⟩ := h
  refine ⟨G, R, _, E, e1, rel, bud, wp, ex, fun vs G1 R1 xs s1 r1 v1 q => ?_⟩
  obtain ⟨ds, res, e2, e3, q⟩ := q
  exact hp ds _ vs G1.H G1.F QH r1.ok.sub e3 (rd_tops r1 v1 e2) (res_finF s1 r1 fun v' G' R' x' s' r' vx ⟨e5, e6⟩ => k v' G' R' x' s' r' vx (by rw [e5, e6]; exact q))
section
variable {x : Str} {p : Pos} {id T' : String} {r : List V → Hp → VK → Prop} {prim : List D → Option Res}
theorem oe_cb (hc : CallR X (.builtin id) r) (hp : SndA X.K r prim) (hg : Gl X x) (hm : X.mg x = none) (hv : bootBuiltins x = some (.builtin id)) (ha : OA X W (e :: es) ad) (hn : x ≠ "__name__" := by decide) (hdb : (x == ("__debug__" : Str)) = false := by decide)
    (he : starEach (e :: es) X.env = (false, eval e X.env) :: starEach es X.env := by rfl) (hpl : (backTo pos (starEach es X.env)).any (·.1) = false := by rfl) : OE X W (.Call (.Name x p) (e :: es) [] pos) (dPA prim ad) := peImp (pe_callB hc hg hm hv ha hn hdb he hpl) (pa_core hp)
theorem of_cb (hc : CallR X (.builtin id) r) (hp : SndA X.K r prim) (hg : Gl X x) (hm : X.mg x = none) (hv : bootBuiltins x = some (.builtin id)) (ha : OA X W (e :: es) ad) (hn : x ≠ "__name__" := by decide) (hdb : (x == ("__debug__" : Str)) = false := by decide)
    (he : starEach (e :: es) X.env = (false, eval e X.env) :: starEach es X.env := by rfl) (hpl : (backTo pos (starEach es X.env)).any (·.1) = false := by rfl) : OF X W (.Call (.Name x p) (e :: es) [] pos) (fPA prim ad) := peImp (pe_callB hc hg hm hv ha hn hdb he hpl) (paf_core hp)
theorem oe_ct (hc : CallR X (.type T') r) (hp : SndA X.K r prim) (hg : Gl X x) (hm : X.mg x = none) (hv : bootBuiltins x = some (.type T')) (ha : OA X W (e :: es) ad) (hn : x ≠ "__name__" := by decide) (hdb : (x == ("__debug__" : Str)) = false := by decide)
    (he : starEach (e :: es) X.env = (false, eval e X.env) :: starEach es X.env := by rfl) (hpl : (backTo pos (starEach es X.env)).any (·.1) = false := by rfl) : OE X W (.Call (.Name x p) (e :: es) [] pos) (dPA prim ad) := peImp (pe_callTy hc hg hm hv ha hn hdb he hpl) (pa_core hp)
theorem of_ct (hc : CallR X (.type T') r) (hp : SndA X.K r prim) (hg : Gl X x) (hm : X.mg x = none) (hv : bootBuiltins x = some (.type T')) (ha : OA X W (e :: es) ad) (hn : x ≠ "__name__" := by decide) (hdb : (x == ("__debug__" : Str)) = false := by decide)
    (he : starEach (e :: es) X.env = (false, eval e X.env) :: starEach es X.env := by rfl) (hpl : (backTo pos (starEach es X.env)).any (·.1) = false := by rfl) : OF X W (.Call (.Name x p) (e :: es) [] pos) (fPA prim ad) := peImp (pe_callTy hc hg hm hv ha hn hdb he hpl) (paf_core hp)
end

/-! ### displays -/
/-- the values as frozen data: an owned name is frozen by it -/
def escR (R : RR) (i : Nat) : Option Sl → Option (D × RR)
  | some (.ow t) => some (t.toD, R.set i (.fz t.toD))
  | _ => none
def esc (R : RR) : Val → Option (D × RR)
  | .d x => some (x, R)
  | .r i => escR R i (R[i]?)
  | .st => none
def escs (R : RR) : List Val → Option (List D × RR)
  | [] => some ([], R)
  | x :: xs => (esc R x).bind fun (d, R1) => (escs R1 xs).bind fun (ds, R2) => some (d :: ds, R2)
end OW
namespace OW
open PySem PySem.Spec L2
variable {X : Cx} {W : WX} {K : PySem.W.Frag} {a b e : Expr} {es : List Expr} {pos : Pos} {da db de : EDen} {ad : ADen} {fd : FDen}
/-- how long a list may grow in a reading -/
def LIM : Nat := 1000000
theorem lim_line {n : Nat} (h : n ≤ LIM) : n ≤ sizeLine := Nat.le_trans h (by unfold LIM; rw [sizeLine_eq]; decide)
theorem lim_lt {n : Nat} (h : n < LIM) : n < sizeLine := Nat.lt_of_lt_of_le h (by unfold LIM; rw [sizeLine_eq]; decide)

/-! ### freezing, changing, labelling one node -/
theorem Own.node {P : Addr → Prop} {H F : Hp} {t : T} {v : V} (h : Own K P H F t v) : ∃ p o, v = .ref p ∧ P p ∧ H p = some o ∧ F p = none := by
  cases t with
  | lst ds => obtain ⟨p, vs, e, q, hh, n, _⟩ := h; exact ⟨p, _, e, q, hh, n⟩
  | dic ds => obtain ⟨p, vs, e, q, hh, n, _⟩ := h; exact ⟨p, _, e, q, hh, n⟩
/-- the node at p is frozen -/
def Gh.ice (G : Gh) (p : Addr) (o : HO) : Gh := ⟨G.H, upd G.F p o, fun q => if q = p then none else G.O q, G.c, G.B, G.S⟩
theorem ice_O {G : Gh} {p q : Addr} {o : HO} (h : q ≠ p) : (G.ice p o).O q = G.O q := if_neg h
theorem ice_F {G : Gh} {p q : Addr} {o : HO} (h : q ≠ p) : (G.ice p o).F q = G.F q := upd_ne h
theorem gok_ice {G : Gh} (ok : GOk G) {p : Addr} {o : HO} {l : Nat} (hO : G.O p = some (l + 1)) (h : G.H p = some o) : GOk (G.ice p o) := by
  refine ⟨fun q u e => ?_, fun q i e => ?_, ok.old, fun q i e => ?_, fun q e => (ok.st q e).up (fun r u x y => ⟨y, by rw [ice_O (fun z => by subst z; rw [hO] at x; cases x)]; exact x⟩) (Nat.le_refl _)⟩
  · by_cases hq : q = p
    · subst hq
      have e : upd G.F q o q = some u := e
      rw [upd_same] at e; cases e; exact h
    · rw [ice_F hq] at e; exact ok.sub q u e
  · by_cases hq : q = p
    · subst hq
      have e : (if q = q then none else G.O q) = some i := e
      rw [if_pos rfl] at e; cases e
    · rw [ice_O hq] at e
      obtain ⟨x, y⟩ := ok.own q i e
      exact ⟨by rw [ice_F hq]; exact x, y⟩
  · by_cases hq : q = p
    · subst hq
      have e : (if q = q then none else G.O q) = some (i + 1) := e
      rw [if_pos rfl] at e; cases e
    · rw [ice_O hq] at e; exact ok.new q i e
theorem step_ice {G : Gh} {p : Addr} {o : HO} {l : Nat} (hO : G.O p = some l) (hF : G.F p = none) : Step 0 G (G.ice p o) := by
  refine ⟨fun q u e => ?_, fun q u e1 e2 e3 => ?_, Nat.le_refl _, fun q u e => ⟨u, e⟩, rfl, fun _ z => z, Nat.le_refl _⟩
  · rw [ice_F (ne_of_none e hF)]; exact e
  · have hq : q ≠ p := fun z => by subst z; rw [hO] at e2; cases e2
    exact ⟨e1, by rw [ice_O hq]; exact e2, by rw [ice_F hq]; exact e3⟩
/-- a slot whose nodes are not p lives on -/
theorem SlOk.other {G G' : Gh} {i l : Nat} {p : Addr} {s : Sl} {ov : Option V} (ok : GOk G) (h : SlOk K G i s ov) (hO : G.O p = some l) (hl : l ≠ i + 1) (hl0 : l ≠ 0) (hf : ∀ p o, G.F p = some o → G'.F p = some o)
    (hk : ∀ q, q ≠ p → G'.H q = G.H q ∧ G'.O q = G.O q ∧ G'.F q = G.F q) (hc : G.c ≤ G'.c) (hb : ∀ p, G.B p → G'.B p := by exact fun _ z => z) (hs : G'.S = G.S := by rfl) : SlOk K G' i s ov := by
  have kk : ∀ q o m, G.O q = m → m ≠ some l → G.H q = some o → G.F q = none → G'.H q = some o ∧ G'.O q = m ∧ G'.F q = none := fun q o m e1 e2 e3 e4 => by
    have hq : q ≠ p := fun z => by subst z; rw [hO] at e1; exact e2 e1.symm
    obtain ⟨x, y, z⟩ := hk q hq
    exact ⟨by rw [x]; exact e3, by rw [y]; exact e1, by rw [z]; exact e4⟩
  cases s with
  | no => trivial
  | fz x => obtain ⟨v, e, q⟩ := h; exact ⟨v, e, Rep.mono hf x q⟩
  | ow t => obtain ⟨v, e, q⟩ := h; exact ⟨v, e, q.keep hf fun q o e1 e2 e3 => kk q o _ e1 (fun z => hl (Option.some.inj z).symm) e2 e3⟩
  | bw t => obtain ⟨v, e, q⟩ := h; exact ⟨v, e, q.keep hf fun q o e1 e2 e3 => let ⟨x, y, z⟩ := kk q o _ e1.1 (fun z => by cases z) e2 e3; ⟨x, ⟨y, hb q e1.2⟩, z⟩⟩
  | st => obtain ⟨v, e, q⟩ := h; exact ⟨v, e, hs.trans q⟩
  | sc ns =>
    obtain ⟨a, e, q, sn⟩ := h
    refine ⟨a, e, ?_, hs.trans sn⟩
    rcases q with (q | ⟨o, q⟩) | q
    · exact .inl (.inl (hf _ _ q))
    · exact .inl (.inr ⟨o, hf _ _ q⟩)
    · exact .inr q
theorem rel_set {G G' : Gh} {σ : St} {R : RR} {i : Nat} {s : Sl} {v : V} (r : Rel K G σ R) (ok : GOk G') (hσ : σ[i]? = some (some v)) (hs : SlOk K G' i s (some v))
    (ho : ∀ j t ov, j ≠ i → SlOk K G j t ov → SlOk K G' j t ov) : Rel K G' σ (R.set i s) := by
  refine ⟨ok, by rw [List.length_set]; exact r.len, fun j t e => ?_⟩
  by_cases hj : j = i
  · subst hj
    rw [List.getElem?_set] at e
    split at e
    · split at e
      · cases e; exact ⟨_, hσ, hs⟩
      · cases e
    · rename_i hne; exact absurd rfl hne
  · rw [List.getElem?_set_ne (Ne.symm hj)] at e
    obtain ⟨ov, h1, h2⟩ := r.sl j t e
    exact ⟨ov, h1, ho j t ov hj h2⟩
/-- an owned name is frozen -/
theorem ice_ok {G : Gh} {σ : St} {R : RR} {i : Nat} {t : T} {v : V} (r : Rel K G σ R) (hi : R[i]? = some (.ow t)) (hσ : σ[i]? = some (some v)) :
    ∃ G', G'.H = G.H ∧ Step 0 G G' ∧ Rel K G' σ (R.set i (.fz t.toD)) ∧ Rep K G'.F t.toD v := by
  obtain ⟨ov, h1, h2⟩ := r.sl i _ hi
  rw [hσ] at h1; cases h1
  obtain ⟨w, e, q⟩ := h2
  cases e
  obtain ⟨p, o, e, hO, hH, hF⟩ := q.node
  have st := step_ice (o := o) hO hF
  have rep : Rep K (G.ice p o).F t.toD v := by
    cases t with
    | lst ds =>
      obtain ⟨p', vs, e', _, hH', _, rr⟩ := q
      rw [e] at e'; cases e'
      rw [hH] at hH'; cases hH'
      unfold T.toD Rep
      exact ⟨p, vs, e, upd_same, Reps.mono st.fz ds rr⟩
    | dic ds =>
      obtain ⟨p', vs, e', _, hH', _, rr⟩ := q
      rw [e] at e'; cases e'
      rw [hH] at hH'; cases hH'
      unfold T.toD Rep
      exact ⟨p, vs, e, upd_same, RepK.mono st.fz ds rr⟩
  refine ⟨G.ice p o, rfl, st, rel_set r (gok_ice r.ok hO hH) hσ ⟨v, rfl, rep⟩ fun j s ov hj h => ?_, rep⟩
  exact h.other r.ok hO (fun z => hj (Nat.succ.inj z).symm) (by omega) st.fz (fun q hq => ⟨rfl, ice_O hq, ice_F hq⟩) (Nat.le_refl _)
/-- an owned list is changed -/
theorem mut_ok {G : Gh} {σ : St} {R : RR} {i : Nat} {t' : T} {p : Addr} {o o' : HO} (r : Rel K G σ R) (hσ : σ[i]? = some (some (.ref p))) (hO : G.O p = some (i + 1)) (hH : G.H p = some o)
    (hn : Own K (fun p => G.O p = some (i + 1)) (upd G.H p o') G.F t' (.ref p)) : ∃ G', G'.H = upd G.H p o' ∧ Step 0 G G' ∧ Rel K G' σ (R.set i (.ow t')) := by
  have hF := (r.ok.own p _ hO).1
  have kp : ∀ q u, q ≠ p → G.H q = some u → upd G.H p o' q = some u := fun q u hq e => by rw [upd_ne hq]; exact e
  have dm : ∀ q u, G.H q = some u → ∃ u', upd G.H p o' q = some u' := fun q u e => by
    by_cases hq : q = p
    · subst hq; exact ⟨o', upd_same⟩
    · exact ⟨u, kp q u hq e⟩
  let G' : Gh := ⟨upd G.H p o', G.F, G.O, G.c, G.B, G.S⟩
  have ok' : GOk G' := ⟨fun q u e => kp q u (ne_of_none e hF) (r.ok.sub q u e), fun q j e => let ⟨x, u, y⟩ := r.ok.own q j e; ⟨x, dm q u y⟩, fun q bq => let ⟨u, e⟩ := r.ok.old q bq; dm q u e, r.ok.new, fun q e => (r.ok.st q e).up (fun z u x y => ⟨kp z u (fun w => by subst w; rw [hO] at x; cases x) y, x⟩) (Nat.le_refl _)⟩
  refine ⟨G', rfl, ⟨fun _ _ e => e, fun q u e1 e2 e3 => ⟨kp q u (fun z => by subst z; rw [hO] at e2; cases e2) e1, e2, e3⟩, Nat.le_refl _, dm, rfl, fun _ z => z, Nat.le_refl _⟩, rel_set r ok' hσ ⟨_, rfl, hn⟩ fun j s ov hj h => ?_⟩
  exact h.other (G' := G') r.ok hO (fun z => hj (Nat.succ.inj z).symm) (by omega) (fun _ _ e => e) (fun q hq => ⟨upd_ne hq, rfl, rfl⟩) (Nat.le_refl _)
/-- a floating node is taken by slot i (the slots' values change too) -/
theorem lab_ok {G : Gh} {σ : St} {R : RR} {i : Nat} {t : T} {v : V} (r : Rel K G σ R) (hi : i < σ.length) (h : Own K (fun p => G.O p = none ∧ ¬ G.B p) G.H G.F t v) : ∃ G', G'.H = G.H ∧ (∀ {n : Nat} {G0 : Gh}, Step n G0 G → (∀ p, v = .ref p → G0.H p = none) → Step n G0 G') ∧ Rel K G' (σ.set i (some v)) (R.set i (.ow t)) := by
  obtain ⟨p, o, e, ⟨hO, hB⟩, hH, hF⟩ := h.node
  let G' : Gh := ⟨G.H, G.F, fun q => if q = p then some (i + 1) else G.O q, G.c, G.B, G.S⟩
  have o1 : G'.O p = some (i + 1) := if_pos rfl
  have o2 : ∀ q, q ≠ p → G'.O q = G.O q := fun q hq => if_neg hq
  have ok' : GOk G' := by
    refine ⟨r.ok.sub, fun q j ej => ?_, r.ok.old, fun q j ej => ?_, fun q e => (r.ok.st q e).up (fun z u x y => ⟨y, by rw [o2 z (fun w => by subst w; rw [hO] at x; cases x)]; exact x⟩) (Nat.le_refl _)⟩
    · by_cases hq : q = p
      · subst hq; exact ⟨hF, o, hH⟩
      · rw [o2 q hq] at ej; exact r.ok.own q j ej
    · by_cases hq : q = p
      · subst hq; exact hB
      · rw [o2 q hq] at ej; exact r.ok.new q j ej
  refine ⟨G', rfl, fun {n G0} s0 hn => ⟨s0.fz, fun q u e1 e2 e3 => ?_, s0.bud, s0.dom, s0.bs, s0.ss, s0.up⟩, ok', by rw [List.length_set, List.length_set]; exact r.len, fun j s ej => ?_⟩
  · obtain ⟨x, y, z⟩ := s0.fl q u e1 e2 e3
    have hq : q ≠ p := fun z => by subst z; rw [hn _ e] at e1; cases e1
    exact ⟨x, by rw [o2 q hq]; exact y, z⟩
  · by_cases hj : j = i
    · subst hj
      rw [List.getElem?_set] at ej
      split at ej
      · split at ej
        · cases ej
          refine ⟨_, List.getElem?_set_self hi, v, rfl, ?_⟩
          cases t with
          | lst ds =>
            obtain ⟨p', vs, e', _, hH', hF', rr⟩ := h
            rw [e] at e'; cases e'
            exact ⟨p, vs, e, o1, hH', hF', rr⟩
          | dic ds =>
            obtain ⟨p', vs, e', _, hH', hF', rr⟩ := h
            rw [e] at e'; cases e'
            exact ⟨p, vs, e, o1, hH', hF', rr⟩
        · cases ej
      · rename_i hne; exact absurd rfl hne
    · rw [List.getElem?_set_ne (Ne.symm hj)] at ej
      obtain ⟨ov, h1, h2⟩ := r.sl j s ej
      refine ⟨ov, by rw [List.getElem?_set_ne (Ne.symm hj)]; exact h1, ?_⟩
      have kk : ∀ q, G.O q ≠ none ∨ G.B q → G'.O q = G.O q := fun q hq => o2 q fun z => by
        subst z
        rcases hq with hq | hq
        · exact hq hO
        · exact hB hq
      cases s with
      | no => trivial
      | fz x => exact h2
      | ow t => obtain ⟨v, e, q⟩ := h2; exact ⟨v, e, q.keep (fun _ _ z => z) fun q u e1 e2 e3 => ⟨e2, by rw [kk q (.inl (by rw [e1]; simp))]; exact e1, e3⟩⟩
      | bw t => obtain ⟨v, e, q⟩ := h2; exact ⟨v, e, q.keep (fun _ _ z => z) fun q u e1 e2 e3 => ⟨e2, ⟨by rw [kk q (.inr e1.2)]; exact e1.1, e1.2⟩, e3⟩⟩
      | st => exact h2
      | sc ns => exact h2
end OW
namespace OW
open PySem PySem.Spec L2
variable {X : Cx} {W : WX} {K : PySem.W.Frag} {a b e : Expr} {es : List Expr} {pos : Pos} {da db de : EDen} {ad : ADen} {fd : FDen}

/-! ### escaping values -/
theorem esc_ok {G : Gh} {σ : St} {R R' : RR} {v : V} {x : Val} {d : D} (r : Rel K G σ R) (h : ValOk K G σ v x) (e : esc R x = some (d, R')) : ∃ G', G'.H = G.H ∧ Step 0 G G' ∧ Rel K G' σ R' ∧ Rep K G'.F d v := by
  cases x with
  | d y => cases e; exact ⟨G, rfl, Step.refl, r, h⟩
  | r i =>
    have e : escR R i (R[i]?) = some (d, R') := e
    have h : σ[i]? = some (some v) := h
    cases hi : R[i]? with
    | none => rw [hi] at e; cases e
    | some s =>
      rw [hi] at e
      cases s with
      | ow t => cases e; exact ice_ok r hi h
      | no => cases e
      | fz x => cases e
      | bw t => cases e
      | st => cases e
      | sc ns => cases e
  | st => cases e
theorem escs_ok {σ : St} : ∀ {xs : List Val} {vs : List V} {G : Gh} {R R' : RR} {ds : List D}, Rel K G σ R → ValsOk K G σ vs xs → escs R xs = some (ds, R') → ∃ G', G'.H = G.H ∧ Step 0 G G' ∧ Rel K G' σ R' ∧ Reps K G'.F ds vs
  | [], _, G, R, R', ds, r, .nil, e => by cases e; exact ⟨G, rfl, Step.refl, r, Reps.nil⟩
  | x :: xs, _, G, R, R', ds, r, .cons (v := v) (vs := vs) h1 h2 h3, e => by
    unfold escs at e
    cases e1 : esc R x with
    | none => rw [e1] at e; cases e
    | some p =>
      obtain ⟨d, R1⟩ := p
      rw [e1] at e
      have e : (escs R1 xs).bind (fun (ds, R2) => some (d :: ds, R2)) = some (ds, R') := e
      cases e2 : escs R1 xs with
      | none => rw [e2] at e; cases e
      | some p =>
        obtain ⟨es, R2⟩ := p
        rw [e2] at e
        cases e
        obtain ⟨G1, g1, s1, r1, q1⟩ := esc_ok r h1 e1
        obtain ⟨G2, g2, s2, r2, q2⟩ := escs_ok r1 (h3.step s1) e2
        exact ⟨G2, g2.trans g1, s1.trans s2, r2, Reps.cons (Rep.mono s2.fz d q1) q2⟩
theorem ValsOk.length {G : Gh} {σ : St} : ∀ {xs : List Val} {vs : List V}, ValsOk K G σ vs xs → vs.length = xs.length
  | _, _, .nil => rfl
  | _, _, .cons _ _ c => by rw [List.length_cons, List.length_cons, c.length]

/-! ### displays -/
def eTup (ad : ADen) : EDen := ⟨ad.cost, fun R Q E => ad.wp R (fun xs R1 => ∃ ds R2, escs R1 xs = some (ds, R2) ∧ ds.length ≤ LIM ∧ Q (.d (.tup ds)) R2) E⟩
def eLst (ad : ADen) : EDen := ⟨ad.cost, fun R Q E => ad.wp R (fun xs R1 => ∃ ds R2, escs R1 xs = some (ds, R2) ∧ ds.length ≤ LIM ∧ Q (.d (.lst ds)) R2) E⟩
def fLst (ad : ADen) : FDen := ⟨ad.cost, fun R Q E => ad.wp R (fun xs R1 => ∃ ds R2, escs R1 xs = some (ds, R2) ∧ ds.length ≤ LIM ∧ Q (.lst ds) R2) E⟩
theorem oe_tup {x1 : Nat} (h : OA X W es ad) : OE X W (.Tuple es x1 pos) (eTup ad) :=
  peImp (pe_tup h) fun σ H QH ⟨G, R, Q, E, e1, rel, bud, wp, ex, k⟩ => by
    refine ⟨G, R, _, E, e1, rel, bud, wp, ex, fun vs G1 R1 xs s1 r1 v1 q => ?_⟩
    obtain ⟨ds, R2, e2, hl, q⟩ := q
    obtain ⟨G2, g2, s2, r2, q2⟩ := escs_ok r1 v1 e2
    refine ⟨by rw [q2.length]; exact lim_line hl, fun p hp => ?_⟩
    rw [← g2] at hp ⊢
    have s12 := (s1.trans s2).le (Nat.le_refl _)
    exact res_fin (res := .t ds) s12 r2 (fun v' G' R' x' s' r' vx ⟨e5, e6⟩ => k v' G' R' x' s' r' vx (by rw [e5, e6]; exact q)) p vs hp q2
theorem oe_lst (h : OA X W es ad) : OE X W (.List es pos) (eLst ad) :=
  peImp (pe_lst h) fun σ H QH ⟨G, R, Q, E, e1, rel, bud, wp, ex, k⟩ => by
    refine ⟨G, R, _, E, e1, rel, bud, wp, ex, fun vs G1 R1 xs s1 r1 v1 q => ?_⟩
    obtain ⟨ds, R2, e2, hl, q⟩ := q
    obtain ⟨G2, g2, s2, r2, q2⟩ := escs_ok r1 v1 e2
    refine ⟨by rw [q2.length]; exact lim_line hl, fun p hp => ?_⟩
    rw [← g2] at hp ⊢
    have s12 := (s1.trans s2).le (Nat.le_refl _)
    exact res_fin (res := .l ds) s12 r2 (fun v' G' R' x' s' r' vx ⟨e5, e6⟩ => k v' G' R' x' s' r' vx (by rw [e5, e6]; exact q)) p vs hp q2
theorem of_lst (h : OA X W es ad) : OF X W (.List es pos) (fLst ad) :=
  peImp (pe_lst h) fun σ H QH ⟨G, R, Q, E, e1, rel, bud, wp, ex, k⟩ => by
    refine ⟨G, R, _, E, e1, rel, bud, wp, ex, fun vs G1 R1 xs s1 r1 v1 q => ?_⟩
    obtain ⟨ds, R2, e2, hl, q⟩ := q
    obtain ⟨G2, g2, s2, r2, q2⟩ := escs_ok r1 v1 e2
    refine ⟨by rw [q2.length]; exact lim_line hl, fun p hp => ?_⟩
    rw [← g2] at hp ⊢
    have s12 := (s1.trans s2).le (Nat.le_refl _)
    exact res_finF s12 r2 (fun v' G' R' x' s' r' vx ⟨e5, e6⟩ => k v' G' R' x' s' r' vx (by rw [e5, e6]; exact q)) p vs hp q2

/-! ### statements -/
variable {st : Stmt} {rest : List Stmt} {sd sd' : SDen} {ta : TDen}
def sNil : SDen := ⟨0, fun R N => N.nx R⟩
def sSeq (s t : SDen) : SDen := ⟨s.cost + t.cost, fun R N => s.wp R { N with nx := fun R' => t.wp R' N }⟩
theorem os_nil : OSs X W [] sNil := pssImp pss_nil fun D σ H ⟨G, R, N, e1, rel, bud, wp, hx, hn, hr, hb, hc⟩ => by
  subst e1; exact hn σ G R Step.refl rel wp
theorem os_cons (h1 : OS X W st sd) (h2 : OSs X W rest sd') : OSs X W (st :: rest) (sSeq sd sd') :=
  pssImp (pss_cons h1 h2) fun D σ H ⟨G, R, N, e1, rel, bud, wp, hx, hn, hr, hb, hc⟩ => by
    have bud : G.c + (sd.cost + sd'.cost) ≤ CM := bud
    have l1 : sd.cost ≤ (sSeq sd sd').cost := Nat.le_add_right _ _
    refine ⟨G, R, _, e1, rel, by omega, wp, fun σ' x cls d G' R' s => hx σ' x cls d G' R' (s.le l1), fun σ' G1 R1 s1 r1 q => ?_, fun σ' G' R' v x s => hr σ' G' R' v x (s.le l1), fun σ' G' R' s => hb σ' G' R' (s.le l1), fun σ' G' R' s => hc σ' G' R' (s.le l1)⟩
    exact ⟨G1, R1, N, rfl, r1, by have := s1.bud; omega, q, fun σ' x cls d G' R' s => hx σ' x cls d G' R' (s1.trans s), fun σ' G' R' s => hn σ' G' R' (s1.trans s), fun σ' G' R' v x s => hr σ' G' R' v x (s1.trans s), fun σ' G' R' s => hb σ' G' R' (s1.trans s), fun σ' G' R' s => hc σ' G' R' (s1.trans s)⟩
theorem os_one (h1 : OS X W st sd) : OSs X W [st] sd := pssImp (pss_one h1) fun _ _ _ h => h
def sPass : SDen := ⟨0, fun R N => N.nx R⟩
theorem os_pass : OS X W (.Pass pos) sPass := psImp ps_pass fun D σ H ⟨G, R, N, e1, rel, bud, wp, hx, hn, hr, hb, hc⟩ => by
  subst e1; exact hn σ G R Step.refl rel wp
def sBreak : SDen := ⟨0, fun R N => N.bk R⟩
def sCont : SDen := ⟨0, fun R N => N.ct R⟩
theorem os_break : OS X W (.Break pos) sBreak := psImp ps_break fun D σ H ⟨G, R, N, e1, rel, bud, wp, hx, hn, hr, hb, hc⟩ => by
  subst e1; exact hb σ G R Step.refl rel wp
theorem os_continue : OS X W (.Continue pos) sCont := psImp ps_continue fun D σ H ⟨G, R, N, e1, rel, bud, wp, hx, hn, hr, hb, hc⟩ => by
  subst e1; exact hc σ G R Step.refl rel wp
def sIf (t : TDen) (s u : SDen) : SDen := ⟨t.cost + (s.cost + u.cost), fun R N => t.wp R (fun c R1 => if c = true then s.wp R1 N else u.wp R1 N) N.ex⟩
theorem os_if {c : Expr} {x y : List Stmt} (hc : OT X W c ta) (ha : OSs X W x sd) (hb : OSs X W y sd') : OS X W (.If c x y pos) (sIf ta sd sd') :=
  psImp (ps_if hc ha hb) fun D σ H ⟨G, R, N, e1, rel, bud, wp, hx, hn, hr, hb, hc⟩ => by
    have bud : G.c + (ta.cost + (sd.cost + sd'.cost)) ≤ CM := bud
    have l0 : ta.cost ≤ (sIf ta sd sd').cost := Nat.le_add_right _ _
    have l1 : ta.cost + sd.cost ≤ (sIf ta sd sd').cost := by show _ ≤ ta.cost + (sd.cost + sd'.cost); omega
    have l2 : ta.cost + sd'.cost ≤ (sIf ta sd sd').cost := by show _ ≤ ta.cost + (sd.cost + sd'.cost); omega
    refine ⟨G, R, _, N.ex, e1, rel, by omega, wp, fun x cls d G' R' s => hx σ x cls d G' R' (s.le l0), fun c G1 R1 s1 r1 q => ?_⟩
    cases c with
    | true => exact ⟨G1, R1, N, rfl, r1, by have := s1.bud; omega, q, fun σ' x cls d G' R' s => hx σ' x cls d G' R' ((s1.trans s).le l1), fun σ' G' R' s => hn σ' G' R' ((s1.trans s).le l1), fun σ' G' R' v x s => hr σ' G' R' v x ((s1.trans s).le l1), fun σ' G' R' s => hb σ' G' R' ((s1.trans s).le l1), fun σ' G' R' s => hc σ' G' R' ((s1.trans s).le l1)⟩
    | false => exact ⟨G1, R1, N, rfl, r1, by have := s1.bud; omega, q, fun σ' x cls d G' R' s => hx σ' x cls d G' R' ((s1.trans s).le l2), fun σ' G' R' s => hn σ' G' R' ((s1.trans s).le l2), fun σ' G' R' v x s => hr σ' G' R' v x ((s1.trans s).le l2), fun σ' G' R' s => hb σ' G' R' ((s1.trans s).le l2), fun σ' G' R' s => hc σ' G' R' ((s1.trans s).le l2)⟩
/-- a value handed back -/
def retR (R : RR) (rt : RV → RR → Prop) (i : Nat) : Option Sl → Prop
  | some (.ow t) => rt (.o t) (R.set i .no)
  | _ => False
def retV (R : RR) (rt : RV → RR → Prop) : Val → Prop
  | .d x => rt (.d x) R
  | .r i => retR R rt i (R[i]?)
  | .st => False
def sRet (de : EDen) : SDen := ⟨de.cost, fun R N => de.wp R (fun x R1 => retV R1 N.rt x) N.ex⟩
/-- slot i is given up -/
theorem unlab_ok {G : Gh} {σ : St} {R : RR} {i : Nat} {t : T} {v : V} (r : Rel K G σ R) (hi : R[i]? = some (.ow t)) (hσ : σ[i]? = some (some v)) :
    ∃ G', G'.H = G.H ∧ Step 0 G G' ∧ Rel K G' σ (R.set i .no) ∧ Own K (fun p => G'.O p = none ∧ ¬ G'.B p) G'.H G'.F t v := by
  obtain ⟨ov, h1, h2⟩ := r.sl i _ hi
  rw [hσ] at h1; cases h1
  obtain ⟨w, e, q⟩ := h2
  cases e
  obtain ⟨p, o, e, hO, hH, hF⟩ := q.node
  let G' : Gh := ⟨G.H, G.F, fun q => if q = p then none else G.O q, G.c, G.B, G.S⟩
  have o1 : G'.O p = none := if_pos rfl
  have o2 : ∀ q, q ≠ p → G'.O q = G.O q := fun q hq => if_neg hq
  have ok' : GOk G' := by
    refine ⟨r.ok.sub, fun q j ej => ?_, r.ok.old, fun q j ej => ?_, fun q e => (r.ok.st q e).up (fun z u x y => ⟨y, by rw [o2 z (fun w => by subst w; rw [hO] at x; cases x)]; exact x⟩) (Nat.le_refl _)⟩
    · by_cases hq : q = p
      · subst hq; rw [o1] at ej; cases ej
      · rw [o2 q hq] at ej; exact r.ok.own q j ej
    · by_cases hq : q = p
      · subst hq; rw [o1] at ej; cases ej
      · rw [o2 q hq] at ej; exact r.ok.new q j ej
  have st : Step 0 G G' := ⟨fun _ _ z => z, fun q u e1 e2 e3 => ⟨e1, by rw [o2 q (fun z => by subst z; rw [hO] at e2; cases e2)]; exact e2, e3⟩, Nat.le_refl _, fun q u z => ⟨u, z⟩, rfl, fun _ z => z, Nat.le_refl _⟩
  refine ⟨G', rfl, st, rel_set r ok' hσ trivial fun j s ov hj h => h.other r.ok hO (fun z => hj (Nat.succ.inj z).symm) (by omega) (fun _ _ z => z) (fun q hq => ⟨rfl, o2 q hq, rfl⟩) (Nat.le_refl _), ?_⟩
  have nB : ¬ G.B p := r.ok.new p i hO
  cases t with
  | lst ds =>
    obtain ⟨p', vs, e', _, hH', hF', rr⟩ := q
    rw [e] at e'; cases e'
    exact ⟨p, vs, e, ⟨o1, nB⟩, hH', hF', rr⟩
  | dic ds =>
    obtain ⟨p', vs, e', _, hH', hF', rr⟩ := q
    rw [e] at e'; cases e'
    exact ⟨p, vs, e, ⟨o1, nB⟩, hH', hF', rr⟩
theorem os_ret (h : OE X W e de) : OS X W (.Return (some e) pos) (sRet de) :=
  psImp (ps_ret h) fun D σ H ⟨G, R, N, e1, rel, bud, wp, hx, hn, hr, hb, hc⟩ => by
    refine ⟨G, R, _, N.ex, e1, rel, bud, wp, fun x cls d G' R' s => hx σ x cls d G' R' s, fun v G1 R1 x s1 r1 v1 q => ?_⟩
    cases x with
    | d x => exact hr σ G1 R1 v (.d x) s1 r1 v1 q
    | st => exact q.elim
    | r i =>
      have q : retR R1 N.rt i (R1[i]?) := q
      have v1 : σ[i]? = some (some v) := v1
      cases hi : R1[i]? with
      | none => rw [hi] at q; exact q.elim
      | some s =>
        rw [hi] at q
        cases s with
        | ow t =>
          obtain ⟨G2, g2, s2, r2, q2⟩ := unlab_ok r1 hi v1
          rw [← g2]
          exact hr σ G2 _ v (.o t) ((s1.trans s2).le (Nat.le_refl _)) r2 q2 q
        | st => exact q.elim
        | no => exact q.elim
        | fz x => exact q.elim
        | bw t => exact q.elim
        | sc ns => exact q.elim
def sRetF (fd : FDen) : SDen := ⟨fd.cost, fun R N => fd.wp R (fun t R1 => N.rt (.o t) R1) N.ex⟩
theorem os_retF (h : OF X W e fd) : OS X W (.Return (some e) pos) (sRetF fd) :=
  psImp (ps_ret h) fun D σ H ⟨G, R, N, e1, rel, bud, wp, hx, hn, hr, hb, hc⟩ => by
    refine ⟨G, R, _, N.ex, e1, rel, bud, wp, fun x cls d G' R' s => hx σ x cls d G' R' s, fun v G1 R1 t s1 r1 v1 q => ?_⟩
    refine hr σ G1 R1 v (.o t) s1 r1 (v1.keep (fun _ _ z => z) fun p o ⟨q1, q2⟩ q3 q4 => ⟨q3, ⟨q1, fun hB => ?_⟩, q4⟩) q
    rw [s1.bs] at hB
    obtain ⟨u, e⟩ := rel.ok.old p hB
    rw [q2] at e; cases e
def sRetN : SDen := ⟨0, fun R N => N.rt (.d .non) R⟩
theorem os_retN : OS X W (.Return none pos) sRetN := psImp ps_retN fun D σ H ⟨G, R, N, e1, rel, bud, wp, hx, hn, hr, hb, hc⟩ => by
  subst e1; exact hr σ G R .non (.d .non) Step.refl rel (by show Rep _ _ _ _; unfold Rep; rfl) wp

/-! ### assignment to a name -/
def asgR (i : Nat) (R : RR) (nx : RR → Prop) : Option Sl → Prop
  | some (.bw t) => nx (R.set i (.bw t))
  | _ => False
def asgV (i : Nat) (R : RR) (nx : RR → Prop) : Val → Prop
  | .d x => nx (R.set i (.fz x))
  | .r j => asgR i R nx (R[j]?)
  | .st => nx (R.set i .st)
def sAsg (i : Nat) (de : EDen) : SDen := ⟨de.cost, fun R N => de.wp R (fun x R1 => asgV i R1 N.nx x) N.ex⟩
def sAsgF (i : Nat) (fd : FDen) : SDen := ⟨fd.cost, fun R N => fd.wp R (fun t R1 => N.nx (R1.set i (.ow t))) N.ex⟩
/-- a slot is stored: the value v is ok there -/
theorem rel_put {G : Gh} {σ : St} {R : RR} {i : Nat} {s : Sl} {v : V} (r : Rel K G σ R) (hs : SlOk K G i s (some v)) : Rel K G (σ.set i (some v)) (R.set i s) := by
  refine ⟨r.ok, by rw [List.length_set, List.length_set]; exact r.len, fun j t e => ?_⟩
  by_cases hj : j = i
  · subst hj
    rw [List.getElem?_set] at e
    split at e
    · split at e
      · rename_i hlt
        cases e
        refine ⟨_, List.getElem?_set_self (by rw [← r.len]; exact hlt), hs⟩
      · cases e
    · rename_i hne; exact absurd rfl hne
  · rw [List.getElem?_set_ne (Ne.symm hj)] at e
    obtain ⟨ov, h1, h2⟩ := r.sl j t e
    exact ⟨ov, by rw [List.getElem?_set_ne (Ne.symm hj)]; exact h1, h2⟩
theorem asg_core {i : Nat} {D : Ends} {σ : St} {H : Hp} (h : tOS K W (sAsg i de) D σ H) : tAsg (tO K W de) (gName i) D σ H := by
  obtain ⟨G, R, N, e1, rel, bud, wp, hx, hn, hr, hb, hc⟩ := h
  refine ⟨G, R, _, N.ex, e1, rel, bud, wp, fun x cls d G' R' s => hx σ x cls d G' R' s, fun v G1 R1 x s1 r1 v1 q => ?_⟩
  cases x with
  | d x => exact hn _ G1 _ s1 (rel_put (s := .fz x) r1 ⟨v, rfl, v1⟩) q
  | st =>
    obtain ⟨p, e2, e3⟩ := v1
    exact hn _ G1 _ s1 (rel_put (s := .st) r1 ⟨p, by rw [e2], e3⟩) q
  | r j =>
    have q : asgR i R1 N.nx (R1[j]?) := q
    have v1 : σ[j]? = some (some v) := v1
    cases hj : R1[j]? with
    | none => rw [hj] at q; exact q.elim
    | some s =>
      rw [hj] at q
      cases s with
      | bw t =>
        obtain ⟨ov, h1, h2⟩ := r1.sl j _ hj
        rw [v1] at h1; cases h1
        exact hn _ G1 _ s1 (rel_put (s := .bw t) r1 (show SlOk K G1 i (.bw t) (some v) from h2)) q
      | ow t => exact q.elim
      | st => exact q.elim
      | no => exact q.elim
      | fz x => exact q.elim
      | sc ns => exact q.elim
theorem asgF_core {i : Nat} {D : Ends} {σ : St} {H : Hp} (hi : i < σ.length) (h : tOS K W (sAsgF i fd) D σ H) : tAsg (tOF K W fd) (gName i) D σ H := by
  obtain ⟨G, R, N, e1, rel, bud, wp, hx, hn, hr, hb, hc⟩ := h
  refine ⟨G, R, _, N.ex, e1, rel, bud, wp, fun x cls d G' R' s => hx σ x cls d G' R' s, fun v G1 R1 t s1 r1 v1 q => ?_⟩
  have own : Own K (fun p => G1.O p = none ∧ ¬ G1.B p) G1.H G1.F t v := v1.keep (fun _ _ z => z) fun p o ⟨q1, q2⟩ q3 q4 => ⟨q3, ⟨q1, fun hB => by
    rw [s1.bs] at hB
    obtain ⟨u, e⟩ := rel.ok.old p hB
    rw [q2] at e; cases e⟩, q4⟩
  obtain ⟨G2, g2, s2, r2⟩ := lab_ok r1 hi own
  have s12 := s2 s1 fun p e => by
    obtain ⟨p', o, e', ⟨_, q2⟩, _⟩ := v1.node
    rw [e] at e'; cases e'; exact q2
  show D.nx (σ.set i (some v)) G1.H
  rw [← g2]
  exact hn _ G2 _ s12 r2 q
theorem os_set {i : Nat} {x : Str} {pos' : Pos} (hN : X.N.Nodup) (hi : X.N[i]? = some x) (hx : Loc X.env.scope x) (he : OE X W e de) (hs : swapsWith e (some (.Name x pos')) pos.line X.env = pure false := by rfl) (hf : X.fn x = true ∨ X.env.scope.names.lookup x = some .local := by first | exact .inl rfl | exact .inr rfl | assumption) :
    OS X W (.Assign [.Name x pos'] e pos) (sAsg i de) := psImp (ps_set hN hi hx he hs hf) fun _ _ _ h => asg_core h
theorem len_of {pins : List (Addr × Obj)} {σ : St} {H : Hp} {s : Shared} (I : Inv X pins σ H s) {i : Nat} {x : Str} (hi : X.N[i]? = some x) : i < σ.length := by
  rw [I.len]; exact (List.getElem?_eq_some_iff.mp hi).1
theorem os_setF {i : Nat} {x : Str} {pos' : Pos} (hN : X.N.Nodup) (hi : X.N[i]? = some x) (hx : Loc X.env.scope x) (he : OF X W e fd) (hs : swapsWith e (some (.Name x pos')) pos.line X.env = pure false := by rfl) (hf : X.fn x = true ∨ X.env.scope.names.lookup x = some .local := by first | exact .inl rfl | exact .inr rfl | assumption) :
    OS X W (.Assign [.Name x pos'] e pos) (sAsgF i fd) := ⟨fun pins s σ H D I q => (ps_set hN hi hx he hs hf).run pins s σ H D I (asgF_core (len_of I hi) q)⟩
/-- an expression as a statement -/
def sEx (de : EDen) : SDen := ⟨de.cost, fun R N => de.wp R (fun _ R1 => N.nx R1) N.ex⟩
theorem os_expr (h : OE X W e de) (hs : swapsWith e none pos.line X.env = pure false := by rfl) : OS X W (.Expr e pos) (sEx de) :=
  psImp (ps_expr h hs) fun D σ H ⟨G, R, N, e1, rel, bud, wp, hx, hn, hr, hb, hc⟩ => by
    exact ⟨G, R, _, N.ex, e1, rel, bud, wp, fun x cls d G' R' s => hx σ x cls d G' R' s, fun v G1 R1 x s1 r1 v1 q => hn σ G1 R1 s1 r1 q⟩
end OW
namespace OW
open PySem PySem.Spec L2
variable {X : Cx} {W : WX} {K : PySem.W.Frag} {a b e : Expr} {es : List Expr} {pos : Pos} {da db de : EDen} {ad : ADen} {fd : FDen}

/-! ### what a def is given -/
def argR : Option Sl → Option Sl
  | some (.ow t) => some (.bw t)
  | some (.bw t) => some (.bw t)
  | some .st => some .st
  | _ => none
def argV (R : RR) : Val → Option Sl
  | .d x => some (.fz x)
  | .r i => argR (R[i]?)
  | .st => none
def argsOf (R : RR) : List Val → Option (List Sl)
  | [] => some []
  | x :: xs => (argV R x).bind fun s => (argsOf R xs).bind fun ss => some (s :: ss)
def isSt : Sl → Bool
  | .st => true
  | _ => false
def hasSt (args : List Sl) : Bool := args.any isSt
def ArgOk (K : PySem.W.Frag) (G : Gh) : Sl → V → Prop
  | .fz x, v => Rep K G.F x v
  | .bw t, v => Own K (fun p => G.O p = none ∧ G.B p) G.H G.F t v
  | .st, v => ∃ p, v = .ref p ∧ G.S = some p
  | .sc ns, v => ∃ a, v = .ref a ∧ SqL K G.F a (ns.map V.int) ∧ G.S = none
  | _, _ => False
theorem ArgOk.sl {G : Gh} {s : Sl} {v : V} (h : ArgOk K G s v) (i : Nat) : SlOk K G i s (some v) := by
  cases s with
  | no => exact h.elim
  | ow t => exact h.elim
  | fz x => exact ⟨v, rfl, h⟩
  | bw t => exact ⟨v, rfl, h⟩
  | st => obtain ⟨p, e, q⟩ := h; exact ⟨p, by rw [e], q⟩
  | sc ns => obtain ⟨p, e, q⟩ := h; exact ⟨p, by rw [e], q⟩
inductive ArgsOk (K : PySem.W.Frag) (G : Gh) : List Sl → List V → Prop
  | nil : ArgsOk K G [] []
  | cons {s : Sl} {v : V} {ss : List Sl} {vs : List V} : ArgOk K G s v → ArgsOk K G ss vs → ArgsOk K G (s :: ss) (v :: vs)
theorem ArgsOk.length {G : Gh} : ∀ {ss : List Sl} {vs : List V}, ArgsOk K G ss vs → vs.length = ss.length
  | _, _, .nil => rfl
  | _, _, .cons _ r => by rw [List.length_cons, List.length_cons, r.length]
theorem ArgsOk.get {G : Gh} : ∀ {ss : List Sl} {vs : List V} {i : Nat} {s : Sl}, ArgsOk K G ss vs → ss[i]? = some s → ∃ v, vs[i]? = some v ∧ ArgOk K G s v
  | _, _, _, _, .nil, h => by simp at h
  | _, _, 0, _, .cons q r, h => by simp at h; subst h; exact ⟨_, rfl, q⟩
  | _, _, i + 1, _, .cons q r, h => by simp at h; simpa using ArgsOk.get r h
/-- a def's promise in pure words: the arguments, what is wanted of the answer, what of an exception -/
abbrev CP := List Sl → (RV → Prop) → (Ex → Prop) → Prop
structure Entry (G : Gh) : Prop where
  ok : GOk G
  lab : ∀ p i, G.O p = some i → i = 0
  base : ∀ p, G.B p ↔ ∃ o, G.H p = some o
def spO (K : PySem.W.Frag) (P : CP) (c : Nat) : Sp := fun vs H QH EH => ∃ G args Q E, G.H = H ∧ Entry G ∧ ArgsOk K G args vs ∧ G.c + c ≤ CM ∧ P args Q E ∧
  (∀ v G' x, Step c G G' → GOk G' → RvOk K G' v x → Q x → QH v G'.H) ∧
  (∀ x cls d G', Step c G G' → GOk G' → ExOk K G' x cls d → E x → EH cls d G'.H)

/-! ### a def by its body -/
def ends0 (Q : RV → Prop) (E : Ex → Prop) : OEnds := ⟨fun _ => Q (.d .non), fun x _ => Q x, fun _ => False, fun _ => False, fun x _ => E x⟩
/-- the slots at the start -/
def start0 (n : Nat) (args : List Sl) : RR := args ++ List.replicate (n - args.length) .no
theorem rel_start {G : Gh} {args : List Sl} {vs : List V} {N : List Str} (en : Entry G) (h : ArgsOk K G args vs) : Rel K G (L2.start N vs) (start0 N.length args) := by
  refine ⟨en.ok, ?_, fun i s e => ?_⟩
  · unfold start0 L2.start
    rw [List.length_append, List.length_append, List.length_replicate, List.length_replicate, List.length_map, h.length]
  · unfold start0 at e
    by_cases hi : i < args.length
    · rw [List.getElem?_append_left hi] at e
      obtain ⟨v, h1, h2⟩ := h.get e
      refine ⟨some v, ?_, h2.sl i⟩
      unfold L2.start
      rw [List.getElem?_append_left (by rw [List.length_map, h.length]; exact hi), List.getElem?_map, h1]
      rfl
    · rw [List.getElem?_append_right (by omega), List.getElem?_replicate] at e
      split at e
      · rename_i hlt
        cases e
        refine ⟨none, ?_, trivial⟩
        unfold L2.start
        rw [List.getElem?_append_right (by rw [List.length_map, h.length]; omega), List.getElem?_replicate, List.length_map, h.length, if_pos hlt]
      · cases e
section
variable {P : Program} {w : World} {mg : Str → Option Value} {base : Heap}
theorem fnO {x qual : Str} {st : Stmt} {f : Addr} {fdt : FuncData} {N ps : List Str} {k c : Nat} {pr : CP} (F : Fun K x qual st f fdt) (S : FnScope N ps (defScope st)) (sd : SDen) (hc : sd.cost ≤ c)
    (hbody : ∀ (cdv : Value) (A : Around) (outer : List Env) (s : Shared) (H : Hp) (E : XK), Room k (A.deeper (PyProof.Rows.envOfC qual (defScope st) s.heap.objs.size f cdv)) →
      OSs (cxOf (L2.CX P w) P w K mg base N qual (defScope st) f cdv A outer s H E) (fun cls d _ H' => E cls d H') (defBody st) sd)
    (hP : ∀ args Q E, pr args Q E → args.length = ps.length ∧ sd.wp (start0 N.length args) (ends0 Q E)) : FnOk P w K mg base (L2.CX P w) (k + 1) f fdt ps (spO K pr c) := by
  refine F.okX S (fun vs H Q E h => ?_) fun cdv A outer s H vs QH EH hr h => ?_
  · obtain ⟨G, args, Q, E, _, _, ao, _, p, _⟩ := h
    rw [ao.length]; exact (hP args Q E p).1
  · obtain ⟨G, args, Q, E, e1, en, ao, bud, p, kq, ke⟩ := h
    refine ⟨_, hbody cdv A outer s H EH hr, G, start0 N.length args, ends0 Q E, e1, rel_start en ao, by omega, (hP args Q E p).2, ?_, ?_, ?_, ?_, ?_⟩
    · exact fun σ' x cls d G' R' s r xo q => ke x cls d G' (s.le hc) r.ok xo q
    · exact fun σ' G' R' s r q => kq .non G' (.d .non) (s.le hc) r.ok (by show Rep _ _ _ _; unfold Rep; rfl) q
    · exact fun σ' G' R' v x s r vx q => kq v G' x (s.le hc) r.ok vx q
    · exact fun σ' G' R' s r q => q.elim
    · exact fun σ' G' R' s r q => q.elim
end

/-! ### a call -/
def Gh.callee (G : Gh) (st : Bool) : Gh := ⟨G.H, G.F, fun p => if st = true ∧ G.O p = some 0 then some 0 else none, G.c, fun p => ∃ o, G.H p = some o, if st = true then G.S else none⟩
def backO (o o' : Option Nat) (st : Bool) : Option Nat := match o with
  | some (i + 1) => some (i + 1)
  | o => if st = true then (if o' = some 0 then some 0 else none) else o
def Gh.back (G G' : Gh) (st : Bool) : Gh := ⟨G'.H, G'.F, fun p => backO (G.O p) (G'.O p) st, G'.c, G.B, G.S⟩
theorem callee_O {G : Gh} {st : Bool} {p : Addr} {i : Nat} (h : (G.callee st).O p = some i) : i = 0 ∧ st = true ∧ G.O p = some 0 := by
  have h : (if st = true ∧ G.O p = some 0 then some 0 else none) = some i := h
  split at h
  · rename_i q; cases h; exact ⟨rfl, q⟩
  · cases h
theorem callee_none {G : Gh} {st : Bool} {p : Addr} (h : ¬ (st = true ∧ G.O p = some 0)) : (G.callee st).O p = none := if_neg h
theorem entry_callee {G : Gh} {st : Bool} (ok : GOk G) : Entry (G.callee st) := by
  refine ⟨⟨ok.sub, fun p i h => ok.own p 0 (callee_O h).2.2, fun p h => h, fun p i h => ?_, fun p h => ?_⟩, fun p i h => (callee_O h).1, fun p => Iff.rfl⟩
  · have := (callee_O h).1; omega
  · cases st with
    | false => cases h
    | true => exact (ok.st p h).up (fun q o x y => ⟨y, if_pos ⟨rfl, x⟩⟩) (Nat.le_refl _)
section
variable {G G' : Gh} {st : Bool} {c : Nat} {σ : St} {R : RR}
/-- what the callee did not own is kept -/
theorem back_kept (s : Step c (G.callee st) G') {p : Addr} {o : HO} (h : ¬ (st = true ∧ G.O p = some 0)) (hH : G.H p = some o) (hF : G.F p = none) : G'.H p = some o ∧ G'.O p = none ∧ G'.F p = none :=
  s.fl p o hH (callee_none h) hF
theorem back_own {i : Nat} (p : Addr) (h : G.O p = some (i + 1)) : (G.back G' st).O p = some (i + 1) := by show backO (G.O p) _ _ = _; rw [h]; rfl
theorem back_cases {p : Addr} {j : Nat} (h : (G.back G' st).O p = some j) : (∃ i, j = i + 1 ∧ G.O p = some (i + 1)) ∨ (j = 0 ∧ st = true ∧ G'.O p = some 0) ∨ (j = 0 ∧ st = false ∧ G.O p = some 0) := by
  have h : backO (G.O p) (G'.O p) st = some j := h
  cases e : G.O p with
  | none =>
    rw [e] at h
    have h : (if st = true then (if G'.O p = some 0 then some 0 else none) else (none : Option Nat)) = some j := h
    split at h
    · split at h
      · cases h; exact .inr (.inl ⟨rfl, by assumption, by assumption⟩)
      · cases h
    · cases h
  | some i =>
    cases i with
    | zero =>
      rw [e] at h
      have h : (if st = true then (if G'.O p = some 0 then some 0 else none) else some 0) = some j := h
      split at h
      · split at h
        · cases h; exact .inr (.inl ⟨rfl, by assumption, by assumption⟩)
        · cases h
      · rename_i hs
        cases h
        exact .inr (.inr ⟨rfl, by cases st <;> simp_all, rfl⟩)
    | succ i => rw [e] at h; cases h; exact .inl ⟨i, rfl, rfl⟩
theorem gok_back (ok : GOk G) (s : Step c (G.callee st) G') (ok' : GOk G') : GOk (G.back G' st) := by
  refine ⟨ok'.sub, fun p j h => ?_, fun p h => ?_, fun p i h => ?_, fun p h => ?_⟩
  · rcases back_cases h with ⟨i, e, q⟩ | ⟨e, e2, q⟩ | ⟨e, e2, q⟩
    · obtain ⟨x, o, y⟩ := ok.own p _ q
      obtain ⟨z1, z2, z3⟩ := back_kept s (fun z => by rw [q] at z; cases z.2) y x
      exact ⟨z3, o, z1⟩
    · exact ok'.own p 0 q
    · obtain ⟨x, o, y⟩ := ok.own p _ q
      obtain ⟨z1, z2, z3⟩ := back_kept s (fun z => by rw [e2] at z; cases z.1) y x
      exact ⟨z3, o, z1⟩
  · obtain ⟨o, e⟩ := ok.old p h
    exact s.dom p o e
  · rcases back_cases h with ⟨j, e, q⟩ | ⟨e, _⟩ | ⟨e, _⟩
    · exact ok.new p j q
    · omega
    · omega
  · have h : G.S = some p := h
    cases st with
    | true =>
      refine (ok'.st p (s.ss p h)).up (fun q o x y => ⟨y, ?_⟩) (Nat.le_refl _)
      show backO (G.O q) (G'.O q) true = some 0
      cases e : G.O q with
      | none => show (if true = true then (if G'.O q = some 0 then some 0 else none) else (none : Option Nat)) = some 0; rw [if_pos rfl, if_pos x]
      | some i =>
        cases i with
        | zero => show (if true = true then (if G'.O q = some 0 then some 0 else none) else (some 0 : Option Nat)) = some 0; rw [if_pos rfl, if_pos x]
        | succ i =>
          obtain ⟨f, u, v⟩ := ok.own q _ e
          obtain ⟨_, z, _⟩ := back_kept s (fun z => by rw [e] at z; cases z.2) v f
          rw [x] at z; cases z
    | false =>
      refine (ok.st p h).up (fun q o x y => ?_) (show G.c ≤ G'.c from ?_)
      · obtain ⟨z1, _, _⟩ := back_kept s (fun z => by cases z.1) y (ok.own q 0 x).1
        refine ⟨z1, ?_⟩
        show backO (G.O q) (G'.O q) false = some 0
        rw [x]; rfl
      · exact s.up
theorem step_back (ok : GOk G) (s : Step c (G.callee st) G') : Step c G (G.back G' st) := by
  refine ⟨s.fz, fun p o h1 h2 h3 => ?_, s.bud, s.dom, rfl, fun _ h => h, s.up⟩
  obtain ⟨z1, z2, z3⟩ := back_kept s (fun z => by rw [h2] at z; cases z.2) h1 h3
  refine ⟨z1, ?_, z3⟩
  show backO (G.O p) (G'.O p) st = none
  rw [h2, z2]
  show (if st = true then (if (none : Option Nat) = some 0 then some 0 else none) else (none : Option Nat)) = none
  split <;> rfl
theorem rel_back (r : Rel K G σ R) (s : Step c (G.callee st) G') (ok' : GOk G') : Rel K (G.back G' st) σ R := by
  refine ⟨gok_back r.ok s ok', r.len, fun i sl e => ?_⟩
  obtain ⟨ov, h1, h2⟩ := r.sl i sl e
  refine ⟨ov, h1, ?_⟩
  cases sl with
  | no => trivial
  | fz x => obtain ⟨v, e, q⟩ := h2; exact ⟨v, e, Rep.mono s.fz x q⟩
  | ow t =>
    obtain ⟨v, e, q⟩ := h2
    refine ⟨v, e, q.keep s.fz fun p o x y z => ?_⟩
    obtain ⟨z1, z2, z3⟩ := back_kept s (fun z => by rw [x] at z; cases z.2) y z
    exact ⟨z1, back_own p x, z3⟩
  | bw t =>
    obtain ⟨v, e, q⟩ := h2
    refine ⟨v, e, q.keep s.fz fun p o x y z => ?_⟩
    obtain ⟨z1, z2, z3⟩ := (step_back r.ok s).fl p o y x.1 z
    exact ⟨z1, ⟨z2, x.2⟩, z3⟩
  | st => exact h2
  | sc ns =>
    obtain ⟨a, e, q, sn⟩ := h2
    refine ⟨a, e, ?_, sn⟩
    rcases q with (q | ⟨o, q⟩) | q
    · exact .inl (.inl (s.fz _ _ q))
    · exact .inl (.inr ⟨o, s.fz _ _ q⟩)
    · exact .inr q
theorem args_callee (r : Rel K G σ R) : ∀ {xs : List Val} {vs : List V} {args : List Sl}, ValsOk K G σ vs xs → argsOf R xs = some args → (hasSt args = true → st = true) → ArgsOk K (G.callee st) args vs
  | [], _, _, .nil, e, _ => by cases e; exact .nil
  | x :: xs, _, args, .cons (v := v) (vs := vs) h1 h2 h3, e, hst => by
    unfold argsOf at e
    cases e1 : argV R x with
    | none => rw [e1] at e; cases e
    | some s =>
      rw [e1] at e
      cases e2 : argsOf R xs with
      | none => rw [e2] at e; cases e
      | some ss =>
        rw [e2] at e
        cases e
        refine .cons ?_ (args_callee r h3 e2 fun z => hst (by unfold hasSt at *; rw [List.any_cons, z]; simp))
        cases x with
        | st => cases e1
        | d y => cases e1; exact h1
        | r i =>
          have e1 : argR (R[i]?) = some s := e1
          have h1 : σ[i]? = some (some v) := h1
          cases hi : R[i]? with
          | none => rw [hi] at e1; cases e1
          | some sl =>
            rw [hi] at e1
            obtain ⟨ov, g1, g2⟩ := r.sl i sl hi
            rw [h1] at g1; cases g1
            cases sl with
            | no => cases e1
            | fz y => cases e1
            | ow t =>
              cases e1
              obtain ⟨v', e', q⟩ := g2
              cases e'
              exact q.keep (fun _ _ z => z) fun p o x y z => ⟨y, ⟨callee_none (fun z => by rw [x] at z; cases z.2), o, y⟩, z⟩
            | bw t =>
              cases e1
              obtain ⟨v', e', q⟩ := g2
              cases e'
              exact q.keep (fun _ _ z => z) fun p o x y z => ⟨y, ⟨callee_none (fun z => by rw [x.1] at z; cases z.2), o, y⟩, z⟩
            | st =>
              cases e1
              obtain ⟨p, e', q⟩ := g2
              cases e'
              have : st = true := hst rfl
              subst this
              exact ⟨p, rfl, q⟩
            | sc ns => cases e1
end
end OW
namespace OW
open PySem PySem.Spec L2
variable {X : Cx} {W : WX} {K : PySem.W.Frag} {a b e : Expr} {es : List Expr} {pos : Pos} {da db de : EDen} {ad : ADen} {fd : FDen}

def RetOk (K : PySem.W.Frag) (G1 G2 : Gh) (v : V) : RV → Prop
  | .d x => Rep K G2.F x v
  | .o t => Own K (fun p => G2.O p = none ∧ G1.H p = none) G2.H G2.F t v
  | .st => ∃ p, v = .ref p ∧ StBy (fun p => G2.O p = none ∧ G1.H p = none ∧ G2.F p = none) G2.H G2.c p
section
variable {G1 : Gh} {σ : St} {R1 : RR} {xs : List Val} {vs : List V} {args : List Sl} {c : Nat} {P : CP} {Qc : RV → Prop} {Ec : Ex → Prop} {QH : VK} {EH : XK}
theorem new_back {st : Bool} {G' : Gh} (ok : GOk G1) (s : Step c (G1.callee st) G') {p : Addr} (h1 : G'.O p = none) (h2 : ¬ G'.B p) : (G1.back G' st).O p = none ∧ G1.H p = none := by
  have hn : G1.H p = none := by
    cases e : G1.H p with
    | none => rfl
    | some o => exact absurd (by rw [s.bs]; exact ⟨o, e⟩) h2
  refine ⟨?_, hn⟩
  show backO (G1.O p) (G'.O p) st = none
  rw [(ok.none hn).2, h1]
  show (if st = true then (if (none : Option Nat) = some 0 then some 0 else none) else (none : Option Nat)) = none
  split <;> rfl
theorem call_core (r1 : Rel K G1 σ R1) (v1 : ValsOk K G1 σ vs xs) (ea : argsOf R1 xs = some args) (bud : G1.c + c ≤ CM) (p : P args Qc Ec)
    (hq : ∀ v G2 rv, Step c G1 G2 → Rel K G2 σ R1 → RetOk K G1 G2 v rv → Qc rv → QH v G2.H) (he : ∀ x cls d G2, Step c G1 G2 → Rel K G2 σ R1 → ExOk K G2 x cls d → Ec x → EH cls d G2.H) : spO K P c vs G1.H QH EH := by
  refine ⟨G1.callee (hasSt args), args, Qc, Ec, rfl, entry_callee r1.ok, args_callee r1 v1 ea (fun h => h), bud, p, fun v G' rv s ok' vr q => ?_, fun x cls d G' s ok' xo q => ?_⟩
  · refine hq v (G1.back G' (hasSt args)) rv (step_back r1.ok s) (rel_back r1 s ok') ?_ q
    cases rv with
    | d x => exact vr
    | o t => exact Own.keep vr (fun _ _ z => z) fun p o ⟨x, y⟩ z u => ⟨z, new_back r1.ok s x y, u⟩
    | st =>
      obtain ⟨p, e, q⟩ := vr
      exact ⟨p, e, q.up (fun q o ⟨x, y, z⟩ u => ⟨u, (new_back r1.ok s x y).1, (new_back r1.ok s x y).2, z⟩) (Nat.le_refl _)⟩
  · exact he x cls d (G1.back G' (hasSt args)) (step_back r1.ok s) (rel_back r1 s ok') xo q
end
def rvD : RV → Option D
  | .d x => some x
  | .o t => some t.toD
  | .st => none
theorem rel_iceN {G : Gh} {σ : St} {R : RR} {p : Addr} {o : HO} (r : Rel K G σ R) (hO : G.O p = none) (hB : ¬ G.B p) (hH : G.H p = some o) (hF : G.F p = none) : Rel K ⟨G.H, upd G.F p o, G.O, G.c, G.B, G.S⟩ σ R := by
  have up : ∀ q u, G.F q = some u → upd G.F p o q = some u := fun q u z => by rw [upd_ne (ne_of_none z hF)]; exact z
  have n1 : ∀ q i, G.O q = some i → upd G.F p o q = none := fun q i z => by
    rw [upd_ne (fun w => by subst w; rw [hO] at z; cases z)]; exact (r.ok.own q i z).1
  refine ⟨⟨fun q u z => ?_, fun q i z => ⟨n1 q i z, (r.ok.own q i z).2⟩, r.ok.old, r.ok.new, r.ok.st⟩, r.len, fun i s e => ?_⟩
  · by_cases hq : q = p
    · subst hq
      have z : upd G.F q o q = some u := z
      rw [upd_same] at z; cases z; exact hH
    · have z : upd G.F p o q = some u := z
      rw [upd_ne hq] at z; exact r.ok.sub q u z
  · obtain ⟨ov, h1, h2⟩ := r.sl i s e
    refine ⟨ov, h1, ?_⟩
    cases s with
    | no => trivial
    | fz x => obtain ⟨v, e, q⟩ := h2; exact ⟨v, e, Rep.mono up x q⟩
    | ow t => obtain ⟨v, e, q⟩ := h2; exact ⟨v, e, q.keep up fun q u x y z => ⟨y, x, n1 q _ x⟩⟩
    | bw t => obtain ⟨v, e, q⟩ := h2; exact ⟨v, e, q.keep up fun q u x y z => ⟨y, x, by show upd G.F p o q = none; rw [upd_ne (fun w => by subst w; exact hB x.2)]; exact z⟩⟩
    | st => exact h2
    | sc ns =>
      obtain ⟨a, e, q, sn⟩ := h2
      refine ⟨a, e, ?_, sn⟩
      rcases q with (q | ⟨o, q⟩) | q
      · exact .inl (.inl (up _ _ q))
      · exact .inl (.inr ⟨o, up _ _ q⟩)
      · exact .inr q
theorem Own.iced {P : Addr → Prop} {H F : Hp} {t : T} {p : Addr} {o : HO} (h : Own K P H F t (.ref p)) (hH : H p = some o) (hF : F p = none) : Rep K (upd F p o) t.toD (.ref p) := by
  have up : ∀ q u, F q = some u → upd F p o q = some u := fun q u z => by rw [upd_ne (ne_of_none z hF)]; exact z
  cases t with
  | lst ds =>
    obtain ⟨p', vs, e', _, hH', _, rr⟩ := h
    cases e'
    rw [hH] at hH'; cases hH'
    unfold T.toD Rep
    exact ⟨p, vs, rfl, upd_same, Reps.mono up ds rr⟩
  | dic ds =>
    obtain ⟨p', vs, e', _, hH', _, rr⟩ := h
    cases e'
    rw [hH] at hH'; cases hH'
    unfold T.toD Rep
    exact ⟨p, vs, rfl, upd_same, RepK.mono up ds rr⟩
/-- a new container is frozen -/
theorem ice_new {G0 G2 : Gh} {n : Nat} {σ : St} {R : RR} {v : V} {t : T} (ok0 : GOk G0) (s : Step n G0 G2) (r : Rel K G2 σ R) (h : Own K (fun p => G2.O p = none ∧ G0.H p = none) G2.H G2.F t v) :
    ∃ G3, G3.H = G2.H ∧ Step n G0 G3 ∧ Rel K G3 σ R ∧ Rep K G3.F t.toD v := by
  obtain ⟨p, o, e, ⟨hO, hN⟩, hH, hF⟩ := Own.node h
  subst e
  refine ⟨⟨G2.H, upd G2.F p o, G2.O, G2.c, G2.B, G2.S⟩, rfl, ?_, rel_iceN r hO (fun z => ?_) hH hF, h.iced hH hF⟩
  · refine ⟨fun q u z => ?_, fun q u z1 z2 z3 => ?_, s.bud, s.dom, s.bs, s.ss, s.up⟩
    · show upd G2.F p o q = some u
      have := s.fz q u z
      rw [upd_ne (ne_of_none this hF)]; exact this
    · obtain ⟨y1, y2, y3⟩ := s.fl q u z1 z2 z3
      refine ⟨y1, y2, ?_⟩
      show upd G2.F p o q = none
      rw [upd_ne (ne_of_none z1 hN)]; exact y3
  · rw [s.bs] at z
    obtain ⟨u, e⟩ := ok0.old p z
    rw [hN] at e; cases e
/-- what came back, as frozen data -/
theorem ret_ice {G0 G1 G2 : Gh} {n c : Nat} {σ : St} {R : RR} {v : V} {rv : RV} {d : D} (ok0 : GOk G0) (s01 : Step n G0 G1) (s : Step c G1 G2) (r : Rel K G2 σ R) (h : RetOk K G1 G2 v rv) (e : rvD rv = some d) :
    ∃ G3, G3.H = G2.H ∧ Step (n + c) G0 G3 ∧ Rel K G3 σ R ∧ Rep K G3.F d v := by
  cases rv with
  | d x => cases e; exact ⟨G2, rfl, s01.trans s, r, h⟩
  | st => cases e
  | o t =>
    cases e
    exact ice_new ok0 (s01.trans s) r (Own.keep h (fun _ _ z => z) fun p o ⟨x, y⟩ z u => ⟨z, ⟨x, s01.new y⟩, u⟩)
/-- an expression that gives a new container, as any expression -/
def fE (fd : FDen) : EDen := ⟨fd.cost, fun R Q E => fd.wp R (fun t R1 => Q (.d t.toD) R1) E⟩
theorem oe_f (h : OF X W e fd) : OE X W e (fE fd) := peImp h fun σ H QH ⟨G, R, Q, E, e1, rel, bud, wp, ex, k⟩ => by
  refine ⟨G, R, _, E, e1, rel, bud, wp, ex, fun v G1 R1 t s1 r1 v1 q => ?_⟩
  obtain ⟨G2, g2, s2, r2, q2⟩ := ice_new rel.ok s1 r1 v1
  rw [← g2]
  exact k v G2 R1 (.d t.toD) s2 r2 q2 q

/-! ### calls -/
def eCall (P : CP) (c : Nat) (ad : ADen) : EDen := ⟨ad.cost + c, fun R Q E => ad.wp R (fun xs R1 => ∃ args, argsOf R1 xs = some args ∧ P args (fun rv => ∃ d, rvD rv = some d ∧ Q (.d d) R1) (fun x => E x R1)) E⟩
def fCall (P : CP) (c : Nat) (ad : ADen) : FDen := ⟨ad.cost + c, fun R Q E => ad.wp R (fun xs R1 => ∃ args, argsOf R1 xs = some args ∧ P args (fun rv => ∃ t, rv = .o t ∧ Q t R1) (fun x => E x R1)) E⟩
theorem ecall_core {P : CP} {c : Nat} (σ : St) (H : Hp) (QH : VK) (h : tO K W (eCall P c ad) σ H QH) : tCallS (spO K P c) (WE W) (tOA K W ad) σ H QH := by
  obtain ⟨G, R, Q, E, e1, rel, bud, wp, ex, k⟩ := h
  have bud : G.c + (ad.cost + c) ≤ CM := bud
  refine ⟨G, R, _, E, e1, rel, by omega, wp, fun x cls d G' R' s => ex x cls d G' R' (s.le (Nat.le_add_right _ _)), fun vs G1 R1 xs s1 r1 v1 q => ?_⟩
  obtain ⟨args, ea, p⟩ := q
  refine call_core r1 v1 ea (by have := s1.bud; omega) p (fun v G2 rv s2 r2 vr q => ?_) fun x cls d G2 s2 r2 xo q => ?_
  · obtain ⟨d, ed, q⟩ := q
    obtain ⟨G3, g3, s3, r3, q3⟩ := ret_ice rel.ok s1 s2 r2 vr ed
    rw [← g3]
    exact k v G3 R1 (.d d) s3 r3 q3 q
  · exact ex x cls d G2 R1 (s1.trans s2) r2 xo q
theorem fcall_core {P : CP} {c : Nat} (σ : St) (H : Hp) (QH : VK) (h : tOF K W (fCall P c ad) σ H QH) : tCallS (spO K P c) (WE W) (tOA K W ad) σ H QH := by
  obtain ⟨G, R, Q, E, e1, rel, bud, wp, ex, k⟩ := h
  have bud : G.c + (ad.cost + c) ≤ CM := bud
  refine ⟨G, R, _, E, e1, rel, by omega, wp, fun x cls d G' R' s => ex x cls d G' R' (s.le (Nat.le_add_right _ _)), fun vs G1 R1 xs s1 r1 v1 q => ?_⟩
  obtain ⟨args, ea, p⟩ := q
  refine call_core r1 v1 ea (by have := s1.bud; omega) p (fun v G2 rv s2 r2 vr q => ?_) fun x cls d G2 s2 r2 xo q => ?_
  · obtain ⟨t, et, q⟩ := q
    subst et
    exact k v G2 R1 t (s1.trans s2) r2 (Own.keep vr (fun _ _ z => z) fun p o ⟨x, y⟩ z u => ⟨z, ⟨x, s1.new y⟩, u⟩) q
  · exact ex x cls d G2 R1 (s1.trans s2) r2 xo q
section
variable {x : Str} {p : Pos} {k c : Nat} {f : Addr} {fdt : FuncData} {ps : List Str} {P : CP}
theorem oe_call (F : FnOk X.prog X.w X.K X.mg X.base (L2.CX X.prog X.w) k f fdt ps (spO X.K P c)) (hr : Room k X.A) (tk : Takes X W) (hg : Gl X x) (hm : X.mg x = some (.ref f)) (hk : PySem.W.keepIn X.K (.ref f) = true) (hb : Binds X.K fdt ps [])
    (ha : OA X W (e :: es) ad) (hdb : (x == ("__debug__" : Str)) = false := by decide) (he : starEach (e :: es) X.env = (false, eval e X.env) :: starEach es X.env := by rfl) (hpl : (backTo pos (starEach es X.env)).any (·.1) = false := by rfl) :
    OE X W (.Call (.Name x p) (e :: es) [] pos) (eCall P c ad) := peImp (pe_callS F hr hg hm hk hb (fun σ => passAt tk σ) ha hdb he hpl) ecall_core
theorem of_call (F : FnOk X.prog X.w X.K X.mg X.base (L2.CX X.prog X.w) k f fdt ps (spO X.K P c)) (hr : Room k X.A) (tk : Takes X W) (hg : Gl X x) (hm : X.mg x = some (.ref f)) (hk : PySem.W.keepIn X.K (.ref f) = true) (hb : Binds X.K fdt ps [])
    (ha : OA X W (e :: es) ad) (hdb : (x == ("__debug__" : Str)) = false := by decide) (he : starEach (e :: es) X.env = (false, eval e X.env) :: starEach es X.env := by rfl) (hpl : (backTo pos (starEach es X.env)).any (·.1) = false := by rfl) :
    OF X W (.Call (.Name x p) (e :: es) [] pos) (fCall P c ad) := peImp (pe_callS F hr hg hm hk hb (fun σ => passAt tk σ) ha hdb he hpl) fcall_core
/-- f() -/
theorem pe_call0S {CX : CXT} {sp : Sp} {E : St → XK} (F : FnOk X.prog X.w X.K X.mg X.base CX k f fdt ps sp) (hr : Room k X.A) (hg : Gl X x) (hm : X.mg x = some (.ref f)) (hk : PySem.W.keepIn X.K (.ref f) = true) (hb : Binds X.K fdt ps []) (hx : ∀ σ, PassesAt CX X σ (E σ))
    (hdb : (x == ("__debug__" : Str)) = false := by decide) : PE X (.Call (.Name x p) [] [] pos) (tCallS sp E tNil) := by
  refine ⟨fun pins s σ H Q I h => ?_⟩
  refine wpAny_Call_Name_kw (ld_glob I hg hm ?_ hdb)
  exact PySem.W.callWith_K0 I.kIn hk (run_fnS (us := []) F hr hb (hx σ) I .nil h)
theorem oa_nil_core {ad : ADen} (σ : St) (H : Hp) (Q : List V → Hp → Prop) (h : tOA K W aN σ H Q) : tNil σ H Q := by
  obtain ⟨G, R, Q, E, e1, rel, bud, wp, ex, k⟩ := h
  subst e1; exact k [] G R [] Step.refl rel .nil wp
theorem oe_call0 (F : FnOk X.prog X.w X.K X.mg X.base (L2.CX X.prog X.w) k f fdt ps (spO X.K P c)) (hr : Room k X.A) (tk : Takes X W) (hg : Gl X x) (hm : X.mg x = some (.ref f)) (hk : PySem.W.keepIn X.K (.ref f) = true) (hb : Binds X.K fdt ps [])
    (hdb : (x == ("__debug__" : Str)) = false := by decide) : OE X W (.Call (.Name x p) [] [] pos) (eCall P c aN) :=
  peImp (pe_call0S F hr hg hm hk hb (fun σ => passAt tk σ) hdb) fun σ H Q h => oa_nil_core (ad := aN) σ H _ (ecall_core σ H Q h)
end
end OW
namespace OW
open PySem PySem.Spec L2
variable {X : Cx} {W : WX} {K : PySem.W.Frag} {a b e : Expr} {es : List Expr} {pos : Pos} {da db de : EDen} {ad : ADen} {fd : FDen} {sd : SDen}

/-! ### targets -/
abbrev GD := D → RR → Option RR
def tOG (K : PySem.W.Frag) (ts : List Nat) (gd : GD) : TG := fun x σ H Q => ∃ G R d R1, G.H = H ∧ Rel K G σ R ∧ Rep K G.F d x ∧ gd d R = some R1 ∧
  ∀ σ2, Rel K G σ2 R1 → σ2.length = σ.length → (∀ j, j ∉ ts → σ2[j]? = σ[j]?) → Q σ2 G.H
def OG (X : Cx) (tg : Expr) (ts : List Nat) (gd : GD) : Prop := PG X tg (tOG X.K ts gd)
def gN (i : Nat) : GD := fun d R => some (R.set i (.fz d))
theorem og_name {i : Nat} {x : Str} (hN : X.N.Nodup) (hi : X.N[i]? = some x) (hx : Loc X.env.scope x) (hf : X.fn x = true ∨ X.env.scope.names.lookup x = some .local := by first | exact .inl rfl | exact .inr rfl | assumption) : OG X (.Name x pos) [i] (gN i) :=
  ⟨fun pins s σ H v u Q I r h => (pg_name hN hi hx hf).run pins s σ H v u Q I r (by
    obtain ⟨G, R, d, R1, e1, rel, rep, e2, k⟩ := h
    cases e2
    show Q (σ.set i (some v)) H
    rw [← e1]
    refine k _ (rel_put (s := .fz d) rel ⟨v, rfl, rep⟩) List.length_set fun j hj => ?_
    rw [List.getElem?_set_ne (fun z => hj (by simp [z]))])⟩

/-! ### what a loop walks -/
structure IDen where
  cost : Nat
  wp : RR → (List D → (RR → Prop) → RR → Prop) → (Ex → RR → Prop) → Prop
/-- J yields the items, as long as the guard holds of the slots; free: whatever the slots do -/
def LiveC (K : PySem.W.Frag) (J : It) (items : List D) (σ : St) (gd : RR → Prop) (G : Gh) : Prop := ∀ n G' R', Step n G G' → Rel K G' σ R' → gd R' →
  ∀ i, (∀ d, items[i]? = some d → J.go i G'.H ∧ ∀ x H', J.yld i G'.H x H' → H' = G'.H ∧ Rep K G'.F d x) ∧ (items.length ≤ i → J.stop i G'.H)
def LiveF (K : PySem.W.Frag) (J : It) (items : List D) (G : Gh) : Prop := ∀ n G', Step n G G' → GOk G' →
  ∀ i, (∀ d, items[i]? = some d → J.go i G'.H ∧ ∀ x H', J.yld i G'.H x H' → H' = G'.H ∧ Rep K G'.F d x) ∧ (items.length ≤ i → J.stop i G'.H)
theorem LiveF.c {J : It} {items : List D} {G : Gh} (h : LiveF K J items G) (σ : St) (gd : RR → Prop) : LiveC K J items σ gd G := fun n G' R' s r _ => h n G' s r.ok
/-- for a loop: the items live whatever happens -/
def tOI (K : PySem.W.Frag) (W : WX) (de : IDen) : TI := fun σ H RJ => ∃ G R Q E, G.H = H ∧ Rel K G σ R ∧ G.c + de.cost ≤ CM ∧ de.wp R Q E ∧ ExW K W de.cost G σ E ∧
  ∀ J items G' R', Step de.cost G G' → Rel K G' σ R' → LiveF K J items G' → Q items (fun _ => True) R' → RJ J G'.H
def OI (X : Cx) (W : WX) (tg iter : Expr) (de : IDen) : Prop := PI X tg iter (tOI X.K W de)
def tOIC (K : PySem.W.Frag) (W : WX) (de : IDen) : TI := fun σ H RJ => ∃ G R Q E, G.H = H ∧ Rel K G σ R ∧ G.c + de.cost ≤ CM ∧ de.wp R Q E ∧ ExW K W de.cost G σ E ∧
  ∀ J items gd G' R', Step de.cost G G' → Rel K G' σ R' → (∀ (ws : List Nat), LiveC K J items (wipe σ ws) gd G') → gd R' → Q items gd R' → RJ J G'.H
def OIC (X : Cx) (W : WX) (tg iter : Expr) (de : IDen) : Prop := PI X tg iter (tOIC X.K W de)
theorem piImp {tg iter : Expr} {t t' : TI} (h : PI X tg iter t) (i : ∀ σ H Q, t' σ H Q → t σ H Q) : PI X tg iter t' := ⟨fun pins s σ H R I q => h.run pins s σ H R I (i σ H R q)⟩

/-- a list, a tuple or a text, whichever the value is -/
def iVal (K : PySem.W.Frag) (tl : TE) : TI := fun σ H R => tl σ H fun x H1 => (∃ a, x = .ref a ∧ (∃ xs, SqL K H1 a xs) ∧ R (Itl K a) H1) ∨ (∃ a, x = .ref a ∧ (∃ xs, SqT K H1 a xs) ∧ R (Itt K a) H1) ∨ ∃ y, x = .str y ∧ R (Its y) H1
theorem pi_val {tg l : Expr} {tl : TE} (hl : PE X l tl) : PI X tg l (iVal X.K tl) :=
  ⟨fun pins s σ H R I h => thn (hl.run pins s σ H _ I h) fun v s1 ⟨x, H1, I1, r1, q1⟩ => by
    rcases q1 with ⟨a, ea, ⟨xs, hq⟩, q⟩ | ⟨a, ea, ⟨xs, hq⟩, q⟩ | ⟨y, ey, q⟩
    · subst ea; cases r1
      obtain ⟨_, _, pl, _⟩ := I1.list hq
      exact wpAny_pyIter_list pl.isList (pi_one (tk := s1.toks) I1 _ (turn_list a _) ⟨_, Heap.get?_push_size _ rfl, rfl, rfl⟩ q)
    · subst ea; cases r1
      obtain ⟨its, _, pt, _⟩ := I1.tuple hq
      exact wpAny_pyIter_tuple (show s1.heap.IsTuple a its.toArray from pt) (pi_one (tk := s1.toks) I1 _ (turn_tuple a _) ⟨_, Heap.get?_push_size _ rfl, rfl, rfl⟩ q)
    · subst ey
      obtain ⟨t, rfl⟩ := r1
      cases hw : y.cps.all (· < 128) with
      | false => exact wpAny_pyIter_wide hw (pi_one (tk := s1.toks) I1 _ (turn_str _ y t "str_iterator" (.inr rfl)) ⟨_, Heap.get?_push_size _ rfl, rfl, rfl⟩ q)
      | true => exact wpAny_pyIter_ascii hw (pi_one (tk := s1.toks) I1 _ (turn_str _ y t "str_ascii_iterator" (.inl rfl)) ⟨_, Heap.get?_push_size _ rfl, rfl, rfl⟩ q)⟩
def charsOf (s : Str) : List D := s.cps.toList.map fun c => D.str ⟨#[c]⟩
def itD : D → Option (List D)
  | .lst ds => some ds
  | .tup ds => some ds
  | .str s => some (charsOf s)
  | _ => none
/-- the iterator of data: its making and its life -/
def itOf (K : PySem.W.Frag) (H : Hp) (RJ : It → Hp → Prop) (x : V) : Prop := (∃ a, x = .ref a ∧ (∃ xs, SqL K H a xs) ∧ RJ (Itl K a) H) ∨ (∃ a, x = .ref a ∧ (∃ xs, SqT K H a xs) ∧ RJ (Itt K a) H) ∨ ∃ y, x = .str y ∧ RJ (Its y) H
theorem item_l {H F : Hp} {a : Addr} {vs : List V} {ds : List D} (hH : H a = some (.lst vs)) (rs : Reps K F ds vs) (i : Nat) : (∀ d, ds[i]? = some d → (Itl K a).go i H ∧ ∀ x H', (Itl K a).yld i H x H' → H' = H ∧ Rep K F d x) ∧ (ds.length ≤ i → (Itl K a).stop i H) := by
  refine ⟨fun d hd => ?_, fun hl => ⟨vs, SqL.of hH, by rw [rs.length]; exact hl⟩⟩
  obtain ⟨v, h1, h2⟩ := rs.get hd
  refine ⟨⟨vs, v, SqL.of hH, h1⟩, fun x H' ⟨e1, e2⟩ => ⟨e1, ?_⟩⟩
  have e3 := e2 vs (SqL.of hH)
  rw [h1] at e3; cases e3; exact h2
theorem item_t {H F : Hp} {a : Addr} {vs : List V} {ds : List D} (hH : SqT K H a vs) (rs : Reps K F ds vs) (i : Nat) : (∀ d, ds[i]? = some d → (Itt K a).go i H ∧ ∀ x H', (Itt K a).yld i H x H' → H' = H ∧ Rep K F d x) ∧ (ds.length ≤ i → (Itt K a).stop i H) := by
  refine ⟨fun d hd => ?_, fun hl => ⟨vs, hH, by rw [rs.length]; exact hl⟩⟩
  obtain ⟨v, h1, h2⟩ := rs.get hd
  refine ⟨⟨vs, v, hH, h1⟩, fun x H' ⟨e1, e2⟩ => ⟨e1, ?_⟩⟩
  have e3 := e2 vs hH
  rw [h1] at e3; cases e3; exact h2
theorem item_s {H F : Hp} {y : Str} (i : Nat) : (∀ d, (charsOf y)[i]? = some d → (Its y).go i H ∧ ∀ x H', (Its y).yld i H x H' → H' = H ∧ Rep K F d x) ∧ ((charsOf y).length ≤ i → (Its y).stop i H) := by
  have hl : (charsOf y).length = y.cps.size := by unfold charsOf; rw [List.length_map, Array.length_toList]
  refine ⟨fun d hd => ?_, fun h => by rw [hl] at h; exact h⟩
  have hi : i < y.cps.size := by rw [← hl]; exact (List.getElem?_eq_some_iff.mp hd).1
  refine ⟨hi, fun x H' ⟨e1, c, e2, e3⟩ => ⟨e1, ?_⟩⟩
  unfold charsOf at hd
  rw [List.getElem?_map, Array.getElem?_toList, e2] at hd
  cases hd
  unfold Rep; exact e3
/-- frozen data as a source -/
theorem src_d {G : Gh} (ok : GOk G) {y : D} {v : V} {ds : List D} (h : Rep K G.F y v) (e : itD y = some ds) {RJ : It → Hp → Prop} (q : ∀ J, LiveF K J ds G → RJ J G.H) : itOf K G.H RJ v := by
  cases y with
  | lst xs =>
    cases e
    unfold Rep at h
    obtain ⟨p, vs, e1, e2, e3⟩ := h
    exact .inl ⟨p, e1, ⟨vs, SqL.of (ok.sub _ _ e2)⟩, q _ fun n G' s ok' i => item_l (ok'.sub _ _ (s.fz _ _ e2)) (Reps.mono s.fz _ e3) i⟩
  | tup xs =>
    cases e
    unfold Rep at h
    obtain ⟨p, vs, e1, e2, e3⟩ := h
    exact .inr (.inl ⟨p, e1, ⟨vs, sqT_mono ok.sub e2⟩, q _ fun n G' s ok' i => item_t (sqT_mono ok'.sub (sqT_mono s.fz e2)) (Reps.mono s.fz _ e3) i⟩)
  | str x =>
    cases e
    unfold Rep at h
    exact .inr (.inr ⟨x, h, q _ fun n G' s ok' i => item_s i⟩)
  | non => cases e
  | bl b => cases e
  | int b => cases e
  | ty b => cases e
  | glob b => cases e
  | dic b => cases e
  | ins C b => cases e
/-- a borrowed list as a source -/
theorem src_b {G : Gh} {v : V} {ds : List D} (h : Own K (fun p => G.O p = none ∧ G.B p) G.H G.F (.lst ds) v) {RJ : It → Hp → Prop} (q : ∀ J, LiveF K J ds G → RJ J G.H) : itOf K G.H RJ v := by
  obtain ⟨p, vs, e1, e2, e3, e4, e5⟩ := h
  exact .inl ⟨p, e1, ⟨vs, SqL.of e3⟩, q _ fun n G' s ok' i => item_l (s.fl _ _ e3 e2.1 e4).1 (Reps.mono s.fz _ e5) i⟩
def itR (R : RR) (i : Nat) : Option Sl → Option (List D × RR)
  | some (.ow (.lst ds)) => some (ds, R.set i (.fz (.lst ds)))
  | some (.bw (.lst ds)) => some (ds, R)
  | _ => none
def itV (R : RR) : Val → Option (List D × RR)
  | .d y => (itD y).map fun ds => (ds, R)
  | .r i => itR R i (R[i]?)
  | .st => none
def iV (de : EDen) : IDen := ⟨de.cost, fun R Q E => de.wp R (fun x R1 => ∃ ds R2, itV R1 x = some (ds, R2) ∧ Q ds (fun _ => True) R2) E⟩
theorem oi_val {tg : Expr} (h : OE X W e de) : OI X W tg e (iV de) :=
  piImp (pi_val h) fun σ H RJ ⟨G, R, Q, E, e1, rel, bud, wp, ex, k⟩ => by
    refine ⟨G, R, _, E, e1, rel, bud, wp, ex, fun v G1 R1 x s1 r1 v1 q => ?_⟩
    obtain ⟨ds, R2, e2, q⟩ := q
    cases x with
    | st => cases e2
    | d y =>
      have e2 : (itD y).map (fun ds => (ds, R1)) = some (ds, R2) := e2
      cases hy : itD y with
      | none => rw [hy] at e2; cases e2
      | some es =>
        rw [hy] at e2; cases e2
        exact src_d r1.ok v1 hy fun J lv => k J ds G1 R1 s1 r1 lv q
    | r i =>
      have e2 : itR R1 i (R1[i]?) = some (ds, R2) := e2
      have v1 : σ[i]? = some (some v) := v1
      cases hi : R1[i]? with
      | none => rw [hi] at e2; cases e2
      | some sl =>
        rw [hi] at e2
        cases sl with
        | no => cases e2
        | fz y => cases e2
        | st => cases e2
        | sc ns => cases e2
        | ow t =>
          cases t with
          | dic kvs => cases e2
          | lst es =>
            cases e2
            obtain ⟨G2, g2, s2, r2, q2⟩ := ice_ok r1 hi v1
            rw [← g2]
            exact src_d r2.ok q2 rfl fun J lv => k J ds G2 _ ((s1.trans s2).le (Nat.le_refl _)) r2 lv q
        | bw t =>
          cases t with
          | dic kvs => cases e2
          | lst es =>
            cases e2
            obtain ⟨ov, h1, h2⟩ := r1.sl i _ hi
            rw [v1] at h1; cases h1
            obtain ⟨w, e3, q3⟩ := h2
            cases e3
            exact src_b q3 fun J lv => k J ds G1 R1 s1 r1 lv q
def itCR (i : Nat) : Option Sl → Option (List D × (RR → Prop))
  | some (.ow (.lst ds)) => some (ds, fun R' => R'[i]? = some (.ow (.lst ds)))
  | some (.bw (.lst ds)) => some (ds, fun _ => True)
  | _ => none
def itC (R : RR) : Val → Option (List D × (RR → Prop))
  | .d y => (itD y).map fun ds => (ds, fun _ => True)
  | .r i => itCR i (R[i]?)
  | .st => none
def iVC (de : EDen) : IDen := ⟨de.cost, fun R Q E => de.wp R (fun x R1 => ∃ ds gd, itC R1 x = some (ds, gd) ∧ Q ds gd R1) E⟩
theorem oic_val {tg : Expr} (h : OE X W e de) : OIC X W tg e (iVC de) :=
  piImp (pi_val h) fun σ H RJ ⟨G, R, Q, E, e1, rel, bud, wp, ex, k⟩ => by
    refine ⟨G, R, _, E, e1, rel, bud, wp, ex, fun v G1 R1 x s1 r1 v1 q => ?_⟩
    obtain ⟨ds, gd, e2, q⟩ := q
    cases x with
    | st => cases e2
    | d y =>
      have e2 : (itD y).map (fun ds => (ds, fun (_ : RR) => True)) = some (ds, gd) := e2
      cases hy : itD y with
      | none => rw [hy] at e2; cases e2
      | some es =>
        rw [hy] at e2; cases e2
        exact src_d r1.ok v1 hy fun J lv => k J ds _ G1 R1 s1 r1 (fun _ => lv.c _ _) trivial q
    | r i =>
      have e2 : itCR i (R1[i]?) = some (ds, gd) := e2
      have v1 : σ[i]? = some (some v) := v1
      cases hi : R1[i]? with
      | none => rw [hi] at e2; cases e2
      | some sl =>
        rw [hi] at e2
        cases sl with
        | no => cases e2
        | fz y => cases e2
        | st => cases e2
        | sc ns => cases e2
        | ow t =>
          cases t with
          | dic kvs => cases e2
          | lst es =>
            cases e2
            obtain ⟨ov, h1, h2⟩ := r1.sl i _ hi
            rw [v1] at h1; cases h1
            obtain ⟨w, e3, p, vs, e4, e5, e6, e7, e8⟩ := h2
            cases e3
            refine .inl ⟨p, e4, ⟨vs, SqL.of e6⟩, k _ ds _ G1 R1 s1 r1 (fun ws n G' R' s r g j => ?_) hi q⟩
            obtain ⟨ov', h1', h2'⟩ := r.sl i _ g
            obtain ⟨w', e3', p', vs', e4', e5', e6', e7', e8'⟩ := h2'
            subst e3'
            have hw := (wipe_some h1').1
            rw [v1] at hw; cases hw
            rw [e4] at e4'; cases e4'
            exact item_l e6' e8' j
        | bw t =>
          cases t with
          | dic kvs => cases e2
          | lst es =>
            cases e2
            obtain ⟨ov, h1, h2⟩ := r1.sl i _ hi
            rw [v1] at h1; cases h1
            obtain ⟨w, e3, q3⟩ := h2
            cases e3
            exact src_b q3 fun J lv => k J ds _ G1 R1 s1 r1 (fun _ => lv.c _ _) trivial q

/-! ### ranges -/
def rangeD (lo : Int) (n : Nat) : List D := (List.range n).map fun (k : Nat) => D.int (lo + (k : Int))
theorem item_r {H F : Hp} {lo : Int} {n : Nat} (i : Nat) : (∀ d, (rangeD lo n)[i]? = some d → (Itr lo n).go i H ∧ ∀ x H', (Itr lo n).yld i H x H' → H' = H ∧ Rep K F d x) ∧ ((rangeD lo n).length ≤ i → (Itr lo n).stop i H) := by
  have hl : (rangeD lo n).length = n := by unfold rangeD; rw [List.length_map, List.length_range]
  refine ⟨fun d hd => ?_, fun h => by rw [hl] at h; exact h⟩
  have hi : i < n := by rw [← hl]; exact (List.getElem?_eq_some_iff.mp hd).1
  refine ⟨hi, fun x H' ⟨e1, e2⟩ => ⟨e1, ?_⟩⟩
  unfold rangeD at hd
  rw [List.getElem?_map, List.getElem?_range hi] at hd
  cases hd
  unfold Rep; exact e2
def iR1 (ad : ADen) : IDen := ⟨ad.cost, fun R Q E => ad.wp R (fun xs R1 => ∃ j, rdDs R1 xs = some [.int j] ∧ -(2 ^ 62) ≤ j ∧ j < 2 ^ 62 ∧ Q (rangeD 0 j.toNat) (fun _ => True) R1) E⟩
def iR2 (ad : ADen) : IDen := ⟨ad.cost, fun R Q E => ad.wp R (fun xs R1 => ∃ i j, rdDs R1 xs = some [.int i, .int j] ∧ (-(2 ^ 62) ≤ i ∧ i < 2 ^ 62 ∧ -(2 ^ 62) ≤ j ∧ j < 2 ^ 62) ∧ Q (rangeD i (j - i).toNat) (fun _ => True) R1) E⟩
theorem tops1 {H F : Hp} {d : D} {vs : List V} (h : Tops K H F [d] vs) : ∃ v, vs = [v] ∧ Top K H F d v := by
  cases h with
  | cons a b => cases b; exact ⟨_, rfl, a⟩
theorem tops2 {H F : Hp} {d1 d2 : D} {vs : List V} (h : Tops K H F [d1, d2] vs) : ∃ v w, vs = [v, w] ∧ Top K H F d1 v ∧ Top K H F d2 w := by
  cases h with
  | cons a b =>
    obtain ⟨w, e, q⟩ := tops1 b
    exact ⟨_, w, by rw [e], a, q⟩
theorem top_int {H F : Hp} {i : Int} {v : V} (h : Top K H F (.int i) v) : v = .int i := by unfold Top Rep at h; exact h
theorem r1_core (σ : St) (H : Hp) (RJ : It → Hp → Prop) (h : ∃ G R Q E, G.H = H ∧ Rel K G σ R ∧ G.c + ad.cost ≤ CM ∧ (iR1 ad).wp R Q E ∧ ExW K W ad.cost G σ E ∧
    ∀ J items G' R', Step ad.cost G G' → Rel K G' σ R' → LiveF K J items G' → Q items (fun _ => True) R' → RJ J G'.H) : iRng1 (tOA K W ad) σ H RJ := by
  obtain ⟨G, R, Q, E, e1, rel, bud, wp, ex, k⟩ := h
  refine ⟨G, R, _, E, e1, rel, bud, wp, ex, fun vs G1 R1 xs s1 r1 v1 q => ?_⟩
  obtain ⟨j, e2, b1, b2, q⟩ := q
  obtain ⟨v, e3, t1⟩ := tops1 (rd_tops r1 v1 e2)
  rw [top_int t1] at e3
  exact ⟨j, e3, b1, b2, k _ _ G1 R1 s1 r1 (fun n G' s ok' i => item_r i) q⟩
theorem r2_core (σ : St) (H : Hp) (RJ : It → Hp → Prop) (h : ∃ G R Q E, G.H = H ∧ Rel K G σ R ∧ G.c + ad.cost ≤ CM ∧ (iR2 ad).wp R Q E ∧ ExW K W ad.cost G σ E ∧
    ∀ J items G' R', Step ad.cost G G' → Rel K G' σ R' → LiveF K J items G' → Q items (fun _ => True) R' → RJ J G'.H) : iRng2 (tOA K W ad) σ H RJ := by
  obtain ⟨G, R, Q, E, e1, rel, bud, wp, ex, k⟩ := h
  refine ⟨G, R, _, E, e1, rel, bud, wp, ex, fun vs G1 R1 xs s1 r1 v1 q => ?_⟩
  obtain ⟨i, j, e2, b, q⟩ := q
  obtain ⟨v, w, e3, t1, t2⟩ := tops2 (rd_tops r1 v1 e2)
  rw [top_int t1, top_int t2] at e3
  exact ⟨i, j, e3, b, k _ _ G1 R1 s1 r1 (fun n G' s ok' i => item_r i) q⟩
section
variable {tg : Expr} {p : Pos}
theorem oi_range1 (hg : Gl X "range") (hm : X.mg "range" = none) (ha : OA X W [a] ad) (hs : starEach [a] X.env = [(false, eval a X.env)] := by rfl) : OI X W tg (.Call (.Name "range" p) [a] [] pos) (iR1 ad) :=
  piImp (pi_range1 hg hm ha hs) fun σ H RJ h => r1_core σ H RJ h
theorem oic_range1 (hg : Gl X "range") (hm : X.mg "range" = none) (ha : OA X W [a] ad) (hs : starEach [a] X.env = [(false, eval a X.env)] := by rfl) : OIC X W tg (.Call (.Name "range" p) [a] [] pos) (iR1 ad) :=
  piImp (pi_range1 hg hm ha hs) fun σ H RJ ⟨G, R, Q, E, e1, rel, bud, wp, ex, k⟩ => r1_core σ H RJ ⟨G, R, Q, E, e1, rel, bud, wp, ex, fun J items G' R' s r lv q => k J items _ G' R' s r (fun _ => lv.c _ _) trivial q⟩
theorem oi_range2 (hg : Gl X "range") (hm : X.mg "range" = none) (ha : OA X W [a, b] ad) (hs : starEach [a, b] X.env = [(false, eval a X.env), (false, eval b X.env)] := by rfl) (hs2 : starEach [b] X.env = [(false, eval b X.env)] := by rfl) : OI X W tg (.Call (.Name "range" p) [a, b] [] pos) (iR2 ad) :=
  piImp (pi_range2 hg hm ha hs hs2) fun σ H RJ h => r2_core σ H RJ h
theorem oic_range2 (hg : Gl X "range") (hm : X.mg "range" = none) (ha : OA X W [a, b] ad) (hs : starEach [a, b] X.env = [(false, eval a X.env), (false, eval b X.env)] := by rfl) (hs2 : starEach [b] X.env = [(false, eval b X.env)] := by rfl) : OIC X W tg (.Call (.Name "range" p) [a, b] [] pos) (iR2 ad) :=
  piImp (pi_range2 hg hm ha hs hs2) fun σ H RJ ⟨G, R, Q, E, e1, rel, bud, wp, ex, k⟩ => r2_core σ H RJ ⟨G, R, Q, E, e1, rel, bud, wp, ex, fun J items G' R' s r lv q => k J items _ G' R' s r (fun _ => lv.c _ _) trivial q⟩
end

/-! ### the loop -/
def loopW (gd : GD) (body : SDen) (N : OEnds) : List D → RR → Prop
  | [], R => N.nx R
  | d :: ds, R => ∃ R1, gd d R = some R1 ∧ body.wp R1 { N with nx := loopW gd body N ds, ct := loopW gd body N ds, bk := N.nx }
def sFor (it : IDen) (gd : GD) (body : SDen) : SDen := ⟨it.cost + LIM * body.cost, fun R N => it.wp R (fun ds _ R1 => (body.cost = 0 ∨ ds.length ≤ LIM) ∧ loopW gd body N ds R1) N.ex⟩
theorem os_for {iter tg : Expr} {body : List Stmt} {ts : List Nat} {gd : GD} {it : IDen} (hp : PassesOwn (model X.prog X.w) X.A X.env X.xe) (hc : X.calm = true) (hi : OI X W tg iter it) (hg : OG X tg ts gd) (hb : OSs X W body sd)
    (hs : ∀ x, foldedSetIterable iter X.env x = pure x := by intro _; rfl) : OS X W (.For tg iter body [] pos) (sFor it gd sd) :=
  psImp (ps_for hp hc hi hg hb hs) fun D σ H ⟨G, R, N, e1, rel, bud, wp, hx, hn, hr, hb, hc⟩ => by
    have bud : G.c + (it.cost + LIM * sd.cost) ≤ CM := bud
    have l0 : it.cost ≤ (sFor it gd sd).cost := Nat.le_add_right _ _
    refine ⟨G, R, _, N.ex, e1, rel, by omega, wp, fun x cls d G' R' s => hx σ x cls d G' R' (s.le l0), fun J items G1 R1 s1 r1 lv ⟨hl, lp⟩ => ?_⟩
    have lc : ∀ i, i ≤ items.length → i * sd.cost ≤ LIM * sd.cost := fun i hi => by
      rcases hl with z | z
      · rw [z]; simp
      · exact Nat.mul_le_mul_right _ (Nat.le_trans hi z)
    refine ⟨fun i m σ' H' => ∃ G' R', G'.H = H' ∧ Rel X.K G' σ' R' ∧ Step (i * sd.cost) G1 G' ∧ i ≤ items.length ∧ m = items.length - i ∧ loopW gd sd N (items.drop i) R',
      ⟨items.length, G1, R1, rfl, r1, by simpa using Step.refl, Nat.zero_le _, by simp, by simpa using lp⟩, fun i m σ' H' ⟨G', R', e2, r2, s2, hi, em, lp⟩ => ?_⟩
    subst e2
    have tot : ∀ {n : Nat} {G2 : Gh}, Step n G' G2 → n ≤ sd.cost → i < items.length → Step (sFor it gd sd).cost G G2 := fun {n G2} s hn hlt => by
      refine ((s1.trans s2).trans s).le ?_
      show it.cost + i * sd.cost + n ≤ it.cost + LIM * sd.cost
      have := lc (i + 1) hlt
      rw [Nat.succ_mul] at this
      omega
    by_cases hlt : i < items.length
    · right
      have hd : items[i]? = some items[i] := List.getElem?_eq_getElem hlt
      have hdr : items.drop i = items[i] :: items.drop (i + 1) := List.drop_eq_getElem_cons hlt
      rw [hdr] at lp
      obtain ⟨R3, eg, lp⟩ := lp
      obtain ⟨go, yl⟩ := (lv _ G' s2 r2.ok i).1 _ hd
      refine ⟨go, fun σ'' H'' => ∃ G'' R'', G''.H = H'' ∧ Rel X.K G'' σ'' R'' ∧ Step ((i + 1) * sd.cost) G1 G'' ∧ loopW gd sd N (items.drop (i + 1)) R'', fun σ'' H'' ⟨G'', R'', g, r, s, l⟩ => ⟨m - 1, by omega, G'', R'', g, r, s, hlt, by omega, l⟩, fun x H2 y => ?_⟩
      obtain ⟨e3, rep⟩ := yl x H2 y
      subst e3
      refine ⟨G', R', _, R3, rfl, r2, rep, eg, fun σ2 r3 _ _ => ?_⟩
      have nxt : ∀ {G2 : Gh}, Step sd.cost G' G2 → Step ((i + 1) * sd.cost) G1 G2 := fun {G2} s => (s2.trans s).le (by rw [Nat.succ_mul]; omega)
      refine ⟨G', R3, _, rfl, r3, ?_, lp, fun σ' x cls d G2 R2 s => hx σ' x cls d G2 R2 (tot s (Nat.le_refl _) hlt), fun σ' G2 R2 s r q => ⟨G2, R2, rfl, r, nxt s, q⟩, fun σ' G2 R2 v x s => hr σ' G2 R2 v x (tot s (Nat.le_refl _) hlt), fun σ' G2 R2 s => hn σ' G2 R2 (tot s (Nat.le_refl _) hlt), fun σ' G2 R2 s r q => ⟨G2, R2, rfl, r, nxt s, q⟩⟩
      have := (s1.trans s2).bud
      have := lc (i + 1) hlt
      rw [Nat.succ_mul] at this
      omega
    · left
      refine ⟨(lv _ G' s2 r2.ok i).2 (by omega), ?_⟩
      have : items.drop i = [] := List.drop_eq_nil_of_le (by omega)
      rw [this] at lp
      refine hn σ' G' R' ((s1.trans s2).le ?_) r2 lp
      show it.cost + i * sd.cost ≤ it.cost + LIM * sd.cost
      have := lc i hi
      omega
end OW
namespace OW
open PySem PySem.Spec L2
variable {X : Cx} {W : WX} {K : PySem.W.Frag} {a b e : Expr} {es : List Expr} {pos : Pos} {da db de : EDen} {ad : ADen} {fd : FDen} {sd : SDen}

/-! ### comprehensions -/
def wipeR (R : RR) : List Nat → RR
  | [] => R
  | v :: vs => (wipeR R vs).set v .no
theorem wipeR_length (R : RR) : ∀ vs : List Nat, (wipeR R vs).length = R.length
  | [] => rfl
  | v :: vs => by unfold wipeR; rw [List.length_set, wipeR_length R vs]
theorem wipeR_get {R : RR} {i : Nat} {s : Sl} : ∀ {vs : List Nat}, (wipeR R vs)[i]? = some s → (i ∈ vs ∧ s = .no) ∨ (i ∉ vs ∧ R[i]? = some s)
  | [], h => .inr ⟨by simp, h⟩
  | v :: vs, h => by
    unfold wipeR at h
    by_cases hi : v = i
    · subst hi
      rw [List.getElem?_set] at h
      split at h
      · split at h
        · cases h; exact .inl ⟨by simp, rfl⟩
        · cases h
      · rename_i hne; exact absurd rfl hne
    · rw [List.getElem?_set_ne hi] at h
      rcases wipeR_get h with ⟨h1, h2⟩ | ⟨h1, h2⟩
      · exact .inl ⟨List.mem_cons_of_mem _ h1, h2⟩
      · exact .inr ⟨by simp only [List.mem_cons, not_or]; exact ⟨fun z => hi z.symm, h1⟩, h2⟩
theorem wipe_get {σ : St} {i : Nat} : ∀ {vs : List Nat}, i ∉ vs → (wipe σ vs)[i]? = σ[i]?
  | [], _ => rfl
  | v :: vs, h => by
    simp only [List.mem_cons, not_or] at h
    unfold wipe
    rw [List.getElem?_set_ne (fun z => h.1 z.symm)]
    exact wipe_get h.2
theorem rel_wipe {G : Gh} {σ : St} {R : RR} (vs : List Nat) (r : Rel K G σ R) : Rel K G (wipe σ vs) (wipeR R vs) := by
  refine ⟨r.ok, by rw [wipeR_length, wipe_length]; exact r.len, fun i s e => ?_⟩
  have hi : i < σ.length := by rw [← r.len, ← wipeR_length R vs]; exact (List.getElem?_eq_some_iff.mp e).1
  rcases wipeR_get e with ⟨h1, h2⟩ | ⟨h1, h2⟩
  · subst h2
    exact ⟨_, List.getElem?_eq_getElem (by rw [wipe_length]; exact hi), trivial⟩
  · obtain ⟨ov, g1, g2⟩ := r.sl i s h2
    exact ⟨ov, by rw [wipe_get h1]; exact g1, g2⟩
/-- behind the block: the slots of its own names are forgotten -/
theorem rel_unwipe {G : Gh} {σ : St} {R : RR} (vs : List Nat) (r : Rel K G (wipe σ vs) R) : Rel K G σ (wipeR R vs) := by
  refine ⟨r.ok, by rw [wipeR_length, r.len, wipe_length], fun i s e => ?_⟩
  have hi : i < σ.length := by rw [← wipe_length σ vs, ← r.len, ← wipeR_length R vs]; exact (List.getElem?_eq_some_iff.mp e).1
  rcases wipeR_get e with ⟨h1, h2⟩ | ⟨h1, h2⟩
  · subst h2
    exact ⟨_, List.getElem?_eq_getElem hi, trivial⟩
  · obtain ⟨ov, g1, g2⟩ := r.sl i s h2
    exact ⟨ov, by rw [← wipe_get h1]; exact g1, g2⟩
theorem wipe_eq {σ σ2 : St} {vs ts : List Nat} (hl : σ2.length = σ.length) (ht : ∀ j ∈ ts, j ∈ vs) (h : ∀ j, j ∉ ts → σ2[j]? = (wipe σ vs)[j]?) : wipe σ2 vs = wipe σ vs := by
  apply List.ext_getElem?
  intro i
  by_cases hi : i ∈ vs
  · have none_at : ∀ (τ : St), τ.length = σ.length → (wipe τ vs)[i]? = if i < σ.length then some none else none := fun τ hτ => by
      have hw : ∀ {us : List Nat} {τ : St}, i ∈ us → i < τ.length → (wipe τ us)[i]? = some none := by
        intro us
        induction us with
        | nil => intro τ h; simp at h
        | cons u us ih =>
          intro τ h hlt
          unfold wipe
          by_cases hu : u = i
          · subst hu; exact List.getElem?_set_self (by rw [wipe_length]; exact hlt)
          · rw [List.getElem?_set_ne hu]
            rcases List.mem_cons.mp h with z | z
            · exact absurd z.symm hu
            · exact ih z hlt
      by_cases hlt : i < σ.length
      · rw [if_pos hlt]; exact hw hi (by rw [hτ]; exact hlt)
      · rw [if_neg hlt]; exact List.getElem?_eq_none (by rw [wipe_length, hτ]; omega)
    rw [none_at σ2 hl, none_at σ rfl]
  · rw [wipe_get hi, h i (fun z => hi (ht i z))]

/-- a float of this frame's own is changed -/
theorem rel_float {G : Gh} {σ : St} {R : RR} {p : Addr} {o o' : HO} (r : Rel K G σ R) (hO : G.O p = none) (hB : ¬ G.B p) (hH : G.H p = some o) (hF : G.F p = none) : Rel K ⟨upd G.H p o', G.F, G.O, G.c, G.B, G.S⟩ σ R := by
  have kp : ∀ q u, q ≠ p → G.H q = some u → upd G.H p o' q = some u := fun q u hq e => by rw [upd_ne hq]; exact e
  have dm : ∀ q u, G.H q = some u → ∃ u', upd G.H p o' q = some u' := fun q u e => by
    by_cases hq : q = p
    · subst hq; exact ⟨o', upd_same⟩
    · exact ⟨u, kp q u hq e⟩
  have n1 : ∀ q i, G.O q = some i → q ≠ p := fun q i z w => by subst w; rw [hO] at z; cases z
  refine ⟨⟨fun q u z => kp q u (ne_of_none z hF) (r.ok.sub q u z), fun q i z => ⟨(r.ok.own q i z).1, let ⟨u, y⟩ := (r.ok.own q i z).2; dm q u y⟩, fun q z => let ⟨u, y⟩ := r.ok.old q z; dm q u y, r.ok.new, fun q z => (r.ok.st q z).up (fun q' u x y => ⟨kp q' u (n1 q' _ x) y, x⟩) (Nat.le_refl _)⟩, r.len, fun i s e => ?_⟩
  obtain ⟨ov, h1, h2⟩ := r.sl i s e
  refine ⟨ov, h1, ?_⟩
  cases s with
  | no => trivial
  | fz x => exact h2
  | ow t => obtain ⟨v, e, q⟩ := h2; exact ⟨v, e, q.keep (fun _ _ z => z) fun q u x y z => ⟨kp q u (n1 q _ x) y, x, z⟩⟩
  | bw t => obtain ⟨v, e, q⟩ := h2; exact ⟨v, e, q.keep (fun _ _ z => z) fun q u x y z => ⟨kp q u (fun w => by subst w; exact hB x.2) y, x, z⟩⟩
  | st => exact h2
  | sc ns => exact h2

def W0 : WX := fun _ _ _ _ => False
/-- the turns of a comprehension -/
def compW (gd : RR → Prop) (tgt : GD) (tt : TDen) (te : EDen) (own : List Nat) (Q : List D → RR → Prop) : List D → List D → RR → Prop
  | [], acc, R => gd R ∧ Q acc R
  | d :: ds, acc, R => gd R ∧ ∃ R1, tgt d R = some R1 ∧ tt.wp R1 (fun b R2 => if b = true then te.wp R2 (fun x R3 => ∃ y R4, esc R3 x = some (y, R4) ∧ acc.length < LIM ∧ compW gd tgt tt te own Q ds (acc ++ [y]) (wipeR R4 own)) (fun _ _ => False)
      else compW gd tgt tt te own Q ds acc (wipeR R2 own)) (fun _ _ => False)
def tYes' : TDen := ⟨0, fun R Q _ => Q true R⟩
def fLc (it : IDen) (tgt : GD) (tt : TDen) (te : EDen) (own : List Nat) : FDen := ⟨it.cost + LIM * (tt.cost + te.cost), fun R Q E => it.wp R (fun ds gd R1 => (tt.cost + te.cost = 0 ∨ ds.length ≤ LIM) ∧ compW gd tgt tt te own (fun acc R2 => Q (.lst acc) (wipeR R2 own)) ds [] (wipeR R1 own)) E⟩
def OTs (X : Cx) (W : WX) (ifs : List Expr) (tt : TDen) : Prop := PTs X ifs (tOT X.K W tt)
theorem ots_nil : OTs X W [] tYes' := ⟨fun pins s σ H Q I h => pts_nil.run pins s σ H Q I (by
  obtain ⟨G, R, Q', E, e1, rel, bud, wp, ex, k⟩ := h
  subst e1
  exact k true G R Step.refl rel wp)⟩
theorem ots_one {c : Expr} {tt : TDen} (h : OT X W c tt) : OTs X W [c] tt := pts_one h
theorem lc_red {it : IDen} {tgt : GD} {tt : TDen} {te : EDen} {own ts : List Nat} (hts : ∀ j ∈ ts, j ∈ own) (σ : St) (H : Hp) (QH : VK) (h : tOF K W (fLc it tgt tt te own) σ H QH) :
    tLc (tOIC K W it) (tOG K ts tgt) (tOT K W0 tt) (tO K W0 te) own σ H QH := by
  obtain ⟨G, R, Q, E, e1, rel, bud, wp, ex, k⟩ := h
  have bud : G.c + (it.cost + LIM * (tt.cost + te.cost)) ≤ CM := bud
  have l0 : it.cost ≤ (fLc it tgt tt te own).cost := Nat.le_add_right _ _
  refine ⟨G, R, _, E, e1, rel, by omega, wp, fun x cls d G' R' s => ex x cls d G' R' (s.le l0), fun J items gd G1 R1 s1 r1 lv g1 ⟨hl, lp⟩ => ?_⟩
  intro Da hDa
  have lc : ∀ i, i ≤ items.length → i * (tt.cost + te.cost) ≤ LIM * (tt.cost + te.cost) := fun i hi => by
    rcases hl with z | z
    · rw [z]; simp
    · exact Nat.mul_le_mul_right _ (Nat.le_trans hi z)
  have nB : ¬ G1.B Da := fun z => by obtain ⟨o, q⟩ := r1.ok.old Da z; rw [hDa] at q; cases q
  have hnF := (r1.ok.none hDa).1
  have hnO := (r1.ok.none hDa).2
  refine ⟨fun i m H' => ∃ G' R' acc vs, G'.H = H' ∧ Rel K G' (wipe σ own) R' ∧ Step (i * (tt.cost + te.cost)) G1 G' ∧ G'.H Da = some (.lst vs) ∧ G'.O Da = none ∧ G'.F Da = none ∧ Reps K G'.F acc vs ∧ i ≤ items.length ∧ m = items.length - i ∧
      compW gd tgt tt te own (fun acc R2 => Q (.lst acc) (wipeR R2 own)) (items.drop i) acc R',
    ⟨items.length, G1.newN Da (.lst []), wipeR R1 own, [], [], rfl, rel_wipe own (relN r1 hDa), by simpa using stepN r1.ok hDa, upd_same, hnO, hnF, Reps.nil, Nat.zero_le _, by simp, by simpa using lp⟩, fun i m H' ⟨G', R', acc, vs, e2, r2, s2, d1, d2, d3, rs, hi, em, lp⟩ => ?_⟩
  subst e2
  have nB' : ¬ G'.B Da := by rw [s2.bs]; exact nB
  by_cases hlt : i < items.length
  · right
    have hd : items[i]? = some items[i] := List.getElem?_eq_getElem hlt
    have hdr : items.drop i = items[i] :: items.drop (i + 1) := List.drop_eq_getElem_cons hlt
    rw [hdr] at lp
    obtain ⟨hgd, R3, eg, lp⟩ := lp
    obtain ⟨go, yl⟩ := (lv own _ G' R' s2 r2 hgd i).1 _ hd
    have bnd := lc (i + 1) hlt
    rw [Nat.succ_mul] at bnd
    have b0 := (s1.trans s2).bud
    refine ⟨go, fun H'' => ∃ G'' R'' acc' vs', G''.H = H'' ∧ Rel K G'' (wipe σ own) R'' ∧ Step ((i + 1) * (tt.cost + te.cost)) G1 G'' ∧ G''.H Da = some (.lst vs') ∧ G''.O Da = none ∧ G''.F Da = none ∧ Reps K G''.F acc' vs' ∧
        compW gd tgt tt te own (fun acc R2 => Q (.lst acc) (wipeR R2 own)) (items.drop (i + 1)) acc' R'',
      fun H'' ⟨G'', R'', acc', vs', g, r, s, x1, x2, x3, x4, l⟩ => ⟨m - 1, by omega, G'', R'', acc', vs', g, r, s, x1, x2, x3, x4, hlt, by omega, l⟩, fun x H2 y => ?_⟩
    obtain ⟨e3, rep⟩ := yl x H2 y
    subst e3
    refine ⟨G', R', _, R3, rfl, r2, rep, eg, fun σ2 r3 l2 o2 => ⟨wipe_eq (by rw [l2, wipe_length]) hts o2, ?_⟩⟩
    have wq : wipe σ2 own = wipe σ own := wipe_eq (by rw [l2, wipe_length]) hts o2
    refine ⟨G', R3, _, fun _ _ => False, rfl, r3, by omega, lp, fun _ _ _ _ _ _ _ _ z => z, fun bb G4 R4 s4 r4 q4 => ?_⟩
    cases bb with
    | false =>
      obtain ⟨y1, y2, y3⟩ := s4.fl _ _ d1 d2 d3
      exact ⟨G4, wipeR R4 own, acc, vs, rfl, by rw [← wq]; exact rel_wipe own r4, (s2.trans s4).le (by rw [Nat.succ_mul]; omega), y1, y2, y3, Reps.mono s4.fz _ rs, q4⟩
    | true =>
      refine ⟨G4, R4, _, fun _ _ => False, rfl, r4, by have := s4.bud; omega, q4, fun _ _ _ _ _ _ _ _ z => z, fun v G5 R5 x5 s5 r5 v5 q5 => ?_⟩
      obtain ⟨yy, R6, e6, hlen, q6⟩ := q5
      obtain ⟨G6, g6, s6, r6, rep6⟩ := esc_ok r5 v5 e6
      have s46 := (s4.trans s5).trans s6
      obtain ⟨y1, y2, y3⟩ := s46.fl _ _ d1 d2 d3
      have nB6 : ¬ G6.B Da := by rw [s46.bs]; exact nB'
      rw [← g6]
      refine ⟨vs, y1, by rw [rs.length]; exact lim_lt hlen, ⟨upd G6.H Da (.lst (vs ++ [v])), G6.F, G6.O, G6.c, G6.B, G6.S⟩, wipeR R6 own, acc ++ [yy], vs ++ [v], rfl, by rw [← wq]; exact rel_wipe own (rel_float r6 y2 nB6 y1 y3), ?_, upd_same, y2, y3, Reps.app (Reps.mono s46.fz _ rs) (Reps.cons rep6 Reps.nil), q6⟩
      have st := (s2.trans s46).le (show i * (tt.cost + te.cost) + (tt.cost + te.cost + 0) ≤ (i + 1) * (tt.cost + te.cost) by rw [Nat.succ_mul]; omega)
      refine ⟨st.fz, fun q u z1 z2 z3 => ?_, st.bud, fun q u z => ?_, st.bs, st.ss, st.up⟩
      · obtain ⟨w1, w2, w3⟩ := st.fl q u z1 z2 z3
        exact ⟨by show upd G6.H Da _ q = some u; rw [upd_ne (ne_of_none z1 hDa)]; exact w1, w2, w3⟩
      · obtain ⟨u', w⟩ := st.dom q u z
        exact ⟨u', by show upd G6.H Da _ q = some u'; rw [upd_ne (ne_of_none z hDa)]; exact w⟩
  · left
    have hdn : items.drop i = [] := List.drop_eq_nil_of_le (by omega)
    rw [hdn] at lp
    obtain ⟨hgd, lp⟩ := lp
    refine ⟨(lv own _ G' R' s2 r2 hgd i).2 (by omega), ?_⟩
    refine k (.ref Da) G' (wipeR R' own) (.lst acc) ((s1.trans s2).le ?_) (rel_unwipe own r2) ⟨Da, vs, rfl, ⟨d2, s1.new hDa⟩, d1, d3, rs⟩ lp
    show it.cost + i * (tt.cost + te.cost) ≤ it.cost + LIM * (tt.cost + te.cost)
    have := lc i hi
    omega
theorem of_lc {elt tg iter : Expr} {ifs : List Expr} {scope : Scope} {own : List (Str × Nat)} {ts : List Nat} {it : IDen} {tgt : GD} {tt : TDen} {te : EDen} (hc : X.calm = true) (hN : X.N.Nodup) (hi : OIC X W tg iter it) (ok : BlkOk X.N X.env.scope scope own) (hts : ∀ j ∈ ts, j ∈ own.map (·.2))
    (hg : ∀ (s : Shared) (H : Hp) (C : Addr) (cl : List (Str × Addr)) (fp : List Addr), OG (X.blk s H scope (compEnvC scope cl C X.env) fp) tg ts tgt) (ht : ∀ (s : Shared) (H : Hp) (C : Addr) (cl : List (Str × Addr)) (fp : List Addr), OTs (X.blk s H scope (compEnvC scope cl C X.env) fp) W0 ifs tt)
    (he : ∀ (s : Shared) (H : Hp) (C : Addr) (cl : List (Str × Addr)) (fp : List Addr), OE (X.blk s H scope (compEnvC scope cl C X.env) fp) W0 elt te) (hs : ∀ x, foldedSetIterable iter X.env x = pure x := by intro _; rfl) :
    OF X W (.ListComp elt [⟨tg, iter, ifs, 0⟩] scope pos) (fLc it tgt tt te (own.map (·.2))) := peImp (pe_lc (g := tOG X.K ts tgt) (tt := tOT X.K W0 tt) (te := tO X.K W0 te) hc hN hi ok hg ht he hs) (lc_red hts)
theorem os_setLc {i : Nat} {y : Str} {py spos : Pos} {elt tg iter : Expr} {ifs : List Expr} {scope : Scope} {own : List (Str × Nat)} {ts : List Nat} {it : IDen} {tgt : GD} {tt : TDen} {te : EDen} (hc : X.calm = true) (hN : X.N.Nodup) (hy : X.N[i]? = some y) (hyl : X.env.scope.names.lookup y = some .local)
    (hsw : swapsWith (.ListComp elt [⟨tg, iter, ifs, 0⟩] scope pos) (some (.Name y py)) spos.line X.env = pure true) (hi : OIC X W tg iter it) (ok : BlkOk X.N X.env.scope scope own) (hts : ∀ j ∈ ts, j ∈ own.map (·.2))
    (hg : ∀ (s : Shared) (H : Hp) (C : Addr) (cl : List (Str × Addr)) (fp : List Addr), OG (X.blk s H scope (compEnvC scope cl C X.env) fp) tg ts tgt) (ht : ∀ (s : Shared) (H : Hp) (C : Addr) (cl : List (Str × Addr)) (fp : List Addr), OTs (X.blk s H scope (compEnvC scope cl C X.env) fp) W0 ifs tt)
    (he : ∀ (s : Shared) (H : Hp) (C : Addr) (cl : List (Str × Addr)) (fp : List Addr), OE (X.blk s H scope (compEnvC scope cl C X.env) fp) W0 elt te) (hs : ∀ x, foldedSetIterable iter X.env x = pure x := by intro _; rfl) :
    OS X W (.Assign [.Name y py] (.ListComp elt [⟨tg, iter, ifs, 0⟩] scope pos) spos) (sAsgF i (fLc it tgt tt te (own.map (·.2)))) :=
  ⟨fun pins s σ H D I q => (ps_setLc (g := tOG X.K ts tgt) (tt := tOT X.K W0 tt) (te := tO X.K W0 te) hc hN hy hyl hsw hi ok hg ht he hs).run pins s σ H D I (lc_red hts σ H _ (asgF_core (len_of I hy) q))⟩
end OW
namespace OW
open PySem PySem.Spec L2
variable {X : Cx} {W : WX} {K : PySem.W.Frag} {a b e : Expr} {es : List Expr} {pos : Pos} {da db de : EDen} {ad : ADen} {fd : FDen} {sd : SDen} {st : Stmt}

/-! ### owned lists changed -/
theorem ow_at {G : Gh} {σ : St} {R : RR} {i : Nat} {ds : List D} (r : Rel K G σ R) (h : R[i]? = some (.ow (.lst ds))) : ∃ p vs, σ[i]? = some (some (.ref p)) ∧ G.O p = some (i + 1) ∧ G.H p = some (.lst vs) ∧ G.F p = none ∧ Reps K G.F ds vs := by
  obtain ⟨ov, h1, v, e, p, vs, e2, e3, e4, e5, e6⟩ := r.sl i _ h
  subst e; subst e2
  exact ⟨p, vs, h1, e3, e4, e5, e6⟩
/-- the list at slot i becomes another one -/
theorem mut_lst {G : Gh} {σ : St} {R : RR} {i : Nat} {p : Addr} {vs vs' : List V} {ds' : List D} (r : Rel K G σ R) (hσ : σ[i]? = some (some (.ref p))) (hO : G.O p = some (i + 1)) (hH : G.H p = some (.lst vs)) (rs : Reps K G.F ds' vs') :
    ∃ G', G'.H = upd G.H p (.lst vs') ∧ Step 0 G G' ∧ Rel K G' σ (R.set i (.ow (.lst ds'))) :=
  mut_ok r hσ hO hH ⟨p, vs', rfl, hO, upd_same, (r.ok.own p _ hO).1, rs⟩
def sApp (i : Nat) (de : EDen) : SDen := ⟨de.cost, fun R N => (∃ ds, R[i]? = some (.ow (.lst ds))) ∧ de.wp R (fun x R1 => ∃ d R2 ds, esc R1 x = some (d, R2) ∧ R2[i]? = some (.ow (.lst ds)) ∧ ds.length < LIM ∧ N.nx (R2.set i (.ow (.lst (ds ++ [d]))))) N.ex⟩
theorem os_app {i : Nat} (h : PS X st (tDrop (tBM X.K "list" rAppend (tVar i) (tCons (tO X.K W de) tNil)))) : OS X W st (sApp i de) :=
  psImp h fun D σ H ⟨G, R, N, e1, rel, bud, wp, hx, hn, hr, hb, hc⟩ => by
    obtain ⟨⟨ds0, h0⟩, wp⟩ := wp
    obtain ⟨p, vs, hσ, _, hH, _, _⟩ := ow_at rel h0
    subst e1
    refine ⟨.ref p, hσ, .inl ⟨rfl, _, SqL.of hH⟩, G, R, _, N.ex, rfl, rel, bud, wp, fun x cls d G' R' s => hx σ x cls d G' R' s, fun v G1 R1 x s1 r1 v1 q => ?_⟩
    obtain ⟨d, R2, ds, e2, e3, hl, q⟩ := q
    obtain ⟨G2, g2, s2, r2, rep⟩ := esc_ok r1 v1 e2
    obtain ⟨p', vs2, hσ', hO, hH2, hF, rs⟩ := ow_at r2 e3
    rw [hσ] at hσ'; cases hσ'
    obtain ⟨G3, g3, s3, r3⟩ := mut_lst (vs' := vs2 ++ [v]) r2 hσ hO hH2 (Reps.app rs (Reps.cons rep Reps.nil))
    refine ⟨p, vs2, v, rfl, rfl, by rw [← g2]; exact hH2, by rw [rs.length]; exact lim_lt hl, ?_⟩
    rw [← g2, ← g3]
    exact hn σ G3 _ (((s1.trans s2).trans s3).le (Nat.le_refl _)) r3 q
def sClear (i : Nat) : SDen := ⟨0, fun R N => (∃ ds, R[i]? = some (.ow (.lst ds))) ∧ N.nx (R.set i (.ow (.lst [])))⟩
theorem os_clear {i : Nat} (h : PS X st (tDrop (tBM0 X.K "list" rClear (tVar i)))) : OS X W st (sClear i) :=
  psImp h fun D σ H ⟨G, R, N, e1, rel, bud, wp, hx, hn, hr, hb, hc⟩ => by
    obtain ⟨⟨ds0, h0⟩, wp⟩ := wp
    obtain ⟨p, vs, hσ, hO, hH, _, _⟩ := ow_at rel h0
    subst e1
    obtain ⟨G3, g3, s3, r3⟩ := mut_lst (vs' := []) (ds' := []) rel hσ hO hH Reps.nil
    refine ⟨.ref p, hσ, .inl ⟨rfl, _, SqL.of hH⟩, p, vs, rfl, rfl, hH, ?_⟩
    rw [← g3]
    exact hn σ G3 _ s3 r3 wp
def sSetI (i : Nat) (dk de : EDen) : SDen := ⟨de.cost + dk.cost, fun R N => de.wp R (fun x R1 => x ≠ .st ∧ (∃ ds, R1[i]? = some (.ow (.lst ds))) ∧ dk.wp R1 (fun y R2 => ∃ k d R3 ds j, rdD R2 y = some (.int k) ∧ esc R2 x = some (d, R3) ∧ R3[i]? = some (.ow (.lst ds)) ∧ ixN ds.length k = some j ∧
  N.nx (R3.set i (.ow (.lst (ds.set j d))))) N.ex) N.ex⟩
theorem os_setI {i : Nat} {dk : EDen} (h : PS X st (tAsg (tO X.K W de) (gSub (tVar i) (tO X.K W dk) rSetL))) : OS X W st (sSetI i dk de) :=
  psImp h fun D σ H ⟨G, R, N, e1, rel, bud, wp, hx, hn, hr, hb, hc⟩ => by
    have bud : G.c + (de.cost + dk.cost) ≤ CM := bud
    have l0 : de.cost ≤ (sSetI i dk de).cost := Nat.le_add_right _ _
    refine ⟨G, R, _, N.ex, e1, rel, by omega, wp, fun x cls d G' R' s => hx σ x cls d G' R' (s.le l0), fun v G1 R1 x s1 r1 v1 ⟨ns, ⟨ds0, h0⟩, wp1⟩ => ?_⟩
    obtain ⟨p, vs, hσ, _, _, _, _⟩ := ow_at r1 h0
    refine ⟨.ref p, hσ, G1, R1, _, N.ex, rfl, r1, by have := s1.bud; omega, wp1, fun x cls d G' R' s => hx σ x cls d G' R' (s1.trans s), fun w G2 R2 y s2 r2 v2 q => ?_⟩
    obtain ⟨k, d, R3, ds, j, e2, e3, e4, e5, q⟩ := q
    have tk := top_int (rd_top r2 v2 e2)
    subst tk
    obtain ⟨G3, g3, s3, r3, rep⟩ := esc_ok r2 (v1.step s2 ns) e3
    obtain ⟨p', vs2, hσ', hO, hH2, hF, rs⟩ := ow_at r3 e4
    rw [hσ] at hσ'; cases hσ'
    obtain ⟨G4, g4, s4, r4⟩ := mut_lst (vs' := vs2.set j v) r3 hσ hO hH2 (Reps.set j rep rs)
    refine ⟨p, vs2, k, j, rfl, rfl, by rw [← g3]; exact hH2, by rw [rs.length]; exact e5, ?_⟩
    rw [← g3, ← g4]
    exact hn σ G4 _ ((((s1.trans s2).trans s3).trans s4).le (Nat.le_refl _)) r4 q
/-- xs.pop(k) as a value -/
def ePopAt (i : Nat) (dk : EDen) : EDen := ⟨dk.cost, fun R Q E => (∃ ds, R[i]? = some (.ow (.lst ds))) ∧ dk.wp R (fun y R1 => ∃ k ds j d, rdD R1 y = some (.int k) ∧ R1[i]? = some (.ow (.lst ds)) ∧ -(2 ^ 63) ≤ k ∧ k < 2 ^ 63 ∧ seqIndex? k ds.length = some j ∧ ds[j]? = some d ∧
  Q (.d d) (R1.set i (.ow (.lst (ds.eraseIdx j))))) E⟩
theorem oe_popAt {i : Nat} {dk : EDen} (h : PE X e (tBM X.K "list" rPopAt (tVar i) (tCons (tO X.K W dk) tNil))) : OE X W e (ePopAt i dk) :=
  peImp h fun σ H QH ⟨G, R, Q, E, e1, rel, bud, wp, ex, k⟩ => by
    obtain ⟨⟨ds0, h0⟩, wp⟩ := wp
    obtain ⟨p, vs, hσ, _, hH, _, _⟩ := ow_at rel h0
    subst e1
    refine ⟨.ref p, hσ, .inl ⟨rfl, _, SqL.of hH⟩, G, R, _, E, rfl, rel, bud, wp, ex, fun v G1 R1 y s1 r1 v1 q => ?_⟩
    obtain ⟨kk, ds, j, d, e2, e3, b1, b2, e4, e5, q⟩ := q
    have tk := top_int (rd_top r1 v1 e2)
    subst tk
    obtain ⟨p', vs2, hσ', hO, hH2, hF, rs⟩ := ow_at r1 e3
    rw [hσ] at hσ'; cases hσ'
    obtain ⟨w, e6, rep⟩ := rs.get e5
    obtain ⟨G3, g3, s3, r3⟩ := mut_lst (vs' := vs2.eraseIdx j) r1 hσ hO hH2 (Reps.erase j rs)
    refine ⟨p, vs2, kk, j, w, rfl, rfl, hH2, b1, b2, by rw [rs.length]; exact e4, e6, ?_⟩
    rw [← g3]
    exact k w G3 _ (.d d) ((s1.trans s3).le (Nat.le_refl _)) r3 (Rep.mono s3.fz d rep) q

/-! ### methods of built-in types that change nothing -/
def tyD : D → String
  | .str _ => "str"
  | .lst _ => "list"
  | .tup _ => "tuple"
  | .dic _ => "dict"
  | _ => ""
def SndM (K : PySem.W.Frag) (r : V → List V → Hp → VK → Prop) (prim : D → List D → Option Res) : Prop := ∀ d ds res v vs H F QH, Sub F H → prim d ds = some res → Top K H F d v → Tops K H F ds vs → ResOk K F H QH res → r v vs H QH
def dM (ty : String) (prim : D → List D → Option Res) (de : EDen) (ad : ADen) : EDen := ⟨de.cost + ad.cost, fun R Q E => de.wp R (fun x R1 => (∃ d, rdD R1 x = some d ∧ tyD d = ty) ∧ ad.wp R1 (fun xs R2 => ∃ d ds res, rdD R2 x = some d ∧ rdDs R2 xs = some ds ∧ prim d ds = some res ∧ Q res.val R2) E) E⟩
theorem tyV_of {H F : Hp} {d : D} {v : V} {ty : String} (h : Top K H F d v) (hty : ty = "str" ∨ ty = "list") (e : tyD d = ty) : tyV K ty v H := by
  subst e
  cases d with
  | str s => unfold Top Rep at h; subst h; exact rfl
  | lst ds => obtain ⟨p, vs, e1, e2, _⟩ := h; subst e1; exact .inl ⟨rfl, _, SqL.of e2⟩
  | tup ds => exact absurd hty (by simp only [tyD]; decide)
  | non => exact absurd hty (by simp only [tyD]; decide)
  | bl b => exact absurd hty (by simp only [tyD]; decide)
  | int b => exact absurd hty (by simp only [tyD]; decide)
  | ty b => exact absurd hty (by simp only [tyD]; decide)
  | glob b => exact absurd hty (by simp only [tyD]; decide)
  | dic b => exact absurd hty (by simp only [tyD]; decide)
  | ins C b => exact absurd hty (by simp only [tyD]; decide)
theorem oe_m {ty : String} {r : V → List V → Hp → VK → Prop} {prim : D → List D → Option Res} (hty : ty = "str" ∨ ty = "list") (hp : SndM X.K r prim) (h : PE X e (tBM X.K ty r (tO X.K W de) (tOA X.K W ad))) : OE X W e (dM ty prim de ad) :=
  peImp h fun σ H QH ⟨G, R, Q, E, e1, rel, bud, wp, ex, k⟩ => by
    have bud : G.c + (de.cost + ad.cost) ≤ CM := bud
    refine ⟨G, R, _, E, e1, rel, by omega, wp, fun x cls d G' R' s => ex x cls d G' R' (s.le (Nat.le_add_right _ _)), fun v G1 R1 x s1 r1 v1 ⟨⟨d0, e2, e3⟩, wp1⟩ => ?_⟩
    refine ⟨tyV_of (rd_top r1 v1 e2) hty e3, G1, R1, _, E, rfl, r1, by have := s1.bud; omega, wp1, ex.step s1 (Nat.le_refl _), fun vs G2 R2 xs s2 r2 v2 q => ?_⟩
    obtain ⟨d, ds, res, e4, e5, e6, q⟩ := q
    exact hp d ds res v vs G2.H G2.F QH r2.ok.sub e6 (rd_top r2 (v1.step s2 (rd_nost e4)) e4) (rd_tops r2 v2 e5) (res_fin (s1.trans s2) r2 fun v' G' R' x' s' r' vx ⟨e7, e8⟩ => k v' G' R' x' s' r' vx (by rw [e7, e8]; exact q))
end OW
namespace OW
open PySem PySem.Spec L2
variable {X : Cx} {W : WX} {K : PySem.W.Frag} {a b e : Expr} {es : List Expr} {pos : Pos} {da db de : EDen} {ad : ADen} {fd : FDen} {sd : SDen} {st : Stmt}

/-! ### data as the library's data -/
mutual
def toPy : D → Option PyData
  | .non => some .none
  | .bl b => some (.bool b)
  | .int i => some (.int i)
  | .str s => some (.str s)
  | .lst ds => (toPys ds).map .list
  | .tup ds => (toPys ds).map .tuple
  | _ => none
def toPys : List D → Option (List PyData)
  | [] => some []
  | d :: ds => (toPy d).bind fun p => (toPys ds).bind fun ps => some (p :: ps)
end
mutual
theorem rep_dp {H : Hp} : ∀ (d : D) {v : V} {p : PyData}, Rep K H d v → toPy d = some p → Dp K H v p
  | .non, v, p, h, e => by unfold toPy at e; cases e; unfold Rep at h; subst h; exact .non
  | .bl b, v, p, h, e => by unfold toPy at e; cases e; unfold Rep at h; subst h; exact .bl b
  | .int b, v, p, h, e => by unfold toPy at e; cases e; unfold Rep at h; subst h; exact .int b
  | .str b, v, p, h, e => by unfold toPy at e; cases e; unfold Rep at h; subst h; exact .str b
  | .lst ds, v, p, h, e => by
    unfold toPy at e
    cases hp : toPys ds with
    | none => rw [hp] at e; cases e
    | some ps =>
      rw [hp] at e; cases e
      unfold Rep at h
      obtain ⟨q, vs, rfl, e2, r⟩ := h
      exact .lst (SqL.of e2) (reps_dp ds r hp)
  | .tup ds, v, p, h, e => by
    unfold toPy at e
    cases hp : toPys ds with
    | none => rw [hp] at e; cases e
    | some ps =>
      rw [hp] at e; cases e
      unfold Rep at h
      obtain ⟨q, vs, rfl, e2, r⟩ := h
      exact .tup e2 (reps_dp ds r hp)
  | .ty n, v, p, h, e => by unfold toPy at e; cases e
  | .glob n, v, p, h, e => by unfold toPy at e; cases e
  | .dic n, v, p, h, e => by unfold toPy at e; cases e
  | .ins C n, v, p, h, e => by unfold toPy at e; cases e
theorem reps_dp {H : Hp} : ∀ (ds : List D) {vs : List V} {ps : List PyData}, Reps K H ds vs → toPys ds = some ps → DpAll K H vs ps
  | [], vs, ps, h, e => by unfold toPys at e; cases e; unfold Reps at h; subst h; exact .nil
  | d :: ds, vs, ps, h, e => by
    unfold toPys at e
    cases h1 : toPy d with
    | none => rw [h1] at e; cases e
    | some p =>
      rw [h1] at e
      cases h2 : toPys ds with
      | none => rw [h2] at e; cases e
      | some qs =>
        rw [h2] at e; cases e
        unfold Reps at h
        obtain ⟨v, ws, rfl, r1, r2⟩ := h
        exact .cons (rep_dp d r1 h1) (reps_dp ds r2 h2)
end

/-! ### scalars -/
def scD : D → Option V
  | .non => some .non
  | .bl b => some (.bl b)
  | .int i => some (.int i)
  | .str s => some (.str s)
  | _ => none
theorem scD_top {H F : Hp} {d : D} {v w : V} (h : Top K H F d v) (e : scD d = some w) : v = w := by
  cases d <;> first | (cases e; unfold Top Rep at h; exact h) | cases e
theorem rep_bl {F : Hp} {k : Bool} : Rep K F (.bl k) (.bl k) := by unfold Rep; rfl
theorem rep_int {F : Hp} {k : Int} : Rep K F (.int k) (.int k) := by unfold Rep; rfl
theorem rep_str {F : Hp} {k : Str} : Rep K F (.str k) (.str k) := by unfold Rep; rfl

/-! ### arithmetic -/
def pI (C : Int → Int → Bool) (g : Int → Int → D) : D → D → Option Res
  | .int i, .int j => if C i j = true then some (.s (g i j)) else none
  | _, _ => none
theorem snd_I {C : Int → Int → Bool} {C' : Int → Int → Prop} {g : Int → Int → D} {g' : Int → Int → V} (hC : ∀ i j, C i j = true → C' i j) (hg : ∀ i j F, Rep K F (g i j) (g' i j)) : Snd2 K (rI C' g') (pI C g) := by
  intro d1 d2 res v w H F QH sub e t1 t2 k
  cases d1 <;> cases d2 <;> simp only [pI, reduceCtorEq] at e
  rename_i i j
  split at e
  · rename_i hc
    cases e
    exact ⟨i, j, top_int t1, top_int t2, hC i j hc, k _ (hg i j F)⟩
  · cases e
theorem snd_I0 {g : Int → Int → D} {g' : Int → Int → V} (hg : ∀ i j F, Rep K F (g i j) (g' i j)) : Snd2 K (rI0 g') (pI (fun _ _ => true) g) := by
  intro d1 d2 res v w H F QH sub e t1 t2 k
  cases d1 <;> cases d2 <;> simp only [pI, reduceCtorEq, if_true] at e
  rename_i i j
  cases e
  exact ⟨i, j, top_int t1, top_int t2, k _ (hg i j F)⟩
def pSub : D → D → Option Res := pI (fun _ _ => true) fun i j => .int (i - j)
theorem oe_sub (ha : OE X W a da) (hb : OE X W b db) : OE X W (.BinOp a .Sub b pos) (dP2 pSub da db) := oe_bin op_sub (snd_I0 fun _ _ _ => rep_int) ha hb
def pMulC (i j : Int) : Bool := decide (-(2 ^ 64) < i ∧ i < 2 ^ 64) || decide (-(2 ^ 64) < j ∧ j < 2 ^ 64)
theorem pMulC_ok (i j : Int) (h : pMulC i j = true) : CMul i j := by
  unfold pMulC at h
  rw [Bool.or_eq_true, decide_eq_true_eq, decide_eq_true_eq] at h
  exact h
def pMod : D → D → Option Res := pI (fun _ j => decide (0 < j)) fun i j => .int (i % j)
theorem oe_mod (ha : OE X W a da) (hb : OE X W b db) : OE X W (.BinOp a .Mod b pos) (dP2 pMod da db) := oe_bin op_mod (snd_I (fun _ _ h => of_decide_eq_true h) fun _ _ _ => rep_int) ha hb
def pFd : D → D → Option Res := pI (fun _ j => decide (0 < j ∧ j < 1073741824)) fun i j => .int (i / j)
theorem oe_fd (ha : OE X W a da) (hb : OE X W b db) : OE X W (.BinOp a .FloorDiv b pos) (dP2 pFd da db) := oe_bin op_fdiv (snd_I (fun _ _ h => of_decide_eq_true (p := _ ∧ _) h) fun _ _ _ => rep_int) ha hb
/-- + of ints, texts, lists, tuples (the left tuple not empty) -/
def pAdd : D → D → Option Res
  | .int i, .int j => some (.s (.int (i + j)))
  | .str s, .str t => if s.length + t.length ≤ LIM then some (.s (.str (s ++ t))) else none
  | .lst xs, .lst ys => if xs.length + ys.length ≤ LIM then some (.l (xs ++ ys)) else none
  | .tup (x :: xs), .tup (y :: ys) => if (x :: xs).length + (y :: ys).length ≤ LIM then some (.t (x :: xs ++ y :: ys)) else none
  | _, _ => none
def rAdd (K : PySem.W.Frag) : R2 := fun x y H Q => (rI0 (fun i j => .int (i + j)) x y H Q ∨ (∃ i j, x = .str i ∧ y = .str j ∧ i.length + j.length ≤ sizeLine ∧ Q (.str (i ++ j)) H)) ∨ (rCat x y H Q ∨ rCatT K x y H Q)
theorem op_addA : OpR X (binaryOp .Add) (rAdd X.K) := (op_add.or op_add_str).or (op_cat.or op_catT)
theorem snd_add : Snd2 K (rAdd K) pAdd := by
  intro d1 d2 res v w H F QH sub e t1 t2 k
  unfold pAdd at e
  split at e
  · cases e
    rename_i i j
    exact .inl (.inl ⟨i, j, top_int t1, top_int t2, k _ rep_int⟩)
  · split at e
    · cases e
      rename_i s t hl
      refine .inl (.inr ⟨s, t, ?_, ?_, lim_line hl, k _ rep_str⟩)
      · unfold Top Rep at t1; exact t1
      · unfold Top Rep at t2; exact t2
    · cases e
  · split at e
    · cases e
      rename_i hl
      obtain ⟨p, vs, e1, q1, r1⟩ := t1
      obtain ⟨p2, vs2, e2, q2, r2⟩ := t2
      exact .inr (.inl ⟨p, p2, vs, vs2, e1, e2, q1, q2, by rw [r1.length, r2.length]; exact lim_line hl, fun p hp => k p _ hp (Reps.app r1 r2)⟩)
    · cases e
  · split at e
    · cases e
      rename_i hl
      obtain ⟨p, vs, e1, q1, r1⟩ := t1
      obtain ⟨p2, vs2, e2, q2, r2⟩ := t2
      refine .inr (.inr ⟨p, p2, vs, vs2, e1, e2, q1, q2, ?_, ?_, ?_⟩)
      · intro z; have := r1.length; rw [z] at this; cases this
      · rw [r1.length, r2.length]; exact lim_line hl
      · have hne : vs2 ≠ [] := by intro z; have := r2.length; rw [z] at this; cases this
        exact ⟨fun z => absurd z hne, fun _ p hp => k p _ hp (Reps.app r1 r2)⟩
    · cases e
  · cases e
theorem oe_add (ha : OE X W a da) (hb : OE X W b db) : OE X W (.BinOp a .Add b pos) (dP2 pAdd da db) := oe_bin op_addA snd_add ha hb
theorem of_add (ha : OE X W a da) (hb : OE X W b db) : OF X W (.BinOp a .Add b pos) (fP2 pAdd da db) := of_bin op_addA snd_add ha hb
end OW
namespace OW
open PySem PySem.Spec L2
variable {X : Cx} {W : WX} {K : PySem.W.Frag} {a b e : Expr} {es : List Expr} {pos : Pos} {da db de : EDen} {ad : ADen} {fd : FDen} {sd : SDen} {st : Stmt}

/-! ### == and != -/
/-- equality of data as Python tells it (None where the rules say nothing) -/
def eqD (d1 d2 : D) : Option Bool := match scD d1, scD d2 with
  | some v, some w => if scal v w = true then some (decide (v = w)) else ((toPy d1).bind fun p => (toPy d2).bind fun q => if (SeqAt.shaped p && SeqAt.shaped q) = true then some (PyData.eqv p q) else none)
  | _, _ => (toPy d1).bind fun p => (toPy d2).bind fun q => if (SeqAt.shaped p && SeqAt.shaped q) = true then some (PyData.eqv p q) else none
def pEq (d1 d2 : D) : Option Res := (eqD d1 d2).map fun k => .s (.bl k)
def pNe (d1 d2 : D) : Option Res := (eqD d1 d2).map fun k => .s (.bl (!k))
theorem eq_deep {H F : Hp} (sub : Sub F H) {d1 d2 : D} {v w : V} {k : Bool} (t1 : Top K H F d1 v) (t2 : Top K H F d2 w) (e : ((toPy d1).bind fun p => (toPy d2).bind fun q => if (SeqAt.shaped p && SeqAt.shaped q) = true then some (PyData.eqv p q) else none) = some k) :
    ∃ p q, Dp K H v p ∧ Dp K H w q ∧ SeqAt.shaped p = true ∧ SeqAt.shaped q = true ∧ PyData.eqv p q = k := by
  cases h1 : toPy d1 with
  | none => rw [h1] at e; cases e
  | some p =>
    rw [h1] at e
    cases h2 : toPy d2 with
    | none => rw [h2] at e; cases e
    | some q =>
      rw [h2] at e
      have e : (if (SeqAt.shaped p && SeqAt.shaped q) = true then some (PyData.eqv p q) else none) = some k := e
      split at e
      · rename_i hs
        cases e
        rw [Bool.and_eq_true] at hs
        exact ⟨p, q, rep_dp d1 (t1.rep sub) h1, rep_dp d2 (t2.rep sub) h2, hs.1, hs.2, rfl⟩
      · cases e
theorem eq_two {H F : Hp} (sub : Sub F H) {d1 d2 : D} {v w : V} {k : Bool} (t1 : Top K H F d1 v) (t2 : Top K H F d2 w) (e : eqD d1 d2 = some k) :
    (scal v w = true ∧ decide (v = w) = k) ∨ ∃ p q, Dp K H v p ∧ Dp K H w q ∧ SeqAt.shaped p = true ∧ SeqAt.shaped q = true ∧ PyData.eqv p q = k := by
  unfold eqD at e
  split at e
  · rename_i v' w' h1 h2
    have e1 := scD_top t1 h1
    have e2 := scD_top t2 h2
    subst e1; subst e2
    split at e
    · rename_i hs; cases e; exact .inl ⟨hs, rfl⟩
    · exact .inr (eq_deep sub t1 t2 e)
  · exact .inr (eq_deep sub t1 t2 e)
theorem snd_eq : Snd2 K (fun x y H Q => rEq x y H Q ∨ rEqD K x y H Q) pEq := by
  intro d1 d2 res v w H F QH sub e t1 t2 k
  unfold pEq at e
  cases h : eqD d1 d2 with
  | none => rw [h] at e; cases e
  | some kk =>
    rw [h] at e; cases e
    rcases eq_two sub t1 t2 h with ⟨h1, h2⟩ | ⟨p, q, h1, h2, h3, h4, h5⟩
    · exact .inl ⟨h1, by rw [h2]; exact k _ rep_bl⟩
    · exact .inr ⟨p, q, h1, h2, h3, h4, by rw [h5]; exact k _ rep_bl⟩
theorem snd_ne : Snd2 K (fun x y H Q => rNe x y H Q ∨ rNeD K x y H Q) pNe := by
  intro d1 d2 res v w H F QH sub e t1 t2 k
  unfold pNe at e
  cases h : eqD d1 d2 with
  | none => rw [h] at e; cases e
  | some kk =>
    rw [h] at e; cases e
    rcases eq_two sub t1 t2 h with ⟨h1, h2⟩ | ⟨p, q, h1, h2, h3, h4, h5⟩
    · exact .inl ⟨h1, by rw [h2]; exact k _ rep_bl⟩
    · exact .inr ⟨p, q, h1, h2, h3, h4, by rw [h5]; exact k _ rep_bl⟩
section
variable {n : Nat}
theorem oe_eq (hr : Room n X.A) (ha : OE X W a da) (hb : OE X W b db) : OE X W (.Compare a [.Eq] [b] pos) (dP2 pEq da db) := oe_cmp (op_eq.or (op_eqD hr.units)) snd_eq ha hb (nomark _)
theorem oe_ne (hr : Room n X.A) (ha : OE X W a da) (hb : OE X W b db) : OE X W (.Compare a [.NotEq] [b] pos) (dP2 pNe da db) := oe_cmp (op_ne.or (op_neD hr.units)) snd_ne ha hb (nomark _)
theorem ot_eq (hr : Room n X.A) (ha : OE X W a da) (hb : OE X W b db) : OT X W (.Compare a [.Eq] [b] pos) (tV (dP2 pEq da db)) := ot_cmp (op_eq.or (op_eqD hr.units)) snd_eq ha hb (nomark _)
theorem ot_ne (hr : Room n X.A) (ha : OE X W a da) (hb : OE X W b db) : OT X W (.Compare a [.NotEq] [b] pos) (tV (dP2 pNe da db)) := ot_cmp (op_ne.or (op_neD hr.units)) snd_ne ha hb (nomark _)
end

/-! ### order of ints -/
def pLt : D → D → Option Res := pI (fun _ _ => true) fun i j => .bl (decide (i < j))
def pLe : D → D → Option Res := pI (fun _ _ => true) fun i j => .bl (decide (i ≤ j))
def pGt : D → D → Option Res := pI (fun _ _ => true) fun i j => .bl (decide (j < i))
def pGe : D → D → Option Res := pI (fun _ _ => true) fun i j => .bl (decide (j ≤ i))
theorem snd_lt : Snd2 K (rI0 fun i j => .bl (decide (i < j))) pLt := snd_I0 fun _ _ _ => rep_bl
theorem snd_le : Snd2 K (rI0 fun i j => .bl (decide (i ≤ j))) pLe := snd_I0 fun _ _ _ => rep_bl
theorem snd_gt : Snd2 K (rI0 fun i j => .bl (decide (j < i))) pGt := snd_I0 fun _ _ _ => rep_bl
theorem snd_ge : Snd2 K (rI0 fun i j => .bl (decide (j ≤ i))) pGe := snd_I0 fun _ _ _ => rep_bl
theorem oe_lt (ha : OE X W a da) (hb : OE X W b db) : OE X W (.Compare a [.Lt] [b] pos) (dP2 pLt da db) := oe_cmp op_lt snd_lt ha hb (nomark _)
theorem oe_le (ha : OE X W a da) (hb : OE X W b db) : OE X W (.Compare a [.LtE] [b] pos) (dP2 pLe da db) := oe_cmp op_le snd_le ha hb (nomark _)
theorem oe_gt (ha : OE X W a da) (hb : OE X W b db) : OE X W (.Compare a [.Gt] [b] pos) (dP2 pGt da db) := oe_cmp op_gt snd_gt ha hb (nomark _)
theorem oe_ge (ha : OE X W a da) (hb : OE X W b db) : OE X W (.Compare a [.GtE] [b] pos) (dP2 pGe da db) := oe_cmp op_ge snd_ge ha hb (nomark _)
theorem ot_lt (ha : OE X W a da) (hb : OE X W b db) : OT X W (.Compare a [.Lt] [b] pos) (tV (dP2 pLt da db)) := ot_cmp op_lt snd_lt ha hb (nomark _)
theorem ot_le (ha : OE X W a da) (hb : OE X W b db) : OT X W (.Compare a [.LtE] [b] pos) (tV (dP2 pLe da db)) := ot_cmp op_le snd_le ha hb (nomark _)
theorem ot_gt (ha : OE X W a da) (hb : OE X W b db) : OT X W (.Compare a [.Gt] [b] pos) (tV (dP2 pGt da db)) := ot_cmp op_gt snd_gt ha hb (nomark _)
theorem ot_ge (ha : OE X W a da) (hb : OE X W b db) : OT X W (.Compare a [.GtE] [b] pos) (tV (dP2 pGe da db)) := ot_cmp op_ge snd_ge ha hb (nomark _)
theorem ot_lele {c : Expr} {dc : EDen} (ha : OE X W a da) (hb : OE X W b db) (hc : OE X W c dc) (hm : lastMarks [.LtE, .LtE] [b, c] = false := by with_unfolding_all rfl) : OT X W (.Compare a [.LtE, .LtE] [b, c] pos) (tV (dCh pLe pLe da db dc)) := ot_chain op_le op_le snd_le snd_le ha hb hc hm
theorem ot_lelt {c : Expr} {dc : EDen} (ha : OE X W a da) (hb : OE X W b db) (hc : OE X W c dc) (hm : lastMarks [.LtE, .Lt] [b, c] = false := by with_unfolding_all rfl) : OT X W (.Compare a [.LtE, .Lt] [b, c] pos) (tV (dCh pLe pLt da db dc)) := ot_chain op_le op_lt snd_le snd_lt ha hb hc hm
theorem oe_lelt {c : Expr} {dc : EDen} (ha : OE X W a da) (hb : OE X W b db) (hc : OE X W c dc) (hm : lastMarks [.LtE, .Lt] [b, c] = false := by with_unfolding_all rfl) : OE X W (.Compare a [.LtE, .Lt] [b, c] pos) (dCh pLe pLt da db dc) := oe_chain op_le op_lt snd_le snd_lt ha hb hc hm

/-! ### in -/
def memF (x : V) : List D → Option Bool
  | [] => some false
  | d :: ds => (scD d).bind fun y => (memF x ds).bind fun k => some (eqV y x || k)
def inD (d1 d2 : D) : Option Bool := match d1, d2 with
  | .str s, .str z => match s.cps.toList with
    | [c] => some (decide (c ∈ z.cps.toList))
    | _ => none
  | d, .lst ds => (scD d).bind fun x => memF x ds
  | d, .tup ds => (scD d).bind fun x => memF x ds
  | _, _ => none
def pIn (d1 d2 : D) : Option Res := (inD d1 d2).map fun k => .s (.bl k)
def pNin (d1 d2 : D) : Option Res := (inD d1 d2).map fun k => .s (.bl (!k))
theorem memF_ok {F : Hp} {x : V} : ∀ {ds : List D} {vs : List V} {k : Bool}, Reps K F ds vs → memF x ds = some k → vs.all flatV = true ∧ inV x vs = k
  | [], vs, k, r, e => by unfold Reps at r; subst r; cases e; exact ⟨rfl, rfl⟩
  | d :: ds, vs, k, r, e => by
    unfold Reps at r
    obtain ⟨v, ws, e1, r1, r2⟩ := r
    subst e1
    unfold memF at e
    cases h1 : scD d with
    | none => rw [h1] at e; cases e
    | some y =>
      rw [h1] at e
      cases h2 : memF x ds with
      | none => rw [h2] at e; cases e
      | some k2 =>
        rw [h2] at e; cases e
        obtain ⟨a1, a2⟩ := memF_ok r2 h2
        have hv : v = y := scD_top (Top.of (H := F) (fun _ _ z => z) r1) h1
        subst hv
        refine ⟨?_, ?_⟩
        · rw [List.all_cons, a1, Bool.and_true]
          cases d <;> first | (cases h1; rfl) | cases h1
        · show (List.any (v :: ws) fun y => eqV y x) = _
          rw [List.any_cons, ← a2]; rfl
theorem scD_flat {d : D} {v : V} (h : scD d = some v) : flatV v = true := by cases d <;> first | (cases h; rfl) | cases h
theorem one_char {s : Str} {c : Nat} (h : s.cps.toList = [c]) : s = ⟨#[c]⟩ := by
  cases s with
  | mk a => congr 1; exact Array.ext' h
def rInA (K : PySem.W.Frag) (neg : Bool) : R2 := fun x y H Q => (∃ (c : Nat) (z : Str), x = .str ⟨#[c]⟩ ∧ y = .str z ∧ Q (.bl (if neg then !decide (c ∈ z.cps.toList) else decide (c ∈ z.cps.toList))) H) ∨ rIn K neg x y H Q
theorem op_inA : OpR X (compareOp .In) (rInA X.K false) := op_in_sign.or op_in_seq
theorem op_ninA : OpR X (compareOp .NotIn) (rInA X.K true) := op_notIn_sign.or op_notIn_seq
theorem inD_ok {neg : Bool} {d1 d2 : D} {v w : V} {H F : Hp} {QH : VK} {k : Bool} (t1 : Top K H F d1 v) (t2 : Top K H F d2 w) (e : inD d1 d2 = some k) (q : QH (.bl (if neg then !k else k)) H) : rInA K neg v w H QH := by
  unfold inD at e
  split at e
  · rename_i s z
    split at e
    · rename_i c hc
      cases e
      have hs := one_char hc
      subst hs
      refine .inl ⟨c, z, ?_, ?_, q⟩
      · unfold Top Rep at t1; exact t1
      · unfold Top Rep at t2; exact t2
    · cases e
  · cases h1 : scD d1 with
    | none => rw [h1] at e; cases e
    | some x =>
      rw [h1] at e
      obtain ⟨p, vs, e1, e2, e3⟩ := t2
      obtain ⟨a1, a2⟩ := memF_ok e3 e
      have hx := scD_top t1 h1
      subst hx
      exact .inr ⟨p, vs, e1, .inl (SqL.of e2), scD_flat h1, a1, by rw [a2]; exact q⟩
  · cases h1 : scD d1 with
    | none => rw [h1] at e; cases e
    | some x =>
      rw [h1] at e
      obtain ⟨p, vs, e1, e2, e3⟩ := t2
      obtain ⟨a1, a2⟩ := memF_ok e3 e
      have hx := scD_top t1 h1
      subst hx
      exact .inr ⟨p, vs, e1, .inr e2, scD_flat h1, a1, by rw [a2]; exact q⟩
  · cases e
theorem snd_in : Snd2 K (rInA K false) pIn := by
  intro d1 d2 res v w H F QH sub e t1 t2 k
  unfold pIn at e
  cases h : inD d1 d2 with
  | none => rw [h] at e; cases e
  | some kk => rw [h] at e; cases e; exact inD_ok t1 t2 h (k _ rep_bl)
theorem snd_nin : Snd2 K (rInA K true) pNin := by
  intro d1 d2 res v w H F QH sub e t1 t2 k
  unfold pNin at e
  cases h : inD d1 d2 with
  | none => rw [h] at e; cases e
  | some kk => rw [h] at e; cases e; exact inD_ok t1 t2 h (k _ rep_bl)
theorem oe_in (ha : OE X W a da) (hb : OE X W b db) (hm : behindInMarks .In b = false := by rfl) : OE X W (.Compare a [.In] [b] pos) (dP2 pIn da db) := oe_cmp op_inA snd_in ha hb hm
theorem oe_nin (ha : OE X W a da) (hb : OE X W b db) (hm : behindInMarks .NotIn b = false := by rfl) : OE X W (.Compare a [.NotIn] [b] pos) (dP2 pNin da db) := oe_cmp op_ninA snd_nin ha hb hm
theorem ot_in (ha : OE X W a da) (hb : OE X W b db) (hm : behindInMarks .In b = false := by rfl) : OT X W (.Compare a [.In] [b] pos) (tV (dP2 pIn da db)) := ot_cmp op_inA snd_in ha hb hm
theorem ot_nin (ha : OE X W a da) (hb : OE X W b db) (hm : behindInMarks .NotIn b = false := by rfl) : OT X W (.Compare a [.NotIn] [b] pos) (tV (dP2 pNin da db)) := ot_cmp op_ninA snd_nin ha hb hm

/-! ### subscripts -/
def pIx : D → D → Option Res
  | .lst ds, .int i => (atI ds i).map .s
  | .tup ds, .int i => (atI ds i).map .s
  | .str z, .int i => if z.length ≤ LIM then (atI z.cps.toList i).map fun c => .s (.str ⟨#[c]⟩) else none
  | _, _ => none
theorem atI_reps {F : Hp} {ds : List D} {vs : List V} {i : Int} {d : D} (r : Reps K F ds vs) (h : atI ds i = some d) : ∃ v, atI vs i = some v ∧ Rep K F d v := by
  unfold atI at h ⊢
  rw [r.length]
  cases hj : ixN ds.length i with
  | none => rw [hj] at h; cases h
  | some j =>
    rw [hj] at h
    exact r.get h
theorem snd_ix : Snd2 K (rIx K) pIx := by
  intro d1 d2 res v w H F QH sub e t1 t2 k
  unfold pIx at e
  split at e
  · rename_i ds i
    cases h : atI ds i with
    | none => rw [h] at e; cases e
    | some d =>
      rw [h] at e; cases e
      obtain ⟨p, vs, e1, e2, e3⟩ := t1
      obtain ⟨u, h1, h2⟩ := atI_reps e3 h
      exact .inl ⟨p, vs, i, u, e1, top_int t2, SqL.of e2, h1, k u h2⟩
  · rename_i ds i
    cases h : atI ds i with
    | none => rw [h] at e; cases e
    | some d =>
      rw [h] at e; cases e
      obtain ⟨p, vs, e1, e2, e3⟩ := t1
      obtain ⟨u, h1, h2⟩ := atI_reps e3 h
      exact .inr (.inl ⟨p, vs, i, u, e1, top_int t2, e2, h1, k u h2⟩)
  · rename_i z i
    split at e
    · rename_i hl
      cases h : atI z.cps.toList i with
      | none => rw [h] at e; cases e
      | some c =>
        rw [h] at e; cases e
        refine .inr (.inr ⟨z, i, c, ?_, top_int t2, lim_line hl, h, k _ rep_str⟩)
        unfold Top Rep at t1; exact t1
    · cases e
  · cases e
theorem oe_sub_ix (ha : OE X W a da) (hb : OE X W b db) (hs : PlainIx b := by exact fun _ _ => rfl) : OE X W (.Subscript a b pos) (dP2 pIx da db) := oe_ix ix_seq snd_ix ha hb hs

/-! ### len, isinstance, join -/
def pLen : List D → Option Res
  | [.lst ds] => some (.s (.int ds.length))
  | [.tup ds] => some (.s (.int ds.length))
  | [.str z] => if z.length ≤ LIM then some (.s (.int z.length)) else none
  | _ => none
def rLenA (K : PySem.W.Frag) : List V → Hp → VK → Prop := fun xs H Q => (∃ p ys, xs = [.ref p] ∧ (SqL K H p ys ∨ SqT K H p ys) ∧ Q (.int ys.length) H) ∨ ∃ z : Str, xs = [.str z] ∧ z.length ≤ sizeLine ∧ Q (.int z.length) H
theorem call_lenA : CallR X (.builtin "len") (rLenA X.K) := call_len_seq.or call_len_str
theorem snd_len : SndA K (rLenA K) pLen := by
  intro ds res vs H F QH sub e t k
  unfold pLen at e
  split at e
  · cases e
    obtain ⟨v, e1, p, ws, e2, e3, e4⟩ := tops1 t
    subst e1; subst e2
    exact .inl ⟨p, ws, rfl, .inl (SqL.of e3), by rw [e4.length]; exact k _ rep_int⟩
  · cases e
    obtain ⟨v, e1, p, ws, e2, e3, e4⟩ := tops1 t
    subst e1; subst e2
    exact .inl ⟨p, ws, rfl, .inr e3, by rw [e4.length]; exact k _ rep_int⟩
  · split at e
    · rename_i z hl
      cases e
      obtain ⟨v, e1, t1⟩ := tops1 t
      unfold Top Rep at t1
      subst e1; subst t1
      exact .inr ⟨z, rfl, lim_line hl, k _ rep_int⟩
    · cases e
  · cases e
theorem oe_len {p : Pos} (hg : Gl X "len") (hm : X.mg "len" = none) (ha : OA X W [a] ad) (he : starEach [a] X.env = (false, eval a X.env) :: starEach [] X.env := by rfl) (hpl : (backTo pos (starEach [] X.env)).any (·.1) = false := by rfl) : OE X W (.Call (.Name "len" p) [a] [] pos) (dPA pLen ad) :=
  oe_cb call_lenA snd_len hg hm PySem.boot_len ha (by decide) (by decide) he hpl
def tyN : D → Option String
  | .non => some "NoneType"
  | .bl _ => some "bool"
  | .int _ => some "int"
  | .str _ => some "str"
  | .lst _ => some "list"
  | .tup _ => some "tuple"
  | .dic _ => some "dict"
  | _ => none
def tyL : List String := ["int", "bool", "str", "tuple", "list", "dict"]
def isTy (t n : String) : Bool := t == n || (t == "bool" && n == "int")
def pIsi : List D → Option Res
  | [d, .ty n] => (tyN d).bind fun t => if n ∈ tyL then some (.s (.bl (isTy t n))) else none
  | _ => none
theorem kit_all : ∀ t ∈ ["NoneType", "bool", "int", "str", "list", "tuple", "dict"], ∀ n ∈ tyL, kitB t n = some (isTy t n) := by decide +kernel
theorem top_tyx {H F : Hp} {d : D} {v : V} {t : String} (h : Top K H F d v) (e : tyN d = some t) : TyX K H v (.type t) ∧ t ∈ ["NoneType", "bool", "int", "str", "list", "tuple", "dict"] := by
  cases d with
  | non => cases e; unfold Top Rep at h; subst h; exact ⟨.base .non, by decide⟩
  | bl b => cases e; unfold Top Rep at h; subst h; exact ⟨.base (.bl b), by decide⟩
  | int b => cases e; unfold Top Rep at h; subst h; exact ⟨.base (.int b), by decide⟩
  | str b => cases e; unfold Top Rep at h; subst h; exact ⟨.base (.str b), by decide⟩
  | lst ds => cases e; obtain ⟨p, vs, e1, e2, _⟩ := h; subst e1; exact ⟨.base (.lst e2), by decide⟩
  | tup ds =>
    cases e
    obtain ⟨p, vs, e1, e2, _⟩ := h
    subst e1
    refine ⟨?_, by decide⟩
    rcases e2 with (q | ⟨o, q⟩) | ⟨o, its, n, q1, q2, _⟩
    · exact .base (.tup q)
    · exact .fTuple q
    · exact .kTuple q1 q2
  | dic ds => cases e; obtain ⟨p, vs, e1, e2, _⟩ := h; subst e1; exact ⟨.base (.dK e2), by decide⟩
  | ty n => cases e
  | glob n => cases e
  | ins C n => cases e
theorem snd_isi : SndA K (rIsi K) pIsi := by
  intro ds res vs H F QH sub e t k
  unfold pIsi at e
  split at e
  · rename_i d n
    cases h1 : tyN d with
    | none => rw [h1] at e; cases e
    | some tt =>
      rw [h1] at e
      have e : (if n ∈ tyL then some (Res.s (.bl (isTy tt n))) else none) = some res := e
      split at e
      · rename_i hn
        cases e
        obtain ⟨v, w, e1, t1, t2⟩ := tops2 t
        unfold Top Rep at t2
        subst e1; subst t2
        obtain ⟨x1, x2⟩ := top_tyx t1 h1
        exact ⟨v, .ty n, .type tt, .type n, isTy tt n, rfl, .ty n, x1, kit_ty (kit_all tt x2 n hn), k _ rep_bl⟩
      · cases e
  · cases e
theorem oe_isi {p : Pos} (hg : Gl X "isinstance") (hm : X.mg "isinstance" = none) (hv : bootBuiltins "isinstance" = some (.builtin "isinstance")) (ha : OA X W [a, b] ad) (he : starEach [a, b] X.env = (false, eval a X.env) :: starEach [b] X.env := by rfl) (hpl : (backTo pos (starEach [b] X.env)).any (·.1) = false := by rfl) : OE X W (.Call (.Name "isinstance" p) [a, b] [] pos) (dPA pIsi ad) :=
  oe_cb call_isi snd_isi hg hm hv ha (by decide) (by decide) he hpl
theorem oe_tyname {x : Str} {n : String} (hg : Gl X x) (hm : X.mg x = none) (hv : bootBuiltins x = some (.type n)) (hn : x ≠ "__name__" := by decide) (hd : (x == ("__debug__" : Str)) = false := by decide) : OE X W (.Name x pos) (eC (.ty n)) :=
  oe_c (pe_bltn hg hm hv (v := .ty n) rfl hn hd) fun F => by unfold Rep; rfl
def strsOf : List D → Option (List Str)
  | [] => some []
  | .str s :: ds => (strsOf ds).map (s :: ·)
  | _ => none
def pJoin : D → List D → Option Res
  | .str sep, [.lst ds] => (strsOf ds).bind fun ss => if (ss.map (·.length)).sum + ss.length * sep.length ≤ LIM then some (.s (.str (Txt.join sep ss))) else none
  | .str sep, [.tup ds] => (strsOf ds).bind fun ss => if (ss.map (·.length)).sum + ss.length * sep.length ≤ LIM then some (.s (.str (Txt.join sep ss))) else none
  | _, _ => none
theorem strsOf_ok {F : Hp} : ∀ {ds : List D} {vs : List V} {ss : List Str}, Reps K F ds vs → strsOf ds = some ss → vs = ss.map V.str
  | [], vs, ss, r, e => by unfold Reps at r; subst r; cases e; rfl
  | d :: ds, vs, ss, r, e => by
    unfold Reps at r
    obtain ⟨v, ws, e1, r1, r2⟩ := r
    subst e1
    cases d with
    | str s =>
      unfold strsOf at e
      cases h : strsOf ds with
      | none => rw [h] at e; cases e
      | some ts =>
        rw [h] at e; cases e
        unfold Rep at r1
        subst r1
        rw [strsOf_ok r2 h]; rfl
    | _ => cases e
theorem snd_join : SndM K (fun x xs H Q => ∃ a p, ∃ ys : List Str, x = .str a ∧ xs = [.ref p] ∧ (SqL K H p (ys.map V.str) ∨ SqT K H p (ys.map V.str)) ∧ (ys.map (·.length)).sum + ys.length * a.length ≤ 16777216 ∧ Q (.str (Txt.join a ys)) H) pJoin := by
  intro d ds res v vs H F QH sub e t ts k
  unfold pJoin at e
  split at e
  · rename_i sep xs
    cases h : strsOf xs with
    | none => rw [h] at e; cases e
    | some ss =>
      rw [h] at e
      have e : (if (ss.map (·.length)).sum + ss.length * sep.length ≤ LIM then some (Res.s (.str (Txt.join sep ss))) else none) = some res := e
      split at e
      · rename_i hl
        cases e
        obtain ⟨w, e1, p, ws, e2, e3, e4⟩ := tops1 ts
        subst e1; subst e2
        unfold Top Rep at t
        have := strsOf_ok e4 h
        subst this
        exact ⟨sep, p, ss, t, rfl, .inl (SqL.of e3), Nat.le_trans hl (by unfold LIM; decide), k _ rep_str⟩
      · cases e
  · rename_i sep xs
    cases h : strsOf xs with
    | none => rw [h] at e; cases e
    | some ss =>
      rw [h] at e
      have e : (if (ss.map (·.length)).sum + ss.length * sep.length ≤ LIM then some (Res.s (.str (Txt.join sep ss))) else none) = some res := e
      split at e
      · rename_i hl
        cases e
        obtain ⟨w, e1, p, ws, e2, e3, e4⟩ := tops1 ts
        subst e1; subst e2
        unfold Top Rep at t
        have := strsOf_ok e4 h
        subst this
        exact ⟨sep, p, ss, t, rfl, .inr e3, Nat.le_trans hl (by unfold LIM; decide), k _ rep_str⟩
      · cases e
  · cases e
end OW
set_option exponentiation.threshold 3000
namespace OW
open PySem PySem.Spec L2
section
variable {X : Cx}
/-- o[k] by getItem, a list, k written -/
def rGetN (K : PySem.W.Frag) : V → V → Hp → VK → Prop := fun x y H Q => ∃ (p : Addr) (xs : List V) (k : Nat) (v : V), x = .ref p ∧ y = .int (k : Int) ∧ SqL K H p xs ∧ xs[k]? = some v ∧ Q v H
theorem get_listN : PGet X (rGetN X.K) := by
  intro pins s σ H o i ov iv Q I r1 r2 h
  obtain ⟨p, xs, k, z, rfl, rfl, hq, he, q⟩ := h
  cases r1
  obtain ⟨t, rfl⟩ := r2
  obtain ⟨its, rv, pl, hz⟩ := I.list hq
  obtain ⟨w, ew, rz⟩ := rv.get he
  have hk : k < xs.length := (List.getElem?_eq_some_iff.mp he).1
  have hn := line63
  exact wpAny_getItem_list pl.isList (by omega) (by omega) (by simpa using ew) ⟨z, H, I, rz, q⟩
/-- powers of great numbers -/
def CPowW (i j : Int) : Prop := 0 ≤ j ∧ (Builtin.Int.intBits i : Int) * j ≤ 2 ^ 27
theorem op_powW : OpR X (binaryOp .Pow) (rI CPowW fun i j => .int (i ^ j.toNat)) := opI fun _ _ _ _ _ _ _ hc q => PyProof.Rows.pow_int hc.1 hc.2 q
end
theorem bits_le {x : Int} {k : Nat} (h : x.natAbs < 2 ^ k) (hk : 0 < k) : Builtin.Int.intBits x ≤ k := by
  unfold Builtin.Int.intBits
  split
  · omega
  · have := PySem.Flt.log2_lt_of hk h
    omega
theorem pow5 {x : Int} (h : x.natAbs < 2 ^ 2100) : CPowW x 5 := by
  refine ⟨by decide, ?_⟩
  have h1 := bits_le h (by decide)
  have h2 : (2 : Int) ^ 27 = 134217728 := by decide
  rw [h2]
  omega
theorem small_lin {c n a b d : Int} (hc0 : 0 ≤ c) (hc : c < 2147483647) (hn0 : 0 ≤ n) (hn : n ≤ 2 ^ 2000) (ha0 : 0 ≤ a) (ha : a ≤ 2 ^ 20) (hb0 : 0 ≤ b) (hb : b ≤ 2 ^ 20) (hd0 : 0 ≤ d) (hd : d ≤ 100) : (c * a + n * b + d).natAbs < 2 ^ 2100 := by
  have h1 : c * a ≤ 2 ^ 31 * 2 ^ 20 := Int.mul_le_mul (by omega) ha ha0 (by decide)
  have h2 : n * b ≤ 2 ^ 2000 * 2 ^ 20 := Int.mul_le_mul hn hb hb0 (by decide)
  have h3 : 0 ≤ c * a := Int.mul_nonneg hc0 ha0
  have h4 : 0 ≤ n * b := Int.mul_nonneg hn0 hb0
  have h5 : (2 : Int) ^ 31 * 2 ^ 20 + 2 ^ 2000 * 2 ^ 20 + 100 < 2 ^ 2100 := by decide
  have h6 : c * a + n * b + d < 2 ^ 2100 := by
    generalize c * a = p at *
    generalize n * b = q at *
    generalize (2 : Int) ^ 31 * 2 ^ 20 = u at *
    generalize (2 : Int) ^ 2000 * 2 ^ 20 = w at *
    generalize (2 : Int) ^ 2100 = z at *
    omega
  have h7 : 0 ≤ c * a + n * b + d := by omega
  have h8 : ((c * a + n * b + d).natAbs : Int) = c * a + n * b + d := Int.natAbs_of_nonneg h7
  have h9 : ((c * a + n * b + d).natAbs : Int) < ((2 ^ 2100 : Nat) : Int) := by
    rw [h8, Int.natCast_pow]; exact h6
  exact Int.ofNat_lt.mp h9

/-! ### the draw -/
/-- the heap within a draw: H0 the entry's -/
structure Dr (H0 : Hp) (ps q0 r : Addr) (ys : List Int) (n : Int) (H : Hp) (q : Addr) (xs : List Int) : Prop where
  q1 : q ≠ ps
  q2 : q ≠ r
  q3 : q = q0 ∨ H0 q = none
  p : H ps = some (.lst [.ref q, .ref r, .int n])
  l : H q = some (.lst (xs.map V.int))
  nn : ∀ x ∈ xs, 0 ≤ x
  cl : H r = some (.lst (ys.map V.int))
  keep : ∀ a o, H0 a = some o → a ≠ ps → a ≠ q0 → H a = some o
  d0 : ∃ o, H q0 = some o
theorem Dr.new {H0 H : Hp} {ps q0 r : Addr} {ys : List Int} {n : Int} {q : Addr} {xs : List Int} (h : Dr H0 ps q0 r ys n H q xs) {a : Addr} {o : HO} (ha : H a = none) : Dr H0 ps q0 r ys n (upd H a o) q xs :=
  ⟨h.q1, h.q2, h.q3, upd_mono ha _ _ h.p, upd_mono ha _ _ h.l, h.nn, upd_mono ha _ _ h.cl, fun b u x y z => upd_mono ha _ _ (h.keep b u x y z), let ⟨u, x⟩ := h.d0; ⟨u, upd_mono ha _ _ x⟩⟩
/-- how a draw ends -/
theorem Dr.fin {G : Gh} {ps q0 r : Addr} {xs0 ys : List Int} {n0 : Int} {H : Hp} {q : Addr} {xs : List Int} (ok : GOk G) (hS : G.S = some ps) (e1 : ps ≠ q0) (e2 : ps ≠ r) (e3 : q0 ≠ r) (o1 : G.O ps = some 0) (o2 : G.O q0 = some 0) (o3 : G.O r = some 0)
    (hp : G.H ps = some (.lst [.ref q0, .ref r, .int n0])) (hr : G.H r = some (.lst (ys.map V.int))) (hy : ys ≠ []) (h0 : 0 ≤ n0) (hc : n0 ≤ G.c) (h : Dr G.H ps q0 r ys (n0 + 1) H q xs) : ∃ G', G'.H = H ∧ Step 1 G G' ∧ GOk G' := by
  let G' : Gh := ⟨H, G.F, fun a => if a = q then some 0 else G.O a, G.c + 1, G.B, G.S⟩
  have qF : G.F q = none := by
    rcases h.q3 with z | z
    · rw [z]; exact (ok.own _ _ o2).1
    · exact (ok.none z).1
  have oq : G'.O q = some 0 := if_pos rfl
  have on : ∀ a, a ≠ q → G'.O a = G.O a := fun a ha => if_neg ha
  have nl : ∀ a, G.O a = none → a ≠ ps ∧ a ≠ q0 := fun a ha => ⟨fun z => (by rw [z, o1] at ha; cases ha), fun z => (by rw [z, o2] at ha; cases ha)⟩
  have dm : ∀ a o, G.H a = some o → ∃ o', H a = some o' := fun a o ha => by
    by_cases z1 : a = ps
    · rw [z1]; exact ⟨_, h.p⟩
    · by_cases z2 : a = q0
      · rw [z2]; exact h.d0
      · exact ⟨o, h.keep a o ha z1 z2⟩
  have nz : ∀ a, (∃ o, G.F a = some o) → a ≠ ps ∧ a ≠ q0 := fun a ⟨o, ha⟩ => ⟨fun z => (by rw [z, (ok.own _ _ o1).1] at ha; cases ha), fun z => (by rw [z, (ok.own _ _ o2).1] at ha; cases ha)⟩
  refine ⟨G', rfl, ⟨fun _ _ z => z, fun a o z1 z2 z3 => ⟨h.keep a o z1 (nl a z2).1 (nl a z2).2, ?_, z3⟩, Nat.le_refl _, dm, rfl, fun _ z => z, Nat.le_succ _⟩, ⟨fun a o z => h.keep a o (ok.sub a o z) (nz a ⟨o, z⟩).1 (nz a ⟨o, z⟩).2, fun a i z => ?_, fun a z => let ⟨o, y⟩ := ok.old a z; dm a o y, fun a i z => ?_, fun a z => ?_⟩⟩
  · rw [on a (fun y => ?_)]
    · exact z2
    · rw [y] at z1 z2
      rcases h.q3 with w | w
      · rw [w, o2] at z2; cases z2
      · rw [w] at z1; cases z1
  · by_cases y : a = q
    · rw [y]; exact ⟨qF, _, h.l⟩
    · rw [on a y] at z
      exact ⟨(ok.own a i z).1, let ⟨o, w⟩ := (ok.own a i z).2; dm a o w⟩
  · by_cases y : a = q
    · rw [y, oq] at z; cases z
    · rw [on a y] at z; exact ok.new a i z
  · have z : G.S = some a := z
    rw [hS] at z; cases z
    refine ⟨q, r, xs, ys, n0 + 1, h.q1.symm, e2, h.q2, ?_, oq, ?_, h.p, h.l, h.cl, h.nn, hy, by omega, ?_⟩
    · show G'.O ps = some 0; rw [on ps h.q1.symm]; exact o1
    · show G'.O r = some 0; rw [on r h.q2.symm]; exact o3
    · show n0 + 1 ≤ ((G.c + 1 : Nat) : Int)
      omega
def prDraw : CP := fun args Q _ => ∃ n : Int, args = [.st, .fz (.int n)] ∧ 0 < n ∧ n < 1073741824 ∧ ∀ k : Int, 0 ≤ k → k < n → Q (.d (.int k))
end OW
set_option exponentiation.threshold 3000
namespace OW
open PySem PySem.Spec L2
/-! ### the draw's loop and rest, over any text -/
section
variable {K : PySem.W.Frag} {H0 : Hp} {ps q0 r : Addr} {ys : List Int} {n : Int} {D : Ends} {rs : List (Option V)}
theorem dp_ints {H : Hp} : ∀ xs : List Int, DpAll K H (xs.map V.int) (xs.map PyData.int)
  | [] => .nil
  | x :: xs => .cons (.int x) (dp_ints xs)
theorem shaped_ints (xs : List Int) : SeqAt.shaped (.list (xs.map PyData.int)) = true := by
  have h1 : ∀ xs : List Int, PyData.canLayAll0 (xs.map PyData.int) = true := fun xs => by
    induction xs with
    | nil => rfl
    | cons x xs ih => show (PyData.canLay0 (.int x) && PyData.canLayAll0 (xs.map PyData.int)) = true; rw [ih]; rfl
  have h2 : ∀ xs : List Int, PyData.depthAll (xs.map PyData.int) = 0 := fun xs => by
    induction xs with
    | nil => rfl
    | cons x xs ih => show max (PyData.depth (.int x)) (PyData.depthAll (xs.map PyData.int)) = 0; rw [ih]; rfl
  unfold SeqAt.shaped
  rw [Bool.and_eq_true]
  refine ⟨h1 xs, decide_eq_true ?_⟩
  show PyData.depthAll (xs.map PyData.int) + 1 ≤ 64
  rw [h2]; decide
theorem eqv_nil (xs : List Int) : PyData.eqv (.list (xs.map PyData.int)) (.list []) = xs.isEmpty := by
  cases xs with
  | nil => rfl
  | cons x xs => rfl
abbrev tSt0 (K : PySem.W.Frag) : TE := tOp (rIxL K) (tVar 0) (tC (.int 0))
abbrev tSome (K : PySem.W.Frag) : TT := tTest (tOp (rNeD K) (tSt0 K) (tLst tNil))
theorem some_run {H : Hp} {q : Addr} {xs : List Int} {Q : Bool → Hp → Prop} (d : Dr H0 ps q0 r ys n H q xs) (k : ∀ H', Dr H0 ps q0 r ys n H' q xs → Q (!xs.isEmpty) H') : tSome K (some (.ref ps) :: rs) H Q := by
  refine ⟨.ref ps, rfl, ps, _, 0, .ref q, rfl, rfl, SqL.of d.p, rfl, Nat.zero_le _, fun p hp => ?_⟩
  have d' := d.new (o := .lst []) hp
  refine ⟨.list (xs.map PyData.int), .list [], .lst (SqL.of d'.l) (dp_ints xs), .lst (SqL.of upd_same) .nil, shaped_ints xs, by decide +kernel, _, rfl, ?_⟩
  rw [eqv_nil]
  exact k _ d'
theorem drawLoop {H : Hp} {q : Addr} {xs : List Int} (hps : H0 ps ≠ none) (hq0 : H0 q0 ≠ none) (d : Dr H0 ps q0 r ys n H q xs) (hnx : ∀ H' q xs, Dr H0 ps q0 r ys n H' q xs → D.nx (some (.ref ps) :: rs) H') :
    tWhile (tAnd (tSome K) (tTest (tOp rEq (tOp (rIxL K) (tSt0 K) (tC (.int 0))) (tC (.int 0))))) (tAsg (tSl (rSlL K) (tSt0 K) (tPart (tC (.int 1))) tNoPart) (gSub (tVar 0) (tC (.int 0)) rSetL)) D (some (.ref ps) :: rs) H := by
  refine ⟨fun m σ H' => σ = some (.ref ps) :: rs ∧ ∃ q xs, Dr H0 ps q0 r ys n H' q xs ∧ m = xs.length, ⟨xs.length, rfl, q, xs, d, rfl⟩, ?_⟩
  rintro m σ H1 ⟨rfl, q, xs, d, rfl⟩
  refine some_run d fun H2 d2 => ?_
  cases xs with
  | nil => exact hnx H2 q [] d2
  | cons x xs =>
    refine ⟨.ref ps, rfl, ps, _, 0, .ref q, rfl, rfl, SqL.of d2.p, rfl, q, _, 0, .int x, rfl, rfl, SqL.of d2.l, atI_nat (j := 0) rfl, rfl, _, rfl, ?_⟩
    by_cases hx : x = 0
    · subst hx
      rw [decide_eq_true rfl]
      refine ⟨fun σ' H' => σ' = some (.ref ps) :: rs ∧ ∃ q', Dr H0 ps q0 r ys n H' q' xs, fun σ' H' ⟨e, q', d'⟩ => ⟨xs.length, Nat.lt_succ_self _, e, q', xs, d', rfl⟩, ?_⟩
      refine ⟨.ref ps, rfl, ps, _, 0, .ref q, rfl, rfl, SqL.of d2.p, rfl, 1, rfl, q, _, rfl, SqL.of d2.l, fun p hp => ?_⟩
      have d3 := d2.new (o := .lst (cutV ((0 :: xs).map V.int) (some 1) none)) hp
      refine ⟨.ref ps, rfl, ps, _, 0, 0, rfl, rfl, d3.p, rfl, rfl, p, ?_⟩
      have hcut : cutV ((0 :: xs).map V.int) (some 1) none = xs.map V.int := by
        unfold cutV
        rw [show HT.sIx ((0 :: xs).map V.int).length 0 (some 1) = min 1 ((0 :: xs).map V.int).length from HT.sIx_nat _ 0 1, HT.sIx_none, List.length_map, List.length_cons, show min 1 (xs.length + 1) = 1 by omega]
        show ((xs.map V.int).take (xs.length + 1 - 1)) = xs.map V.int
        exact List.take_of_length_le (by rw [List.length_map]; omega)
      have pps : p ≠ ps := (ne_of_none d2.p hp).symm
      have pq0 : p ≠ q0 := by obtain ⟨o, z⟩ := d2.d0; exact (ne_of_none z hp).symm
      have pr : p ≠ r := (ne_of_none d2.cl hp).symm
      have rps : r ≠ ps := by
        intro z
        have z1 := d2.p
        have z2 := d2.cl
        rw [z] at z2
        rw [z1] at z2
        injection z2 with z3
        injection z3 with z4
        cases ys with
        | nil => cases z4
        | cons y ys => cases z4
      have hn0 : H0 p = none := by
        cases e : H0 p with
        | none => rfl
        | some o => have := d2.keep p o e pps pq0; rw [hp] at this; cases this
      refine ⟨pps, pr, .inr hn0, ?_, ?_, fun y hy => d2.nn y (List.mem_cons_of_mem _ hy), ?_, fun a o z1 z2 z3 => ?_, ?_⟩
      · rw [upd_same]; rfl
      · rw [upd_ne pps, upd_same, hcut]
      · rw [upd_ne rps]; exact d3.cl
      · rw [upd_ne z2]; exact d3.keep a o z1 z2 z3
      · obtain ⟨o, z⟩ := d3.d0
        by_cases w : q0 = ps
        · exact ⟨_, by rw [w]; exact upd_same⟩
        · exact ⟨o, by rw [upd_ne w]; exact z⟩
    · rw [decide_eq_false (fun z => hx (V.int.inj z))]
      exact hnx H2 q (x :: xs) d2
theorem Dr.item {H : Hp} {q : Addr} {xs : List Int} {x : Int} (d : Dr H0 ps q0 r ys n H q (x :: xs)) (hr0 : H0 r ≠ none) (rq : r ≠ q0) {z : Int} (hz : 0 ≤ z) : Dr H0 ps q0 r ys n (upd H q (.lst ((z :: xs).map V.int))) q (z :: xs) := by
  refine ⟨d.q1, d.q2, d.q3, by rw [upd_ne d.q1.symm]; exact d.p, upd_same, fun y hy => ?_, by rw [upd_ne d.q2.symm]; exact d.cl, fun a o z1 z2 z3 => ?_, ?_⟩
  · rcases List.mem_cons.mp hy with w | w
    · rw [w]; exact hz
    · exact d.nn y (List.mem_cons_of_mem _ w)
  · have : a ≠ q := fun w => by
      rcases d.q3 with u | u
      · exact z3 (w.trans u)
      · rw [w, u] at z1; cases z1
    rw [upd_ne this]; exact d.keep a o z1 z2 z3
  · obtain ⟨o, z⟩ := d.d0
    by_cases w : q0 = q
    · exact ⟨_, by rw [w]; exact upd_same⟩
    · exact ⟨o, by rw [upd_ne w]; exact z⟩
abbrev tI0 (K : PySem.W.Frag) : TE := tOp (rIxL K) (tSt0 K) (tC (.int 0))
abbrev rInt1 : List V → Hp → VK → Prop := fun xs H Q => (∃ i, xs = [.int i] ∧ Q (.int i) H) ∨ ∃ k, xs = [.bl k] ∧ Q (.int (if k then 1 else 0)) H
/-- the digit and its rest -/
theorem digit_run {H : Hp} {q : Addr} {xs : List Int} {x z : Int} {Q : VK} {y2 : Option V} {rs : List (Option V)} (hz : 0 < z) (d : Dr H0 ps q0 r ys n H q (x :: xs)) (k : Q (.int (x % z)) H) :
    tOp (rI (fun _ j => 0 < j) fun i j => .int (i % j)) (tCB rInt1 (tCons (tI0 K) tNil)) (tVar 1) (some (.ref ps) :: some (.int z) :: rs) H Q :=
  ⟨.ref ps, rfl, ps, _, 0, .ref q, rfl, rfl, SqL.of d.p, rfl, q, _, 0, .int x, rfl, rfl, SqL.of d.l, atI_nat (j := 0) rfl, .inl ⟨x, rfl, .int z, rfl, x, z, rfl, rfl, hz, k⟩⟩
end
end OW
set_option exponentiation.threshold 3000
namespace OW
open PySem PySem.Spec L2
def topS (i : Nat) : Stmt := PySem.Challenge.pw_openshares_k01_valid_names.main.body.getD i (.Pass ⟨0, 0, 0, 0⟩)
abbrev sDraw : Stmt := topS 7
theorem scDraw : FnScope ["_law_state", "_law_size", "_law_digit", "_law_cell", "_law_one"] ["_law_state", "_law_size"] (defScope sDraw) := ⟨rfl, rfl, rfl, by decide +kernel, rfl, by decide +kernel, by decide +kernel⟩
theorem emod_bd {a b : Int} (h : 0 < b) : 0 ≤ a % b ∧ a % b < b := ⟨Int.emod_nonneg a (by omega), Int.emod_lt_of_pos a h⟩
section
variable {P : Program} {w : World} {K : PySem.W.Frag} {mg : Str → Option Value} {base : Heap}
theorem ok_draw {f : Addr} {fdt : FuncData} {k : Nat} (F : Fun K "_law_draw" "_law_draw" sDraw f fdt) (mi : mg "int" = none) (ml : mg "len" = none) : FnOk P w K mg base (L2.CX P w) (k + 1) f fdt ["_law_state", "_law_size"] (spO K prDraw 1) := by
  refine F.okX scDraw (fun vs H Q E h => ?_) fun cdv A outer s H vs QH EH hr h => ?_
  · obtain ⟨G, args, Q, E, _, _, ao, _, ⟨n, rfl, _⟩, _⟩ := h
    rw [ao.length]; rfl
  · obtain ⟨G, args, Q, E, rfl, en, ao, bud, ⟨z, rfl, hz0, hz1, hq⟩, kq, ke⟩ := h
    obtain ⟨v0, v1, rfl, hv0, hv1⟩ : ∃ v0 v1, vs = [v0, v1] ∧ ArgOk K G .st v0 ∧ ArgOk K G (.fz (.int z)) v1 := by
      cases ao with
      | cons h1 h2 =>
        cases h2 with
        | cons h3 h4 => cases h4; exact ⟨_, _, rfl, h1, h3⟩
    obtain ⟨ps, rfl, hS⟩ := hv0
    have hv1 : v1 = .int z := by unfold ArgOk Rep at hv1; exact hv1
    subst hv1
    obtain ⟨q0, r, xs0, ys, n0, e1, e2, e3, o1, o2, o3, c1, c2, c3, d1, d2, d3, d4⟩ := en.ok.st ps hS
    have bi : bootBuiltins "int" = some (.type "int") := by decide +kernel
    have hcm : n0 + 1 ≤ 2 ^ 2000 := by
      have : (G.c : Int) + 1 ≤ ((2 ^ 2000 : Nat) : Int) := by
        have := Int.ofNat_le.mpr bud
        unfold CM at this
        exact this
      rw [Int.natCast_pow] at this
      exact Int.le_trans (by omega) this
    refine ⟨_, pss_cons (ps_augS (pv 0) pe_int get_listN pe_int ip_add set_list)
      (pss_cons (ps_while (passes_of rfl) (PW.pt (pw_and (pt_cmpR (op_neD hr.units) (pe_ix ix_list (pv 0) pe_int (fun _ _ => rfl)) (pe_lst pa_nil) (nomark _)) (pw_and1 (pt_cmpR op_eq (pe_ix ix_list (pe_ix ix_list (pv 0) pe_int (fun _ _ => rfl)) pe_int (fun _ _ => rfl)) pe_int (nomark _)))))
        (pss_one (ps_asg (pe_slice sl_list (pe_ix ix_list (pv 0) pe_int (fun _ _ => rfl)) (po_some pe_int) po_none) (pg_sub (pv 0) pe_int set_list))))
      (pss_cons (ps_if (pt_cmpR (op_neD hr.units) (pe_ix ix_list (pv 0) pe_int (fun _ _ => rfl)) (pe_lst pa_nil) (nomark _))
        (pss_cons (ps_set (i := 2) scDraw.nd rfl (.inl rfl) (pe_op op_mod (pe_callTy call_int1 (by rfl) mi bi (pa_cons (pe_ix ix_list (pe_ix ix_list (pv 0) pe_int (fun _ _ => rfl)) pe_int (fun _ _ => rfl)) pa_nil)) (pv 1)))
        (pss_cons (ps_asg (pe_op op_fdiv (pe_ix ix_list (pe_ix ix_list (pv 0) pe_int (fun _ _ => rfl)) pe_int (fun _ _ => rfl)) (pv 1)) (pg_sub (pe_ix ix_list (pv 0) pe_int (fun _ _ => rfl)) pe_int set_list))
        (pss_one (ps_ret (pv 2))))) pss_nil)
      (pss_cons (ps_set (i := 3) scDraw.nd rfl (.inl rfl) (pe_op op_mod (pe_callTy call_int1 (by rfl) mi bi (pa_cons (pe_ix ix_list (pe_ix ix_list (pv 0) pe_int (fun _ _ => rfl))
          (pe_op op_mod (pe_callTy call_int1 (by rfl) mi bi (pa_cons (pe_ix ix_list (pv 0) pe_int (fun _ _ => rfl)) pa_nil)) (pe_callB call_len_seq (by rfl) ml PySem.boot_len (pa_cons (pe_ix ix_list (pv 0) pe_int (fun _ _ => rfl)) pa_nil))) (fun _ _ => rfl)) pa_nil)) pe_int))
      (pss_cons (ps_set (i := 4) scDraw.nd rfl (.inl rfl) (pe_op op_mod (pe_callTy call_int1 (by rfl) mi bi (pa_cons (pe_op op_powW (pe_op op_add (pe_op op_add (pe_op op_mul (pv 3) pe_int) (pe_op op_mul (pe_ix ix_list (pv 0) pe_int (fun _ _ => rfl)) pe_int)) pe_int) pe_int) pa_nil)) pe_int))
      (pss_one (ps_ret (pe_op op_mod (pe_op op_mod (pe_callTy call_int1 (by rfl) mi bi (pa_cons (pe_op op_powW (pe_op op_add (pe_op op_add (pe_op op_mul (pv 4) pe_int) (pe_op op_mul (pe_ix ix_list (pv 0) pe_int (fun _ _ => rfl)) pe_int)) pe_int) pe_int) pa_nil)) pe_int) (pv 1)))))))), ?_⟩
    -- the count
    refine ⟨.ref ps, rfl, ps, _, 2, .int n0, rfl, rfl, SqL.of c1, rfl, n0, 1, rfl, rfl, ps, _, 2, 2, rfl, rfl, c1, rfl, ?_⟩
    have D0 : Dr G.H ps q0 r ys (n0 + 1) (upd G.H ps (.lst [.ref q0, .ref r, .int (n0 + 1)])) q0 xs0 := by
      refine ⟨e1.symm, e3, .inl rfl, upd_same, by rw [upd_ne e1.symm]; exact c2, d1, by rw [upd_ne e2.symm]; exact c3, fun a o z1 z2 z3 => by rw [upd_ne z2]; exact z1, ⟨_, by rw [upd_ne e1.symm]; exact c2⟩⟩
    have fin : ∀ {H' : Hp} {q : Addr} {xs : List Int} {kk : Int}, Dr G.H ps q0 r ys (n0 + 1) H' q xs → 0 ≤ kk → kk < z → QH (.int kk) H' := fun {H' q xs kk} d h0 h1 => by
      obtain ⟨G', g, st, ok'⟩ := Dr.fin (xs0 := xs0) en.ok hS e1 e2 e3 o1 o2 o3 c1 c3 d2 d3 d4 d
      rw [← g]
      exact kq (.int kk) G' (.d (.int kk)) st ok' (by show Rep _ _ _ _; unfold Rep; rfl) (hq kk h0 h1)
    have hr0 : G.H r ≠ none := by rw [c3]; simp
    refine drawLoop (by rw [c1]; simp) (by rw [c2]; simp) D0 fun H1 q xs d => ?_
    refine some_run d fun H2 dd => ?_
    cases xs with
    | cons x xs =>
      -- a digit of a big cell
      refine iteT (digit_run (y2 := none) hz0 dd ?_)
      have hx0 : 0 ≤ x := dd.nn x List.mem_cons_self
      have hx1 : 0 ≤ x / z := Int.ediv_nonneg hx0 (by omega)
      refine ⟨.ref ps, rfl, ps, _, 0, .ref q, rfl, rfl, SqL.of dd.p, rfl, q, _, 0, .int x, rfl, rfl, SqL.of dd.l, atI_nat (j := 0) rfl, .int z, rfl, x, z, rfl, rfl, ⟨hz0, hz1⟩, ?_⟩
      refine ⟨.ref ps, rfl, ps, _, 0, .ref q, rfl, rfl, SqL.of dd.p, rfl, q, _, 0, 0, rfl, rfl, dd.l, ?_, ?_⟩
      · show ixN ((x :: xs).map V.int).length 0 = some 0
        unfold ixN
        rw [if_pos (by decide), if_pos (by rw [List.length_map, List.length_cons]; omega)]
        rfl
      · exact ⟨_, rfl, fin (dd.item hr0 e3.symm hx1) (emod_bd hz0).1 (emod_bd hz0).2⟩
    | nil =>
      refine iteF ?_
      have hy0 : 0 < ys.length := List.length_pos_iff.mpr d2
      have hm := emod_bd (a := n0 + 1) (show (0 : Int) < (ys.length : Nat) by omega)
      obtain ⟨c, hc⟩ : ∃ c, ys[((n0 + 1) % (ys.length : Int)).toNat]? = some c := ⟨_, List.getElem?_eq_getElem (by omega)⟩
      have hat : atI (ys.map V.int) ((n0 + 1) % (((ys.map V.int).length : Nat) : Int)) = some (.int c) := by
        rw [List.length_map, ← Int.toNat_of_nonneg hm.1]
        exact atI_nat (by rw [List.getElem?_map, hc]; rfl)
      -- the cell
      refine ⟨.ref ps, rfl, ps, _, 1, .ref r, rfl, rfl, SqL.of dd.p, rfl, ?_⟩
      refine ⟨.ref ps, rfl, ps, _, 2, .int (n0 + 1), rfl, rfl, SqL.of dd.p, rfl, .inl ⟨n0 + 1, rfl, .ref ps, rfl, ps, _, 1, .ref r, rfl, rfl, SqL.of dd.p, rfl, r, _, rfl, .inl (SqL.of dd.cl), n0 + 1, _, rfl, rfl, by rw [List.length_map]; omega, ?_⟩⟩
      refine ⟨r, _, _, .int c, rfl, rfl, SqL.of dd.cl, hat, .inl ⟨c, rfl, c, 2147483647, rfl, rfl, (show (0 : Int) < 2147483647 by decide), ?_⟩⟩
      have hc1 := emod_bd (a := c) (show (0 : Int) < 2147483647 by decide)
      -- one
      refine ⟨_, rfl, _, 48271, rfl, rfl, .inr (by decide), .ref ps, rfl, ps, _, 2, .int (n0 + 1), rfl, rfl, SqL.of dd.p, rfl, n0 + 1, 69621, rfl, rfl, .inr (by decide), _, _, rfl, rfl, _, 7, rfl, rfl, _, 5, rfl, rfl, pow5 (small_lin hc1.1 hc1.2 (by omega) hcm (by decide) (by decide) (by decide) (by decide) (by decide) (by decide)), .inl ⟨_, rfl, _, 2147483647, rfl, rfl, (show (0 : Int) < 2147483647 by decide), ?_⟩⟩
      have hd1 := emod_bd (a := (c % 2147483647 * 48271 + (n0 + 1) * 69621 + 7) ^ (5 : Int).toNat) (show (0 : Int) < 2147483647 by decide)
      refine ⟨_, rfl, _, 16807, rfl, rfl, .inr (by decide), .ref ps, rfl, ps, _, 2, .int (n0 + 1), rfl, rfl, SqL.of dd.p, rfl, n0 + 1, 40692, rfl, rfl, .inr (by decide), _, _, rfl, rfl, _, 13, rfl, rfl, _, 5, rfl, rfl, pow5 (small_lin hd1.1 hd1.2 (by omega) hcm (by decide) (by decide) (by decide) (by decide) (by decide) (by decide)), .inl ⟨_, rfl, _, 2147483629, rfl, rfl, (show (0 : Int) < 2147483629 by decide), .int z, rfl, _, z, rfl, rfl, hz0, ?_⟩⟩
      exact fin dd (emod_bd hz0).1 (emod_bd hz0).2
end
end OW
set_option exponentiation.threshold 3000
namespace OW
open PySem PySem.Spec L2
abbrev sStart : Stmt := topS 6
theorem scStart : FnScope ["_law_script", "_law_cell"] ["_law_script"] (defScope sStart) := ⟨rfl, rfl, rfl, by decide +kernel, rfl, by decide +kernel, by decide +kernel⟩
def prStart : CP := fun args Q _ => ∃ ns : List Int, args = [.sc ns] ∧ ns.length ≤ 63 ∧ Q .st
theorem sameU {H : Hp} {p : Addr} {o : HO} (h : H p = none) : Same H (upd H p o) := fun b x e => upd_mono h b x e
theorem SqL.subF {K : PySem.W.Frag} {F H : Hp} {a : Addr} {xs : List V} (h : SqL K F a xs) (sub : ∀ p o, F p = some o → H p = some o) : SqL K H a xs := by
  rcases h with (q | ⟨o, q⟩) | q
  · exact .inl (.inl (sub _ _ q))
  · exact .inl (.inr ⟨o, sub _ _ q⟩)
  · exact .inr q
section
variable {P : Program} {w : World} {K : PySem.W.Frag} {mg : Str → Option Value} {base : Heap}
theorem ok_start {f : Addr} {fdt : FuncData} {k : Nat} (F : Fun K "_law_start" "_law_start" sStart f fdt) (ma : mg "abs" = none) (ml : mg "list" = none) : FnOk P w K mg base (L2.CX P w) (k + 1) f fdt ["_law_script"] (spO K prStart 0) := by
  refine F.okX scStart (fun vs H Q E h => ?_) fun cdv A outer s H vs QH EH hr h => ?_
  · obtain ⟨G, args, Q, E, _, _, ao, _, ⟨n, rfl, _⟩, _⟩ := h
    rw [ao.length]; rfl
  · obtain ⟨G, args, Q, E, rfl, en, ao, bud, ⟨ns, rfl, hlen, hq⟩, kq, ke⟩ := h
    obtain ⟨a, rfl, hsc⟩ : ∃ a, vs = [.ref a] ∧ SqL K G.F a (ns.map V.int) := by
      cases ao with
      | cons h1 h2 =>
        cases h2
        obtain ⟨a, e, q, _⟩ := h1
        exact ⟨a, by rw [e], q⟩
    have hsH : SqL K G.H a (ns.map V.int) := SqL.subF hsc en.ok.sub
    refine ⟨_, pss_one (ps_ret (pe_lst (pa_cons
      (pe_lc (own := [("_law_cell", 1)]) (g := gName 1) (by rfl) scStart.nd (pi_list (pv 0)) (blkOk_by (own := [("_law_cell", 1)]) (N := ["_law_script", "_law_cell"]) (sc := defScope sStart) (by decide +kernel))
        (fun _ _ _ _ _ => pg_name (i := 1) scStart.nd rfl (Or.inl rfl))
        (fun _ _ _ _ _ => pts_one (pt_cmpR op_ge (pe_callB call_abs (by rfl) ma (by decide +kernel) (pa_cons (pv 1) pa_nil)) (pe_op op_pow pe_int pe_int) (nomark _)))
        (fun _ _ _ _ _ => pe_callB call_abs (by rfl) ma (by decide +kernel) (pa_cons (pv 1) pa_nil)))
      (pa_cons (pe_op op_cat (pe_callTy call_list_of (by rfl) ml (by decide +kernel) (pa_cons (pv 0) pa_nil)) (pe_lst (pa_cons pe_int pa_nil))) (pa_cons pe_int pa_nil))))), ?_⟩
    refine ⟨.ref a, rfl, a, rfl, ⟨_, hsH⟩, fun Da hD => ?_⟩
    refine lc_list (K := K) (a := a) (xs := ns.map V.int) (fun i H' => Same G.H H' ∧ ∃ acc : List Int, H' Da = some (.lst (acc.map V.int)) ∧ (∀ x ∈ acc, 0 ≤ x) ∧ acc.length ≤ i) ⟨sameU hD, [], upd_same, by simp, Nat.le_refl _⟩ (fun i H' _ hp => hp.1.seq hsH) (fun i x H' hx hp => ?_) (fun H' hp => ?_)
    · obtain ⟨sm, acc, hA, nn, hl⟩ := hp
      rw [List.getElem?_map] at hx
      obtain ⟨c, hc, hce⟩ := Option.map_eq_some_iff.mp hx
      subst hce
      have hi : i < ns.length := (List.getElem?_eq_some_iff.mp hc).1
      refine ⟨rfl, ?_⟩
      refine ⟨.int c, rfl, c, rfl, 10, 18, rfl, rfl, ⟨by decide, by decide, by decide⟩, _, _, rfl, rfl, _, rfl, ?_⟩
      refine ite2 (fun _ => ?_) (fun _ => ?_)
      · refine ⟨.int c, rfl, c, rfl, _, hA, ?_, ?_⟩
        · rw [List.length_map]; exact small1000 (by omega)
        · refine ⟨fun b o e => ?_, acc ++ [if c < 0 then -c else c], ?_, fun y hy => ?_, ?_⟩
          · rw [upd_ne (ne_of_none e hD)]; exact sm b o e
          · rw [upd_same, List.map_append]; rfl
          · rcases List.mem_append.mp hy with z | z
            · exact nn y z
            · rw [List.mem_singleton.mp z]; split <;> omega
          · rw [List.length_append]; simp; omega
      · exact ⟨sm, acc, hA, nn, by omega⟩
    · obtain ⟨sm, acc, hA, nn, hl⟩ := hp
      refine ⟨.ref a, rfl, a, _, rfl, .inl (sm.seq hsH), fun l1 hl1 => ?_⟩
      refine ⟨by decide, fun l2 hl2 => ?_⟩
      have hl12 : l1 ≠ l2 := by intro z; rw [z] at hl2; rw [upd_same] at hl2; cases hl2
      refine ⟨l1, l2, _, _, rfl, rfl, by rw [upd_ne hl12]; exact upd_same, upd_same, ?_, fun l3 hl3 => ?_⟩
      · rw [List.length_map]; exact Nat.le_of_lt (small1000 (by show ns.length + 1 ≤ 1000; omega))
      · refine ⟨(by show 3 ≤ sizeLine; decide), fun ps hps => ?_⟩
        have s1 : Same H' (upd H' l1 (.lst (ns.map V.int))) := sameU hl1
        have s2 := s1.trans (sameU (o := .lst [.int 5]) hl2)
        have s3 := s2.trans (sameU (o := .lst (ns.map V.int ++ [.int 5])) hl3)
        have s4 := s3.trans (sameU (o := .lst [.ref Da, .ref l3, .int 0]) hps)
        have S := sm.trans s4
        let G' : Gh := ⟨upd (upd (upd (upd H' l1 (.lst (ns.map V.int))) l2 (.lst [.int 5])) l3 (.lst (ns.map V.int ++ [.int 5]))) ps (.lst [.ref Da, .ref l3, .int 0]), G.F, G.O, G.c, G.B, G.S⟩
        have ok' : GOk G' := ⟨fun q o e => S _ _ (en.ok.sub q o e), fun q i e => ⟨(en.ok.own q i e).1, let ⟨o, z⟩ := (en.ok.own q i e).2; ⟨o, S _ _ z⟩⟩, fun q e => let ⟨o, z⟩ := en.ok.old q e; ⟨o, S _ _ z⟩, en.ok.new, fun q e => (en.ok.st q e).up (fun q' o x y => ⟨S _ _ y, x⟩) (Nat.le_refl _)⟩
        have fl : ∀ q, G.H q = none → G'.O q = none ∧ ¬ G'.B q ∧ G'.F q = none := fun q e => ⟨(en.ok.none e).2, fun z => (by obtain ⟨o, y⟩ := en.ok.old q z; rw [e] at y; cases y), (en.ok.none e).1⟩
        have n3 : G.H l3 = none := (sm.trans s2).free hl3
        have nps : G.H ps = none := (sm.trans s3).free hps
        have dD : G'.H Da = some (.lst (acc.map V.int)) := s4 _ _ hA
        have d3 : G'.H l3 = some (.lst (ns.map V.int ++ [.int 5])) := by
          show upd _ ps _ l3 = _
          rw [upd_ne (fun z => by rw [z, upd_same] at hps; cases hps)]; exact upd_same
        refine kq (.ref ps) G' .st ⟨fun _ _ z => z, fun q o x y z => ⟨S _ _ x, y, z⟩, Nat.le_refl _, fun q o x => ⟨o, S _ _ x⟩, rfl, fun _ z => z, Nat.le_refl _⟩ ok' ⟨ps, rfl, Da, l3, acc, ns ++ [5], 0, ?_, ?_, ?_, fl ps nps, fl Da hD, fl l3 n3, upd_same, dD, ?_, nn, by simp, Int.le_refl _, by omega⟩ hq
        · intro z
          have := s3 _ _ hA
          rw [← z, hps] at this; cases this
        · intro z; rw [z, upd_same] at hps; cases hps
        · intro z
          have := s2 _ _ hA
          rw [z, hl3] at this; cases this
        · rw [List.map_append]; exact d3
end
end OW
set_option exponentiation.threshold 3000
namespace OW
open PySem PySem.Spec L2
variable {X : Cx} {W : WX} {K : PySem.W.Frag}
def isNo : Sl → Bool
  | .no => true
  | _ => false
/-- the call that makes the draw state: all other slots are empty yet -/
def eStart (i : Nat) : EDen := ⟨0, fun R Q _ => ∃ ns, R[i]? = some (.sc ns) ∧ ns.length ≤ 63 ∧ (R.set i .no).all isNo = true ∧ Q .st (R.set i .no)⟩
theorem oe_start {i : Nat} {x y : Str} {p p2 pos : Pos} {k : Nat} {f : Addr} {fdt : FuncData} {ps : List Str} (F : FnOk X.prog X.w X.K X.mg X.base (L2.CX X.prog X.w) k f fdt ps (spO X.K prStart 0)) (hr : Room k X.A) (tk : Takes X W) (hg : Gl X x) (hm : X.mg x = some (.ref f)) (hk : PySem.W.keepIn X.K (.ref f) = true) (hb : Binds X.K fdt ps [])
    (hv : PE X (.Name y p2) (tVar i)) (hdb : (x == ("__debug__" : Str)) = false := by decide) (he : starEach [.Name y p2] X.env = (false, eval (.Name y p2) X.env) :: starEach [] X.env := by rfl) (hpl : (backTo pos (starEach [] X.env)).any (·.1) = false := by rfl) :
    OE X W (.Call (.Name x p) [.Name y p2] [] pos) (eStart i) :=
  peImp (pe_callS F hr hg hm hk hb (fun σ => passAt tk σ) (pa_cons hv pa_nil) hdb he hpl) fun σ H QH ⟨G, R, Q, E, e1, rel, bud, ⟨ns, hi, hl, hno, q⟩, ex, kq⟩ => by
    subst e1
    obtain ⟨ov, h1, a, h2, h3, h4⟩ := rel.sl i _ hi
    subst h2
    have bud : G.c + 0 ≤ CM := bud
    refine ⟨.ref a, h1, G.callee false, [.sc ns], _, fun _ => False, rfl, entry_callee rel.ok, .cons ⟨a, rfl, h3, rfl⟩ .nil, bud, ⟨ns, rfl, hl, (rfl : (fun rv => rv = RV.st) .st)⟩, fun v G' rv s ok' vr hrv => ?_, fun _ _ _ _ _ _ _ z => z.elim⟩
    subst hrv
    obtain ⟨pp, ev, q1, r1, xs, ys, n, a1, a2, a3, b1, b2, b3, c1, c2, c3, d1, d2, d3, d4⟩ := vr
    subst ev
    have rb := rel_back rel s ok'
    have sb := step_back rel.ok s
    have nb : ∀ q, (G'.O q = none ∧ ¬ G'.B q ∧ G'.F q = none) → (G.back G' false).O q = none ∧ G.H q = none ∧ G'.F q = none := fun q z => ⟨(new_back rel.ok s z.1 z.2.1).1, (new_back rel.ok s z.1 z.2.1).2, z.2.2⟩
    have m1 := nb pp b1
    have m2 := nb q1 b2
    have m3 := nb r1 b3
    let O2 : Addr → Option Nat := fun q => if q = pp ∨ q = q1 ∨ q = r1 then some 0 else (G.back G' false).O q
    let G2 : Gh := ⟨G'.H, G'.F, O2, G'.c, G.B, some pp⟩
    have oy : ∀ q, (q = pp ∨ q = q1 ∨ q = r1) → O2 q = some 0 := fun q z => if_pos z
    have on : ∀ q, ¬ (q = pp ∨ q = q1 ∨ q = r1) → O2 q = (G.back G' false).O q := fun q z => if_neg z
    have three : ∀ q, (q = pp ∨ q = q1 ∨ q = r1) → (G.back G' false).O q = none ∧ G.H q = none ∧ G'.F q = none ∧ ∃ o, G'.H q = some o := fun q z => by
      rcases z with z | z | z
      · subst z; exact ⟨m1.1, m1.2.1, m1.2.2, _, c1⟩
      · subst z; exact ⟨m2.1, m2.2.1, m2.2.2, _, c2⟩
      · subst z; exact ⟨m3.1, m3.2.1, m3.2.2, _, c3⟩
    have ok2 : GOk G2 := by
      refine ⟨ok'.sub, fun q j z => ?_, rb.ok.old, fun q j z => ?_, fun q z => ?_⟩
      · by_cases w : q = pp ∨ q = q1 ∨ q = r1
        · exact ⟨(three q w).2.2.1, (three q w).2.2.2⟩
        · have z : O2 q = some j := z
          rw [on q w] at z; exact rb.ok.own q j z
      · by_cases w : q = pp ∨ q = q1 ∨ q = r1
        · have z : O2 q = some (j + 1) := z
          rw [oy q w] at z; cases z
        · have z : O2 q = some (j + 1) := z
          rw [on q w] at z; exact rb.ok.new q j z
      · have z : some pp = some q := z
        cases z
        exact ⟨q1, r1, xs, ys, n, a1, a2, a3, oy _ (.inl rfl), oy _ (.inr (.inl rfl)), oy _ (.inr (.inr rfl)), c1, c2, c3, d1, d2, d3, d4⟩
    have st2 : Step 0 G G2 := ⟨sb.fz, fun q o x1 x2 x3 => by
      obtain ⟨y1, y2, y3⟩ := sb.fl q o x1 x2 x3
      refine ⟨y1, ?_, y3⟩
      show O2 q = none
      rw [on q (fun w => by have := (three q w).2.1; rw [x1] at this; cases this)]; exact y2, sb.bud, sb.dom, rfl, fun q z => (by rw [h4] at z; cases z), sb.up⟩
    refine kq (.ref pp) G2 (R.set i .no) .st st2 ⟨ok2, by rw [List.length_set]; exact rel.len, fun j t e => ?_⟩ ⟨pp, rfl, rfl⟩ q
    have hj := List.all_eq_true.mp hno t (List.mem_of_getElem? e)
    cases t with
    | no =>
      have hjl : j < σ.length := by rw [← rel.len, ← List.length_set (i := i) (a := Sl.no)]; exact (List.getElem?_eq_some_iff.mp e).1
      exact ⟨_, List.getElem?_eq_getElem hjl, trivial⟩
    | fz x => cases hj
    | ow t => cases hj
    | bw t => cases hj
    | st => cases hj
    | sc ns => cases hj
end OW
namespace OW
open PySem PySem.Spec L2
variable {X : Cx} {W : WX} {K : PySem.W.Frag} {a b e : Expr} {es : List Expr} {pos : Pos} {da db de : EDen} {ad kd : ADen} {fd : FDen} {sd : SDen} {st : Stmt}
abbrev wEx (E : XK) : WX := fun cls d _ H' => E cls d H'
theorem tk0 : Takes X W0 := takes0
theorem rep_non {F : Hp} : Rep K F .non .non := by unfold Rep; rfl

theorem oe_gint {x : Str} {i : Int} (hg : Gl X x) (hm : ∃ t, X.mg x = some (.int i t)) (hd : (x == ("__debug__" : Str)) = false := by decide) : OE X W (.Name x pos) (eC (.int i)) :=
  oe_c (pe_glob hg hm.choose_spec (v := .int i) ⟨_, rfl⟩ hd) fun _ => rep_int
theorem oe_gstr {x : Str} {i : Str} (hg : Gl X x) (hm : ∃ t, X.mg x = some (.str i t)) (hd : (x == ("__debug__" : Str)) = false := by decide) : OE X W (.Name x pos) (eC (.str i)) :=
  oe_c (pe_glob hg hm.choose_spec (v := .str i) ⟨_, rfl⟩ hd) fun _ => rep_str

/-! ### primitives of one value -/
def Snd1 (K : PySem.W.Frag) (r : V → Hp → VK → Prop) (prim : D → Option Res) : Prop := ∀ d res v H F QH, Sub F H → prim d = some res → Top K H F d v → ResOk K F H QH res → r v H QH
def dP1 (prim : D → Option Res) (da : EDen) : EDen := ⟨da.cost, fun R Q E => da.wp R (fun x R1 => ∃ d res, rdD R1 x = some d ∧ prim d = some res ∧ Q res.val R1) E⟩
theorem p1_core {r : V → Hp → VK → Prop} {prim : D → Option Res} (hp : Snd1 K r prim) (σ : St) (H : Hp) (QH : VK) (h : tO K W (dP1 prim da) σ H QH) : tUn r (tO K W da) σ H QH := by
  obtain ⟨G, R, Q, E, e1, rel, bud, wp, ex, k⟩ := h
  refine ⟨G, R, _, E, e1, rel, bud, wp, ex, fun v G1 R1 x s1 r1 v1 q => ?_⟩
  obtain ⟨d, res, e2, e3, q⟩ := q
  exact hp d res v G1.H G1.F QH r1.ok.sub e3 (rd_top r1 v1 e2) (res_fin s1 r1 fun v' G' R' x' s' r' vx ⟨e5, e6⟩ => k v' G' R' x' s' r' vx (by rw [e5, e6]; exact q))
def pNeg : D → Option Res
  | .int i => some (.s (.int (-i)))
  | _ => none
theorem snd_neg : Snd1 K (rU fun i => .int (-i)) pNeg := by
  intro d res v H F QH sub e t k
  unfold pNeg at e
  split at e
  · cases e; exact ⟨_, top_int t, k _ rep_int⟩
  · cases e
theorem oe_neg (ha : OE X W a da) : OE X W (.UnaryOp .USub a pos) (dP1 pNeg da) := peImp (pe_un un_neg ha) (p1_core snd_neg)

/-! ### text[::-1] -/
def revStr (x : Str) : Str := ⟨((Builtin.Str.strSliceIndices none none (-1) x.length).filterMap (x.cps[·]?)).toArray⟩
def rRevS : V → Hp → VK → Prop := fun x H Q => ∃ s, x = .str s ∧ (revStr s).length ≤ sizeLine ∧ Q (.str (revStr s)) H
theorem pe_revS {te : TE} {k : Nat} {p1 p2 p3 : Pos} (he : PE X e te) : PE X (.Subscript e (.Slice none none (some (.UnaryOp .USub (.Constant (.int 1) k p1) p2)) p3) pos) (tUn rRevS te) := by
  refine ⟨fun pins s σ H Q I h => PyProof.Rows.Subscript_ (thn (he.run pins s σ H _ I h) fun v s1 ⟨x, H1, I1, r1, z, ex, hz, q⟩ => ?_)⟩
  subst ex
  obtain ⟨t, rfl⟩ := r1
  have step : PE X (.UnaryOp .USub (.Constant (.int 1) k p1) p2) (tUn (rU fun i => .int (-i)) (tC (.int 1))) := pe_un un_neg pe_int
  refine wpAny_Slice ?_
  rw [evalPart_none]
  refine wpAny_pure (wpAny_pure ?_)
  refine thn ((po_some step).run pins s1 σ H1 (fun o H4 => o = some (-1) ∧ H4 = H1) I1 ⟨1, rfl, -1, rfl, rfl, rfl⟩) fun vs s4 ⟨o, H4, I4, ps, eo, e4⟩ => ?_
  subst eo; subst e4
  obtain ⟨tt, rfl⟩ : ∃ tt, vs = Value.int (-1) tt := by
    cases ps; exact ⟨_, rfl⟩
  have I5 : Inv X pins σ H4 { s4 with heap := s4.heap.push { cls := .type "slice", data := .fields #[Value.none, Value.none, Value.int (-1) tt] } } := I4.kept (t' := s4.toks) fun b ob w => Heap.get?_push_of_some _ w
  refine PyProof.Rows.tail_any (T := "str") (typeIs_str _ z t) PySem.F.slot_str_getitem.lookup (wpAny_getItem_str_slice (l := none) (u := none) (st := some (-1, tt)) ⟨_, Heap.get?_push_size _ rfl, rfl, rfl⟩ rfl ?_) (by with_unfolding_all rfl)
  exact ⟨hz, .str _, H4, I5.tok _, ⟨_, rfl⟩, q⟩
def pRev : D → Option Res
  | .str s => if (revStr s).length ≤ LIM then some (.s (.str (revStr s))) else none
  | _ => none
theorem snd_rev : Snd1 K rRevS pRev := by
  intro d res v H F QH sub e t k
  unfold pRev at e
  split at e
  · split at e
    · rename_i hl
      cases e
      refine ⟨_, ?_, lim_line hl, k _ rep_str⟩
      unfold Top Rep at t; exact t
    · cases e
  · cases e
theorem oe_rev {k : Nat} {p1 p2 p3 : Pos} (ha : OE X W a da) : OE X W (.Subscript a (.Slice none none (some (.UnaryOp .USub (.Constant (.int 1) k p1) p2)) p3) pos) (dP1 pRev da) := peImp (pe_revS ha) (p1_core snd_rev)

/-! ### name = [..] with frozen items -/
theorem fe_core (σ : St) (H : Hp) (QH : VK) (h : tO K W (fE fd) σ H QH) : tOF K W fd σ H QH := by
  obtain ⟨G, R, Q, E, e1, rel, bud, wp, ex, k⟩ := h
  refine ⟨G, R, _, E, e1, rel, bud, wp, ex, fun v G1 R1 t s1 r1 v1 q => ?_⟩
  obtain ⟨G2, g2, s2, r2, q2⟩ := ice_new rel.ok s1 r1 v1
  rw [← g2]
  exact k v G2 R1 (.d t.toD) s2 r2 q2 q
theorem os_setLcE {i : Nat} {y : Str} {py spos : Pos} {elt tg iter : Expr} {ifs : List Expr} {scope : Scope} {own : List (Str × Nat)} {ts : List Nat} {it : IDen} {tgt : GD} {tt : TDen} {te : EDen} (hc : X.calm = true) (hN : X.N.Nodup) (hy : X.N[i]? = some y) (hyl : X.env.scope.names.lookup y = some .local)
    (hsw : swapsWith (.ListComp elt [⟨tg, iter, ifs, 0⟩] scope pos) (some (.Name y py)) spos.line X.env = pure true) (hi : OIC X W tg iter it) (ok : BlkOk X.N X.env.scope scope own) (hts : ∀ j ∈ ts, j ∈ own.map (·.2))
    (hg : ∀ (s : Shared) (H : Hp) (C : Addr) (cl : List (Str × Addr)) (fp : List Addr), OG (X.blk s H scope (compEnvC scope cl C X.env) fp) tg ts tgt) (ht : ∀ (s : Shared) (H : Hp) (C : Addr) (cl : List (Str × Addr)) (fp : List Addr), OTs (X.blk s H scope (compEnvC scope cl C X.env) fp) W0 ifs tt)
    (he : ∀ (s : Shared) (H : Hp) (C : Addr) (cl : List (Str × Addr)) (fp : List Addr), OE (X.blk s H scope (compEnvC scope cl C X.env) fp) W0 elt te) (hs : ∀ x, foldedSetIterable iter X.env x = pure x := by intro _; rfl) :
    OS X W (.Assign [.Name y py] (.ListComp elt [⟨tg, iter, ifs, 0⟩] scope pos) spos) (sAsg i (fE (fLc it tgt tt te (own.map (·.2))))) :=
  ⟨fun pins s σ H D I q => (ps_setLc (g := tOG X.K ts tgt) (tt := tOT X.K W0 tt) (te := tO X.K W0 te) hc hN hy hyl hsw hi ok hg ht he hs).run pins s σ H D I (lc_red hts σ H _ (fe_core σ H _ (asg_core q)))⟩

/-! ### calls with keywords -/
def permL {α : Type} (ix : List Nat) (l : List α) : List α := ix.filterMap (l[·]?)
theorem permL_rel (ix : List Nat) {vs : List V} {us : List Value} (r : Vals vs us) : Vals (permL ix vs) (permL ix us) := by
  induction ix with
  | nil => exact .nil
  | cons i ix ih =>
    unfold permL at *
    rw [List.filterMap_cons, List.filterMap_cons]
    cases e : vs[i]? with
    | none => rw [r.none_of e]; exact ih
    | some v =>
      obtain ⟨u, e2, q⟩ := r.get e
      rw [e2]
      exact .cons q ih
theorem permL_vals {G : Gh} {σ : St} (ix : List Nat) {vs : List V} {xs : List Val} (r : ValsOk K G σ vs xs) : ValsOk K G σ (permL ix vs) (permL ix xs) := by
  have get : ∀ {vs : List V} {xs : List Val} {i : Nat}, ValsOk K G σ vs xs → (vs[i]? = none ∧ xs[i]? = none) ∨ ∃ v x, vs[i]? = some v ∧ xs[i]? = some x ∧ ValOk K G σ v x ∧ x ≠ .st := by
    intro vs xs i r
    induction r generalizing i with
    | nil => exact .inl ⟨by simp, by simp⟩
    | cons h1 h2 h3 ih =>
      cases i with
      | zero => exact .inr ⟨_, _, rfl, rfl, h1, h2⟩
      | succ i => simpa using ih (i := i)
  induction ix with
  | nil => exact .nil
  | cons i ix ih =>
    unfold permL at *
    rw [List.filterMap_cons, List.filterMap_cons]
    rcases get (i := i) r with ⟨e1, e2⟩ | ⟨v, x, e1, e2, h1, h2⟩
    · rw [e1, e2]; exact ih
    · rw [e1, e2]; exact .cons h1 h2 ih
theorem ValsOk.app {G : Gh} {σ : St} : ∀ {vs ws : List V} {xs ys : List Val}, ValsOk K G σ vs xs → ValsOk K G σ ws ys → ValsOk K G σ (vs ++ ws) (xs ++ ys)
  | _, _, _, _, .nil, h => h
  | _, _, _, _, .cons a b c, h => .cons a b (c.app h)
def OK_ (X : Cx) (W : WX) (kws : List Keyword) (ad : ADen) : Prop := PK X kws (tOA X.K W ad)
theorem ok_nil : OK_ X W [] aN := ⟨fun pos pins s σ H Q I h => pk_nil.run pos pins s σ H Q I (oa_nil_core (ad := aN) σ H Q h)⟩
theorem acons_core (σ : St) (H : Hp) (QH : List V → Hp → Prop) (h : tOA K W (aS da ad) σ H QH) : tCons (tO K W da) (tOA K W ad) σ H QH := by
  obtain ⟨G, R, Q, E, e1, rel, bud, wp, ex, k⟩ := h
  have bud : G.c + (da.cost + ad.cost) ≤ CM := bud
  refine ⟨G, R, _, E, e1, rel, by omega, wp, fun x cls d G' R' s => ex x cls d G' R' (s.le (Nat.le_add_right _ _)), fun v G1 R1 x s1 r1 v1 q => ?_⟩
  obtain ⟨ns, q⟩ := q
  exact ⟨G1, R1, _, E, rfl, r1, by have := s1.bud; omega, q, ex.step s1 (Nat.le_refl _), fun vs G2 R2 xs s2 r2 v2 q => k _ G2 R2 _ (s1.trans s2) r2 (.cons (v1.step s2 ns) ns v2) q⟩
theorem ok_cons {kws : List Keyword} {nm : Option Str} {kpos : Pos} (ha : OE X W e da) (hr : OK_ X W kws ad) : OK_ X W (⟨nm, e, kpos⟩ :: kws) (aS da ad) :=
  ⟨fun pos pins s σ H Q I h => (pk_cons ha hr).run pos pins s σ H Q I (acons_core σ H Q h)⟩
def eCallK (P : CP) (c : Nat) (ix : List Nat) (n m : Nat) (ad kd : ADen) : EDen := ⟨ad.cost + kd.cost + c, fun R Q E => ad.wp R (fun xs R1 => xs.length = n ∧ kd.wp R1 (fun zs R2 => zs.length = m ∧ ∃ args, argsOf R2 (permL ix (xs ++ zs)) = some args ∧ P args (fun rv => ∃ d, rvD rv = some d ∧ Q (.d d) R2) (fun x => E x R2)) E) E⟩
def tCallKS (sp : Sp) (ix : List Nat) (n m : Nat) (E : St → XK) (t tk : TA) : TE := fun σ H Q => t σ H fun vs H1 => vs.length = n ∧ tk σ H1 fun zs H2 => zs.length = m ∧ sp (permL ix (vs ++ zs)) H2 Q (E σ)
theorem ecallK_core {P : CP} {c n m : Nat} {ix : List Nat} (σ : St) (H : Hp) (QH : VK) (h : tO K W (eCallK P c ix n m ad kd) σ H QH) : tCallKS (spO K P c) ix n m (WE W) (tOA K W ad) (tOA K W kd) σ H QH := by
  obtain ⟨G, R, Q, E, e1, rel, bud, wp, ex, k⟩ := h
  have bud : G.c + (ad.cost + kd.cost + c) ≤ CM := bud
  refine ⟨G, R, _, E, e1, rel, by omega, wp, fun x cls d G' R' s => ex x cls d G' R' (s.le (by show _ ≤ ad.cost + kd.cost + c; omega)), fun vs G1 R1 xs s1 r1 v1 q => ⟨by rw [v1.length]; exact q.1, ?_⟩⟩
  refine ⟨G1, R1, _, E, rfl, r1, by have := s1.bud; omega, q.2, ex.step s1 (by show _ ≤ ad.cost + kd.cost + c; omega), fun zs G2 R2 ys s2 r2 v2 q => ⟨by rw [v2.length]; exact q.1, ?_⟩⟩
  obtain ⟨_, args, ea, p⟩ := q
  have s12 := s1.trans s2
  refine call_core r2 (permL_vals ix ((v1.step s2).app v2)) ea (by have := s12.bud; omega) p (fun v G3 rv s3 r3 vr q => ?_) fun x cls d G3 s3 r3 xo q => ?_
  · obtain ⟨d, ed, q⟩ := q
    obtain ⟨G4, g4, s4, r4, q4⟩ := ret_ice rel.ok s12 s3 r3 vr ed
    rw [← g4]
    exact k v G4 R2 (.d d) s4 r4 q4 q
  · exact ex x cls d G3 R2 (s12.trans s3) r3 xo q
section
variable {x : Str} {p : Pos} {k c n : Nat} {f : Addr} {fdt : FuncData} {ps ks : List Str} {P : CP} {CX : CXT} {sp : Sp} {E : St → XK} {ix : List Nat} {kws : List Keyword} {t tk : TA}
theorem run_kw {pins : List (Addr × Obj)} {σ : St} {H : Hp} {s : Shared} {Q : VK} {us ws : List Value} {vs zs : List V} (F : FnOk X.prog X.w X.K X.mg X.base CX k f fdt ps sp) (hr : Room k X.A) (hb : KBn X.K fdt ps n ks (fun us ws => permL ix (us ++ ws)) (fun us ws => permL ix (us ++ ws))) (hx : PassesAt CX X σ (E σ))
    (hn : us.length = n) (hk : ws.length = ks.length) (I : Inv X pins σ H s) (r : Vals vs us) (rz : Vals zs ws) (h : sp (permL ix (vs ++ zs)) H Q (E σ)) : wpAny (model X.prog X.w) X.A (call (.ref f) us (ks.zip ws)) (EP X pins σ Q) X.xe s :=
  wpAny_call (codeAny_mono (F.run X.A X.stack s H ⟨us, ks.zip ws⟩ _ _ Q (E σ) hr I.env0 (hb.to s us ws I.kIn hn hk) (hb.rel r rz) h) fun res s' hq => by
    cases res with
    | error er => exact hx pins H s er s' I hq
    | ok fl =>
      cases fl with
      | ret u => exact I.after hq
      | next => exact hq.elim
      | brk => exact hq.elim
      | cont => exact hq.elim)
theorem pe_callKS (F : FnOk X.prog X.w X.K X.mg X.base CX k f fdt ps sp) (hr : Room k X.A) (hg : Gl X x) (hm : X.mg x = some (.ref f)) (hkp : PySem.W.keepIn X.K (.ref f) = true) (hb : KBn X.K fdt ps n ks (fun us ws => permL ix (us ++ ws)) (fun us ws => permL ix (us ++ ws))) (hx : ∀ σ, PassesAt CX X σ (E σ))
    (ha : PA X (e :: es) t) (hkw : PK X kws tk) (hall : (backToKw pos (keywordEach kws X.env)).all (·.1.isSome) = true := by rfl) (hks : (backToKw pos (keywordEach kws X.env)).filterMap (·.1) = ks := by rfl)
    (hdb : (x == ("__debug__" : Str)) = false := by decide) (he : starEach (e :: es) X.env = (false, eval e X.env) :: starEach es X.env := by rfl)
    (hpl : ((backTo pos (starEach (e :: es) X.env)).any (·.1) || (backToKw pos (keywordEach kws X.env)).any (·.1.isNone)) = false := by rfl) :
    PE X (.Call (.Name x p) (e :: es) kws pos) (tCallKS sp ix n ks.length E t tk) :=
  ⟨fun pins s σ H Q I h => wpAny_Call_Name_kw (ld_glob I hg hm (PySem.W.callWith_KW (h₀ := X.base) I.ok.mod.kin hkp hall (thn (ha.run pos pins s σ H _ I h) fun us s1 ⟨vs, H1, I1, r1, hn, q1⟩ =>
    thn (hkw.run pos pins s1 σ H1 _ I1 q1) fun ws s2 ⟨zs, H2, I2, r2, hm2, q2⟩ => ⟨I2.kIn, by
      rw [hks]
      exact run_kw (us := us) F hr hb (hx σ) (by rw [← r1.length]; exact hn) (by rw [← r2.length]; exact hm2) I2 r1 r2 q2⟩) hpl he) hdb)⟩
theorem pe_callKS0 (F : FnOk X.prog X.w X.K X.mg X.base CX k f fdt ps sp) (hr : Room k X.A) (hg : Gl X x) (hm : X.mg x = some (.ref f)) (hkp : PySem.W.keepIn X.K (.ref f) = true) (hb : KBn X.K fdt ps 0 ks (fun us ws => permL ix (us ++ ws)) (fun us ws => permL ix (us ++ ws))) (hx : ∀ σ, PassesAt CX X σ (E σ))
    (hkw : PK X kws tk) (hall : (backToKw pos (keywordEach kws X.env)).all (·.1.isSome) = true := by rfl) (hks : (backToKw pos (keywordEach kws X.env)).filterMap (·.1) = ks := by rfl)
    (hdb : (x == ("__debug__" : Str)) = false := by decide)
    (hpl : ((backTo pos (starEach [] X.env)).any (·.1) || (backToKw pos (keywordEach kws X.env)).any (·.1.isNone)) = false := by rfl) :
    PE X (.Call (.Name x p) [] kws pos) (tCallKS sp ix 0 ks.length E tNil tk) :=
  ⟨fun pins s σ H Q I h => wpAny_Call_Name_kw (ld_glob I hg hm (PySem.W.callWith_KW0 (h₀ := X.base) I.ok.mod.kin hkp hall
    (thn (hkw.run pos pins s σ H _ I h.2) fun ws s2 ⟨zs, H2, I2, r2, hm2, q2⟩ => ⟨I2.kIn, by
      rw [hks]
      exact run_kw (us := []) (vs := []) F hr hb (hx σ) rfl (by rw [← r2.length]; exact hm2) I2 .nil r2 q2⟩) hpl) hdb)⟩
theorem oe_callK (F : FnOk X.prog X.w X.K X.mg X.base (L2.CX X.prog X.w) k f fdt ps (spO X.K P c)) (hr : Room k X.A) (tk : Takes X W) (hg : Gl X x) (hm : X.mg x = some (.ref f)) (hkp : PySem.W.keepIn X.K (.ref f) = true) (hb : KBn X.K fdt ps n ks (fun us ws => permL ix (us ++ ws)) (fun us ws => permL ix (us ++ ws)))
    (ha : OA X W (e :: es) ad) (hkw : OK_ X W kws kd) (hall : (backToKw pos (keywordEach kws X.env)).all (·.1.isSome) = true := by rfl) (hks : (backToKw pos (keywordEach kws X.env)).filterMap (·.1) = ks := by rfl)
    (hdb : (x == ("__debug__" : Str)) = false := by decide) (he : starEach (e :: es) X.env = (false, eval e X.env) :: starEach es X.env := by rfl)
    (hpl : ((backTo pos (starEach (e :: es) X.env)).any (·.1) || (backToKw pos (keywordEach kws X.env)).any (·.1.isNone)) = false := by rfl) :
    OE X W (.Call (.Name x p) (e :: es) kws pos) (eCallK P c ix n ks.length ad kd) := peImp (pe_callKS F hr hg hm hkp hb (fun σ => passAt tk σ) ha hkw hall hks hdb he hpl) ecallK_core
theorem oe_callK0 (F : FnOk X.prog X.w X.K X.mg X.base (L2.CX X.prog X.w) k f fdt ps (spO X.K P c)) (hr : Room k X.A) (tk : Takes X W) (hg : Gl X x) (hm : X.mg x = some (.ref f)) (hkp : PySem.W.keepIn X.K (.ref f) = true) (hb : KBn X.K fdt ps 0 ks (fun us ws => permL ix (us ++ ws)) (fun us ws => permL ix (us ++ ws)))
    (hkw : OK_ X W kws kd) (hall : (backToKw pos (keywordEach kws X.env)).all (·.1.isSome) = true := by rfl) (hks : (backToKw pos (keywordEach kws X.env)).filterMap (·.1) = ks := by rfl)
    (hdb : (x == ("__debug__" : Str)) = false := by decide)
    (hpl : ((backTo pos (starEach [] X.env)).any (·.1) || (backToKw pos (keywordEach kws X.env)).any (·.1.isNone)) = false := by rfl) :
    OE X W (.Call (.Name x p) [] kws pos) (eCallK P c ix 0 ks.length aN kd) := peImp (pe_callKS0 F hr hg hm hkp hb (fun σ => passAt tk σ) hkw hall hks hdb hpl) fun σ H Q h => oa_nil_core (ad := aN) σ H _ (ecallK_core σ H Q h)
/-- how a def binds positional and keyword arguments -/
theorem kbn_of {x qual : Str} {st : Stmt} (F : Fun K x qual st f fdt) (n : Nat) (ks : List Str) (ix : List Nat)
    (h : ∀ (kV doc pm : Value) (an : Option Addr) (cdv ct : Value) (us ws : List Value), us.length = n → ws.length = ks.length → bindArgs (PySem.W.fnOf x qual (defArgs st) (defBody st) (defScope st) .none kV doc pm an cdv ct) ⟨us, ks.zip ws⟩ = pure (ps.zip (permL ix (us ++ ws)))) : KBn K fdt ps n ks (fun us ws => permL ix (us ++ ws)) (fun us ws => permL ix (us ++ ws)) := by
  obtain ⟨oc, od, kV, doc, pm, an, cdv, ct, osl, rfl, lk, hcd⟩ := F.ex
  exact ⟨fun s us ws _ h1 h2 => .of_eq (h kV doc pm an cdv ct us ws h1 h2), fun r rz => permL_rel ix (r.append rz)⟩
end
end OW
namespace OW
open PySem PySem.Spec L2

def isLet (c : Nat) : Bool := decide (c ∈ (Str.ofString "abcdefghijklmnopqrstuvwxyz").cps.toList)
def isDig (c : Nat) : Bool := decide (c ∈ (Str.ofString "0123456789").cps.toList)
def nameOk (s : Str) : Bool := match s.cps.toList with
  | [] => false
  | c :: cs => decide (cs.length < 6) && isLet c && (c :: cs).all (fun c => isLet c || isDig c)
/-- small texts -/
def small (s : Str) : Prop := s.length ≤ 100000 ∧ ∀ c ∈ s.cps.toList, c < 1114112
def pr_valid_name : CP := fun args Q _ => ∃ s, args = [.fz (.str s)] ∧ small s ∧ Q (.d (.bl (nameOk s)))
def signs : Str := Str.ofString " !\"#$&'()*+,-./0123456789:;<=>?@ABCDEFGHIJKLMNOPQRSTUVWXYZ[\\]^_`" ++ Str.ofString "abcdefghijklmnopqrstuvwxyz{|}~\n"
def pr__law_signs : CP := fun args Q _ => args = [] ∧ Q (.d (.str signs))
def pr__law_good : CP := fun args Q _ => ∃ s, args = [.fz (.str s)] ∧ small s ∧ Q (.d (.bl (nameOk s)))
abbrev pr__law_draw : CP := prDraw
abbrev co__law_draw : Nat := 1
abbrev pr__law_start : CP := prStart
abbrev co__law_start : Nat := 0
def pr_law : CP := fun args Q _ => ∃ ns : List Int, args = [.sc ns] ∧ ns.length ≤ 63 ∧ Q (.d (.bl true))
structure Md (K : PySem.W.Frag) (mg : Str → Option Value) (a : Nat → Addr) (d : Nat → FuncData) : Prop where
  F_valid_name : Fun K "valid_name" "valid_name" (topS 4) (a 4) (d 4)
  g_valid_name : mg "valid_name" = some (.ref (a 4))
  b_valid_name : Binds K (d 4) ["text"] []
  F__law_start : Fun K "_law_start" "_law_start" (topS 6) (a 6) (d 6)
  g__law_start : mg "_law_start" = some (.ref (a 6))
  b__law_start : Binds K (d 6) ["_law_script"] []
  F__law_draw : Fun K "_law_draw" "_law_draw" (topS 7) (a 7) (d 7)
  g__law_draw : mg "_law_draw" = some (.ref (a 7))
  b__law_draw : Binds K (d 7) ["_law_state", "_law_size"] []
  F__law_signs : Fun K "_law_signs" "_law_signs" (topS 8) (a 8) (d 8)
  g__law_signs : mg "_law_signs" = some (.ref (a 8))
  b__law_signs : Binds K (d 8) [] []
  F__law_good : Fun K "_law_good" "_law_good" (topS 9) (a 9) (d 9)
  g__law_good : mg "_law_good" = some (.ref (a 9))
  b__law_good : Binds K (d 9) ["_law_word"] []
  F_law : Fun K "law" "law" (topS 10) (a 10) (d 10)
  g_law : mg "law" = some (.ref (a 10))
  b_law : Binds K (d 10) ["_law_script"] []
  k_valid_name_0_text : KBn K (d 4) ["text"] 0 ["text"] (fun us ws => permL [0] (us ++ ws)) (fun us ws => permL [0] (us ++ ws))
  c_LETTERS : ∃ t, mg "LETTERS" = some (.str (Str.ofString "abcdefghijklmnopqrstuvwxyz") t)
  c_DIGITS : ∃ t, mg "DIGITS" = some (.str (Str.ofString "0123456789") t)
  c_LONGEST : ∃ t, mg "LONGEST" = some (.int 6 t)
  n_abs : mg "abs" = none
  n_bool : mg "bool" = none
  n_int : mg "int" = none
  n_isinstance : mg "isinstance" = none
  n_len : mg "len" = none
  n_list : mg "list" = none
  n_range : mg "range" = none


abbrev N_valid_name : List Str := ["text", "char"]
theorem sc_valid_name : FnScope N_valid_name ["text"] (defScope (topS 4)) := ⟨rfl, rfl, rfl, by decide +kernel, rfl, by decide +kernel, by decide +kernel⟩
def d_valid_name_0 : SDen := sRet (eC (.bl false))
def d_valid_name_1 : SDen := sRet (eC (.bl false))
def d_valid_name_2 : SDen := sIf (tAnd' (tV (dP2 pNin (eV 1) (eC (.str (Str.ofString "abcdefghijklmnopqrstuvwxyz"))))) (tV (dP2 pNin (eV 1) (eC (.str (Str.ofString "0123456789")))))) (d_valid_name_1) (sNil)
def d_valid_name_3 : SDen := sIf (tOr' (tNot' (tV (dCh pLe pLe (eC (.int 1)) (dPA pLen (aS (eV 0) (aN))) (eC (.int 6))))) (tV (dP2 pNin (dP2 pIx (eV 0) (eC (.int 0))) (eC (.str (Str.ofString "abcdefghijklmnopqrstuvwxyz")))))) (d_valid_name_0) (sNil)
def d_valid_name_4 : SDen := sFor (iV (eV 0)) (gN 1) (d_valid_name_2)
def d_valid_name_5 : SDen := sRet (eC (.bl true))
def den_valid_name : SDen := sSeq d_valid_name_3 (sSeq d_valid_name_4 (d_valid_name_5))
def co_valid_name : Nat := den_valid_name.cost
theorem der_valid_name {P : Program} {w : World} {K : PySem.W.Frag} {mg : Str → Option Value} {base : Heap} {a : Nat → Addr} {d : Nat → FuncData} (M : Md K mg a d)  (cdv : Value) (A : Around) (outer : List Env) (s : Shared) (H : Hp) (E : XK)
    (hr : Room 0 (A.deeper (PyProof.Rows.envOfC "valid_name" (defScope (topS 4)) s.heap.objs.size (a 4) cdv))) : OSs (cxOf (L2.CX P w) P w K mg base N_valid_name "valid_name" (defScope (topS 4)) (a 4) cdv A outer s H E) (wEx E) (defBody (topS 4)) den_valid_name := by
  have tk : Takes (cxOf (L2.CX P w) P w K mg base N_valid_name "valid_name" (defScope (topS 4)) (a 4) cdv A outer s H E) (wEx E) := takes_of rfl rfl rfl rfl
  have po : PassesOwn (model P w) (cxOf (L2.CX P w) P w K mg base N_valid_name "valid_name" (defScope (topS 4)) (a 4) cdv A outer s H E).A (cxOf (L2.CX P w) P w K mg base N_valid_name "valid_name" (defScope (topS 4)) (a 4) cdv A outer s H E).env (cxOf (L2.CX P w) P w K mg base N_valid_name "valid_name" (defScope (topS 4)) (a 4) cdv A outer s H E).xe := passes_of rfl
  exact os_cons (os_if (ot_w (ow_or (ot_not (ot_lele (oe_c pe_int (fun _ => rep_int)) (oe_len (by rfl) M.n_len (oa_cons (oe_v (pv 0)) (oa_nil))) (oe_gint (by rfl) M.c_LONGEST))) (ow_or1 (ot_nin (oe_sub_ix (oe_v (pv 0)) (oe_c pe_int (fun _ => rep_int))) (oe_gstr (by rfl) M.c_LETTERS))))) (os_one (os_ret (oe_c pe_bl (fun _ => rep_bl)))) (os_nil))
    (os_cons (os_for po (by rfl) (oi_val (oe_v (pv 0))) (og_name (i := 1) sc_valid_name.nd rfl (by first | exact .inl rfl | exact .inr rfl)) (os_one (os_if (ot_w (ow_and (ot_nin (oe_v (pv 1)) (oe_gstr (by rfl) M.c_LETTERS)) (ow_and1 (ot_nin (oe_v (pv 1)) (oe_gstr (by rfl) M.c_DIGITS))))) (os_one (os_ret (oe_c pe_bl (fun _ => rep_bl)))) (os_nil))))
    (os_one (os_ret (oe_c pe_bl (fun _ => rep_bl)))))
theorem fn_valid_name {P : Program} {w : World} {K : PySem.W.Frag} {mg : Str → Option Value} {base : Heap} {a : Nat → Addr} {d : Nat → FuncData} (M : Md K mg a d) 
    (hP : ∀ args Q E, pr_valid_name args Q E → args.length = 1 ∧ den_valid_name.wp (start0 2 args) (ends0 Q E)) : FnOk P w K mg base (L2.CX P w) 1 (a 4) (d 4) ["text"] (spO K pr_valid_name co_valid_name) :=
  fnO M.F_valid_name sc_valid_name den_valid_name (Nat.le_refl _) (der_valid_name M ) hP

abbrev N__law_signs : List Str := ["_law_signs_here"]
theorem sc__law_signs : FnScope N__law_signs [] (defScope (topS 8)) := ⟨rfl, rfl, rfl, by decide +kernel, rfl, by decide +kernel, by decide +kernel⟩
def d__law_signs_0 : SDen := sAsg 0 (eC (.str (Str.ofString " !\"#$&'()*+,-./0123456789:;<=>?@ABCDEFGHIJKLMNOPQRSTUVWXYZ[\\]^_`")))
def d__law_signs_1 : SDen := sRet (dP2 pAdd (eV 0) (eC (.str (Str.ofString "abcdefghijklmnopqrstuvwxyz{|}~\n"))))
def den__law_signs : SDen := sSeq d__law_signs_0 (d__law_signs_1)
def co__law_signs : Nat := den__law_signs.cost
theorem der__law_signs {P : Program} {w : World} {K : PySem.W.Frag} {mg : Str → Option Value} {base : Heap} {a : Nat → Addr} {d : Nat → FuncData} (M : Md K mg a d)  (cdv : Value) (A : Around) (outer : List Env) (s : Shared) (H : Hp) (E : XK)
    (hr : Room 0 (A.deeper (PyProof.Rows.envOfC "_law_signs" (defScope (topS 8)) s.heap.objs.size (a 8) cdv))) : OSs (cxOf (L2.CX P w) P w K mg base N__law_signs "_law_signs" (defScope (topS 8)) (a 8) cdv A outer s H E) (wEx E) (defBody (topS 8)) den__law_signs := by
  have tk : Takes (cxOf (L2.CX P w) P w K mg base N__law_signs "_law_signs" (defScope (topS 8)) (a 8) cdv A outer s H E) (wEx E) := takes_of rfl rfl rfl rfl
  have po : PassesOwn (model P w) (cxOf (L2.CX P w) P w K mg base N__law_signs "_law_signs" (defScope (topS 8)) (a 8) cdv A outer s H E).A (cxOf (L2.CX P w) P w K mg base N__law_signs "_law_signs" (defScope (topS 8)) (a 8) cdv A outer s H E).env (cxOf (L2.CX P w) P w K mg base N__law_signs "_law_signs" (defScope (topS 8)) (a 8) cdv A outer s H E).xe := passes_of rfl
  exact os_cons (os_set (i := 0) sc__law_signs.nd rfl (.inl rfl) (oe_c pe_str (fun _ => rep_str)))
    (os_one (os_ret (oe_add (oe_v (pv 0)) (oe_c pe_str (fun _ => rep_str)))))
theorem fn__law_signs {P : Program} {w : World} {K : PySem.W.Frag} {mg : Str → Option Value} {base : Heap} {a : Nat → Addr} {d : Nat → FuncData} (M : Md K mg a d) 
    (hP : ∀ args Q E, pr__law_signs args Q E → args.length = 0 ∧ den__law_signs.wp (start0 1 args) (ends0 Q E)) : FnOk P w K mg base (L2.CX P w) 1 (a 8) (d 8) [] (spO K pr__law_signs co__law_signs) :=
  fnO M.F__law_signs sc__law_signs den__law_signs (Nat.le_refl _) (der__law_signs M ) hP

abbrev N__law_good : List Str := ["_law_word", "_law_letters", "_law_sign"]
theorem sc__law_good : FnScope N__law_good ["_law_word"] (defScope (topS 9)) := ⟨rfl, rfl, rfl, by decide +kernel, rfl, by decide +kernel, by decide +kernel⟩
def d__law_good_0 : SDen := sRet (eC (.bl false))
def d__law_good_1 : TDen := tV (dP2 pNin (eV 2) (dP2 pAdd (eV 1) (eC (.str (Str.ofString "0123456789")))))
def d__law_good_2 : EDen := eV 2
def d__law_good_3 : SDen := sAsg 1 (eC (.str (Str.ofString "abcdefghijklmnopqrstuvwxyz")))
def d__law_good_4 : SDen := sIf (tOr' (tV (dP2 pLt (dPA pLen (aS (eV 0) (aN))) (eC (.int 1)))) (tOr' (tV (dP2 pGt (dPA pLen (aS (eV 0) (aN))) (eC (.int 6)))) (tV (dP2 pNin (dP2 pIx (eV 0) (eC (.int 0))) (eV 1))))) (d__law_good_0) (sNil)
def d__law_good_5 : SDen := sRet (dP2 pEq (fE (fLc (iVC (eV 0)) (gN 2) (d__law_good_1) (d__law_good_2) [2])) (eLst (aN)))
def den__law_good : SDen := sSeq d__law_good_3 (sSeq d__law_good_4 (d__law_good_5))
def co__law_good : Nat := den__law_good.cost
theorem der__law_good {P : Program} {w : World} {K : PySem.W.Frag} {mg : Str → Option Value} {base : Heap} {a : Nat → Addr} {d : Nat → FuncData} (M : Md K mg a d)  (cdv : Value) (A : Around) (outer : List Env) (s : Shared) (H : Hp) (E : XK)
    (hr : Room 0 (A.deeper (PyProof.Rows.envOfC "_law_good" (defScope (topS 9)) s.heap.objs.size (a 9) cdv))) : OSs (cxOf (L2.CX P w) P w K mg base N__law_good "_law_good" (defScope (topS 9)) (a 9) cdv A outer s H E) (wEx E) (defBody (topS 9)) den__law_good := by
  have tk : Takes (cxOf (L2.CX P w) P w K mg base N__law_good "_law_good" (defScope (topS 9)) (a 9) cdv A outer s H E) (wEx E) := takes_of rfl rfl rfl rfl
  have po : PassesOwn (model P w) (cxOf (L2.CX P w) P w K mg base N__law_good "_law_good" (defScope (topS 9)) (a 9) cdv A outer s H E).A (cxOf (L2.CX P w) P w K mg base N__law_good "_law_good" (defScope (topS 9)) (a 9) cdv A outer s H E).env (cxOf (L2.CX P w) P w K mg base N__law_good "_law_good" (defScope (topS 9)) (a 9) cdv A outer s H E).xe := passes_of rfl
  exact os_cons (os_set (i := 1) sc__law_good.nd rfl (.inr rfl) (oe_c pe_str (fun _ => rep_str)))
    (os_cons (os_if (ot_w (ow_or (ot_lt (oe_len (by rfl) M.n_len (oa_cons (oe_v (pv 0)) (oa_nil))) (oe_c pe_int (fun _ => rep_int))) (ow_or (ot_gt (oe_len (by rfl) M.n_len (oa_cons (oe_v (pv 0)) (oa_nil))) (oe_c pe_int (fun _ => rep_int))) (ow_or1 (ot_nin (oe_sub_ix (oe_v (pv 0)) (oe_c pe_int (fun _ => rep_int))) (oe_v (pv 1))))))) (os_one (os_ret (oe_c pe_bl (fun _ => rep_bl)))) (os_nil))
    (os_one (os_ret (oe_eq hr (oe_f (of_lc (by rfl) sc__law_good.nd (own := [("_law_sign", 2)]) (ts := [2]) (tgt := gN 2) (oic_val (oe_v (pv 0))) (by refine blkOk_by (own := [("_law_sign", 2)]) (N := N__law_good) (sc := (defScope (topS 9))) ?_; decide +kernel) (by decide) (fun _ _ _ _ _ => og_name (i := 2) sc__law_good.nd rfl (by first | exact .inl rfl | exact .inr rfl)) (fun _ _ _ _ _ => ots_one (ot_nin (oe_v (pv 2)) (oe_add (oe_v (pv 1)) (oe_c pe_str (fun _ => rep_str))))) (fun _ _ _ _ _ => oe_v (pv 2)))) (oe_lst (oa_nil))))))
theorem fn__law_good {P : Program} {w : World} {K : PySem.W.Frag} {mg : Str → Option Value} {base : Heap} {a : Nat → Addr} {d : Nat → FuncData} (M : Md K mg a d) 
    (hP : ∀ args Q E, pr__law_good args Q E → args.length = 1 ∧ den__law_good.wp (start0 3 args) (ends0 Q E)) : FnOk P w K mg base (L2.CX P w) 1 (a 9) (d 9) ["_law_word"] (spO K pr__law_good co__law_good) :=
  fnO M.F__law_good sc__law_good den__law_good (Nat.le_refl _) (der__law_good M ) hP

abbrev N_law : List Str := ["_law_script", "_law_state", "_law_plan", "_law_signs_here", "_law_chars", "_law_k", "_law_word", "_law_actual"]
theorem sc_law : FnScope N_law ["_law_script"] (defScope (topS 10)) := ⟨rfl, rfl, rfl, by decide +kernel, rfl, by decide +kernel, by decide +kernel⟩
def d_law_0 : SDen := sAsg 3 (eCall pr__law_signs co__law_signs aN)
def d_law_1 : EDen := dP2 pIx (eV 3) (eCall pr__law_draw co__law_draw (aS (eV 1) (aS (dPA pLen (aS (eV 3) (aN))) (aN))))
def d_law_2 : SDen := sSetI 4 (eCall pr__law_draw co__law_draw (aS (eV 1) (aS (dPA pLen (aS (eV 4) (aN))) (aN)))) (dP2 pIx (eCall pr__law_signs co__law_signs aN) (eCall pr__law_draw co__law_draw (aS (eV 1) (aS (dPA pLen (aS (eCall pr__law_signs co__law_signs aN) (aN))) (aN)))))
def d_law_3 : SDen := sAsg 6 (dP2 pIx (eLst (aS (dP2 pAdd (eV 6) (eC (.str (Str.ofString "\n")))) (aS (dP2 pAdd (eV 6) (eC (.str (Str.ofString " ")))) (aS (dP2 pAdd (eC (.str (Str.ofString " "))) (eV 6)) (aS (dP2 pAdd (eC (.str (Str.ofString "\n"))) (eV 6)) (aN)))))) (eCall pr__law_draw co__law_draw (aS (eV 1) (aS (eC (.int 4)) (aN)))))
def d_law_4 : SDen := sRet (eC (.bl false))
def d_law_5 : SDen := sAsg 1 (eStart 0)
def d_law_6 : SDen := sAsg 2 (eCall pr__law_draw co__law_draw (aS (eV 1) (aS (eC (.int 3)) (aN))))
def d_law_7 : SDen := sAsg 3 (eC (.str (Str.ofString "abcdefghijklmnopqrstuvwxyz0123456789")))
def d_law_8 : SDen := sIf (tV (dP2 pEq (eV 2) (eC (.int 0)))) (d_law_0) (sNil)
def d_law_9 : SDen := sAsgF 4 (fLc (iR1 (aS (eCall pr__law_draw co__law_draw (aS (eV 1) (aS (dP2 pIx (eLst (aS (eC (.int 9)) (aS (eC (.int 9)) (aS (eC (.int 9)) (aS (eC (.int 80)) (aN)))))) (eCall pr__law_draw co__law_draw (aS (eV 1) (aS (eC (.int 4)) (aN))))) (aN)))) (aN))) (gN 5) (tYes') (d_law_1) [5])
def d_law_10 : SDen := sIf (tAnd' (tV (dP2 pEq (eV 2) (eC (.int 2)))) (tV (dP2 pNe (eV 4) (eLst (aN))))) (d_law_2) (sNil)
def d_law_11 : SDen := sAsg 6 (dM "str" pJoin (eC (.str (Str.ofString ""))) (aS (eV 4) (aN)))
def d_law_12 : SDen := sIf (tV (dP2 pEq (eCall pr__law_draw co__law_draw (aS (eV 1) (aS (eC (.int 6)) (aN)))) (eC (.int 0)))) (d_law_3) (sNil)
def d_law_13 : SDen := sAsg 7 (eCall pr_valid_name co_valid_name (aS (eV 6) (aN)))
def d_law_14 : SDen := sIf (tOr' (tNot' (tV (dPA pIsi (aS (eV 7) (aS (eC (.ty "bool")) (aN)))))) (tV (dP2 pNe (eV 7) (eCall pr__law_good co__law_good (aS (eV 6) (aN)))))) (d_law_4) (sNil)
def d_law_15 : SDen := sRet (dP2 pEq (eCallK pr_valid_name co_valid_name [0] 0 1 (aN) (aS (dP1 pRev (eV 6)) (aN))) (eCall pr__law_good co__law_good (aS (dP1 pRev (eV 6)) (aN))))
def den_law : SDen := sSeq d_law_5 (sSeq d_law_6 (sSeq d_law_7 (sSeq d_law_8 (sSeq d_law_9 (sSeq d_law_10 (sSeq d_law_11 (sSeq d_law_12 (sSeq d_law_13 (sSeq d_law_14 (d_law_15))))))))))
def co_law : Nat := den_law.cost
theorem der_law {P : Program} {w : World} {K : PySem.W.Frag} {mg : Str → Option Value} {base : Heap} {a : Nat → Addr} {d : Nat → FuncData} (M : Md K mg a d) (G__law_start : FnOk P w K mg base (L2.CX P w) 1 (a 6) (d 6) ["_law_script"] (spO K pr__law_start co__law_start)) (G__law_draw : FnOk P w K mg base (L2.CX P w) 1 (a 7) (d 7) ["_law_state", "_law_size"] (spO K pr__law_draw co__law_draw)) (G__law_signs : FnOk P w K mg base (L2.CX P w) 1 (a 8) (d 8) [] (spO K pr__law_signs co__law_signs)) (G_valid_name : FnOk P w K mg base (L2.CX P w) 1 (a 4) (d 4) ["text"] (spO K pr_valid_name co_valid_name)) (G__law_good : FnOk P w K mg base (L2.CX P w) 1 (a 9) (d 9) ["_law_word"] (spO K pr__law_good co__law_good)) (cdv : Value) (A : Around) (outer : List Env) (s : Shared) (H : Hp) (E : XK)
    (hr : Room 1 (A.deeper (PyProof.Rows.envOfC "law" (defScope (topS 10)) s.heap.objs.size (a 10) cdv))) : OSs (cxOf (L2.CX P w) P w K mg base N_law "law" (defScope (topS 10)) (a 10) cdv A outer s H E) (wEx E) (defBody (topS 10)) den_law := by
  have tk : Takes (cxOf (L2.CX P w) P w K mg base N_law "law" (defScope (topS 10)) (a 10) cdv A outer s H E) (wEx E) := takes_of rfl rfl rfl rfl
  have po : PassesOwn (model P w) (cxOf (L2.CX P w) P w K mg base N_law "law" (defScope (topS 10)) (a 10) cdv A outer s H E).A (cxOf (L2.CX P w) P w K mg base N_law "law" (defScope (topS 10)) (a 10) cdv A outer s H E).env (cxOf (L2.CX P w) P w K mg base N_law "law" (defScope (topS 10)) (a 10) cdv A outer s H E).xe := passes_of rfl
  exact os_cons (os_set (i := 1) sc_law.nd rfl (.inr rfl) (oe_start (F := G__law_start) (hr.mono (by decide)) tk (by rfl) M.g__law_start M.F__law_start.kp M.b__law_start (pv 0)))
    (os_cons (os_set (i := 2) sc_law.nd rfl (.inl rfl) (oe_call (F := G__law_draw) (hr.mono (by decide)) tk (by rfl) M.g__law_draw M.F__law_draw.kp M.b__law_draw (oa_cons (oe_v (pv 1)) (oa_cons (oe_c pe_int (fun _ => rep_int)) (oa_nil)))))
    (os_cons (os_set (i := 3) sc_law.nd rfl (.inr rfl) (oe_c pe_str (fun _ => rep_str)))
    (os_cons (os_if (ot_eq hr (oe_v (pv 2)) (oe_c pe_int (fun _ => rep_int))) (os_one (os_set (i := 3) sc_law.nd rfl (.inr rfl) (oe_call0 (F := G__law_signs) (hr.mono (by decide)) tk (by rfl) M.g__law_signs M.F__law_signs.kp M.b__law_signs))) (os_nil))
    (os_cons (os_setLc (i := 4) (by rfl) sc_law.nd rfl rfl (sw_true rfl rfl rfl (by decide +kernel)) (own := [("_law_k", 5)]) (ts := [5]) (tgt := gN 5) (oic_range1 (by rfl) M.n_range (oa_cons (oe_call (F := G__law_draw) (hr.mono (by decide)) tk (by rfl) M.g__law_draw M.F__law_draw.kp M.b__law_draw (oa_cons (oe_v (pv 1)) (oa_cons (oe_sub_ix (oe_lst (oa_cons (oe_c pe_int (fun _ => rep_int)) (oa_cons (oe_c pe_int (fun _ => rep_int)) (oa_cons (oe_c pe_int (fun _ => rep_int)) (oa_cons (oe_c pe_int (fun _ => rep_int)) (oa_nil)))))) (oe_call (F := G__law_draw) (hr.mono (by decide)) tk (by rfl) M.g__law_draw M.F__law_draw.kp M.b__law_draw (oa_cons (oe_v (pv 1)) (oa_cons (oe_c pe_int (fun _ => rep_int)) (oa_nil))))) (oa_nil)))) (oa_nil))) (by refine blkOk_by (own := [("_law_k", 5)]) (N := N_law) (sc := (defScope (topS 10))) ?_; decide +kernel) (by decide) (fun _ _ _ _ _ => og_name (i := 5) sc_law.nd rfl (by first | exact .inl rfl | exact .inr rfl)) (fun _ _ _ _ _ => ots_nil) (fun _ _ _ _ _ => oe_sub_ix (oe_v (pv 3)) (oe_call (F := G__law_draw) (hr.mono (by decide)) tk0 (by rfl) M.g__law_draw M.F__law_draw.kp M.b__law_draw (oa_cons (oe_v (pv 1)) (oa_cons (oe_len (by rfl) M.n_len (oa_cons (oe_v (pv 3)) (oa_nil))) (oa_nil))))))
    (os_cons (os_if (ot_w (ow_and (ot_eq hr (oe_v (pv 2)) (oe_c pe_int (fun _ => rep_int))) (ow_and1 (ot_ne hr (oe_v (pv 4)) (oe_lst (oa_nil)))))) (os_one (os_setI (ps_asg (oe_sub_ix (oe_call0 (F := G__law_signs) (hr.mono (by decide)) tk (by rfl) M.g__law_signs M.F__law_signs.kp M.b__law_signs) (oe_call (F := G__law_draw) (hr.mono (by decide)) tk (by rfl) M.g__law_draw M.F__law_draw.kp M.b__law_draw (oa_cons (oe_v (pv 1)) (oa_cons (oe_len (by rfl) M.n_len (oa_cons (oe_call0 (F := G__law_signs) (hr.mono (by decide)) tk (by rfl) M.g__law_signs M.F__law_signs.kp M.b__law_signs) (oa_nil))) (oa_nil))))) (pg_sub (pv 4) (oe_call (F := G__law_draw) (hr.mono (by decide)) tk (by rfl) M.g__law_draw M.F__law_draw.kp M.b__law_draw (oa_cons (oe_v (pv 1)) (oa_cons (oe_len (by rfl) M.n_len (oa_cons (oe_v (pv 4)) (oa_nil))) (oa_nil)))) set_list)))) (os_nil))
    (os_cons (os_set (i := 6) sc_law.nd rfl (.inl rfl) (oe_m (.inl rfl) snd_join (pe_bm PySem.F.plainAttrs_str PySem.F.slot_str_join PySem.F.type_str_join mt_join (oe_c pe_str (fun _ => rep_str)) (oa_cons (oe_v (pv 4)) (oa_nil)))))
    (os_cons (os_if (ot_eq hr (oe_call (F := G__law_draw) (hr.mono (by decide)) tk (by rfl) M.g__law_draw M.F__law_draw.kp M.b__law_draw (oa_cons (oe_v (pv 1)) (oa_cons (oe_c pe_int (fun _ => rep_int)) (oa_nil)))) (oe_c pe_int (fun _ => rep_int))) (os_one (os_set (i := 6) sc_law.nd rfl (.inl rfl) (oe_sub_ix (oe_lst (oa_cons (oe_add (oe_v (pv 6)) (oe_c pe_str (fun _ => rep_str))) (oa_cons (oe_add (oe_v (pv 6)) (oe_c pe_str (fun _ => rep_str))) (oa_cons (oe_add (oe_c pe_str (fun _ => rep_str)) (oe_v (pv 6))) (oa_cons (oe_add (oe_c pe_str (fun _ => rep_str)) (oe_v (pv 6))) (oa_nil)))))) (oe_call (F := G__law_draw) (hr.mono (by decide)) tk (by rfl) M.g__law_draw M.F__law_draw.kp M.b__law_draw (oa_cons (oe_v (pv 1)) (oa_cons (oe_c pe_int (fun _ => rep_int)) (oa_nil))))))) (os_nil))
    (os_cons (os_set (i := 7) sc_law.nd rfl (.inl rfl) (oe_call (F := G_valid_name) (hr.mono (by decide)) tk (by rfl) M.g_valid_name M.F_valid_name.kp M.b_valid_name (oa_cons (oe_v (pv 6)) (oa_nil))))
    (os_cons (os_if (ot_w (ow_or (ot_not (ot_v (oe_isi (by rfl) M.n_isinstance (by decide +kernel) (oa_cons (oe_v (pv 7)) (oa_cons (oe_tyname (n := "bool") (by rfl) M.n_bool (by decide +kernel)) (oa_nil)))))) (ow_or1 (ot_ne hr (oe_v (pv 7)) (oe_call (F := G__law_good) (hr.mono (by decide)) tk (by rfl) M.g__law_good M.F__law_good.kp M.b__law_good (oa_cons (oe_v (pv 6)) (oa_nil))))))) (os_one (os_ret (oe_c pe_bl (fun _ => rep_bl)))) (os_nil))
    (os_one (os_ret (oe_eq hr (oe_callK0 (F := G_valid_name) (hr.mono (by decide)) tk (by rfl) M.g_valid_name M.F_valid_name.kp M.k_valid_name_0_text (ok_cons (oe_rev (oe_v (pv 6))) (ok_nil))) (oe_call (F := G__law_good) (hr.mono (by decide)) tk (by rfl) M.g__law_good M.F__law_good.kp M.b__law_good (oa_cons (oe_rev (oe_v (pv 6))) (oa_nil)))))))))))))))
theorem fn_law {P : Program} {w : World} {K : PySem.W.Frag} {mg : Str → Option Value} {base : Heap} {a : Nat → Addr} {d : Nat → FuncData} (M : Md K mg a d) (G__law_start : FnOk P w K mg base (L2.CX P w) 1 (a 6) (d 6) ["_law_script"] (spO K pr__law_start co__law_start)) (G__law_draw : FnOk P w K mg base (L2.CX P w) 1 (a 7) (d 7) ["_law_state", "_law_size"] (spO K pr__law_draw co__law_draw)) (G__law_signs : FnOk P w K mg base (L2.CX P w) 1 (a 8) (d 8) [] (spO K pr__law_signs co__law_signs)) (G_valid_name : FnOk P w K mg base (L2.CX P w) 1 (a 4) (d 4) ["text"] (spO K pr_valid_name co_valid_name)) (G__law_good : FnOk P w K mg base (L2.CX P w) 1 (a 9) (d 9) ["_law_word"] (spO K pr__law_good co__law_good))
    (hP : ∀ args Q E, pr_law args Q E → args.length = 1 ∧ den_law.wp (start0 8 args) (ends0 Q E)) : FnOk P w K mg base (L2.CX P w) 2 (a 10) (d 10) ["_law_script"] (spO K pr_law co_law) :=
  fnO M.F_law sc_law den_law (Nat.le_refl _) (der_law M G__law_start G__law_draw G__law_signs G_valid_name G__law_good) hP

end OW
namespace OW
open PySem PySem.Spec L2
theorem ex_some {α : Type} {a : α} {p : α → Prop} : (∃ x, some a = some x ∧ p x) = p a := by
  simp only [Option.some.injEq, exists_eq_left']
theorem ex_pair {α β : Type} {a : α} {b : β} {p : α → β → Prop} : (∃ x y, some (a, b) = some (x, y) ∧ p x y) = p a b := by
  simp only [Option.some.injEq, Prod.mk.injEq, and_assoc]
  apply propext
  constructor
  · rintro ⟨x, y, rfl, rfl, h⟩; exact h
  · intro h; exact ⟨a, b, rfl, rfl, h⟩
theorem ite_bt {p q : Prop} : (if true = true then p else q) = p := if_pos rfl
theorem ite_bf {p q : Prop} : (if false = true then p else q) = q := if_neg (by decide)

section
variable {i : Nat} {x y : D} {t : T} {R : RR} {ds : List D} {kvs : List (Key × D)} {ns : List Int} {rt : RV → RR → Prop} {nx : RR → Prop} {o : Option Sl} {d : D}
theorem q_v1 : vVal i (.fz x) = some (.d x) := rfl
theorem q_v2 : vVal i (.ow t) = some (.r i) := rfl
theorem q_v3 : vVal i (.bw t) = some (.r i) := rfl
theorem q_v4 : vVal i .st = some (.r i) := rfl
theorem q_v5 : vVal i (.sc ns) = some (.r i) := rfl
theorem q_rd1 : rdD R (.d x) = some x := rfl
theorem q_rd2 : rdD R (.r i) = (R[i]?).bind slD := rfl
theorem q_s1 : slD (.fz x) = some x := rfl
theorem q_s2 : slD (.ow t) = some t.toD := rfl
theorem q_s3 : slD (.bw t) = some t.toD := rfl
theorem q_e1 : esc R (.d x) = some (x, R) := rfl
theorem q_e2 : esc R (.r i) = escR R i (R[i]?) := rfl
theorem q_e3 : escR R i (some (.ow t)) = some (t.toD, R.set i (.fz t.toD)) := rfl
theorem q_r1 : retV R rt (.d x) = rt (.d x) R := rfl
theorem q_r2 : retV R rt (.r i) = retR R rt i (R[i]?) := rfl
theorem q_r3 : retR R rt i (some (.ow t)) = rt (.o t) (R.set i .no) := rfl
theorem q_a1 : asgV i R nx (.d x) = nx (R.set i (.fz x)) := rfl
theorem q_a2 {j : Nat} : asgV i R nx (.r j) = asgR i R nx (R[j]?) := rfl
theorem q_a3 : asgV i R nx .st = nx (R.set i .st) := rfl
theorem q_a4 : asgR i R nx (some (.bw t)) = nx (R.set i (.bw t)) := rfl
theorem q_g1 : argV R (.d x) = some (.fz x) := rfl
theorem q_g2 : argV R (.r i) = argR (R[i]?) := rfl
theorem q_g3 : argR (some (.ow t)) = some (.bw t) := rfl
theorem q_g4 : argR (some (.bw t)) = some (.bw t) := rfl
theorem q_g5 : argR (some .st) = some .st := rfl
theorem q_rv1 : rvD (.d x) = some x := rfl
theorem q_rv2 : rvD (.o t) = some t.toD := rfl
theorem q_l1 : Res.val (.s d) = .d d := rfl
theorem q_l2 : Res.val (.l ds) = .d (.lst ds) := rfl
theorem q_l3 : Res.val (.t ds) = .d (.tup ds) := rfl
theorem q_i1 : itV R (.d x) = (itD x).map fun ds => (ds, R) := rfl
theorem q_i2 : itV R (.r i) = itR R i (R[i]?) := rfl
theorem q_i3 : itR R i (some (.ow (.lst ds))) = some (ds, R.set i (.fz (.lst ds))) := rfl
theorem q_i4 : itR R i (some (.bw (.lst ds))) = some (ds, R) := rfl
theorem q_i5 : itC R (.d x) = (itD x).map fun ds => (ds, fun _ => True) := rfl
theorem q_i6 : itC R (.r i) = itCR i (R[i]?) := rfl
theorem q_i7 : itCR i (some (.ow (.lst ds))) = some (ds, fun R' => R'[i]? = some (.ow (.lst ds))) := rfl
theorem q_i8 : itCR i (some (.bw (.lst ds))) = some (ds, fun _ => True) := rfl
theorem q_d1 : itD (.lst ds) = some ds := rfl
theorem q_d2 : itD (.tup ds) = some ds := rfl
theorem q_d3 {z : Str} : itD (.str z) = some (charsOf z) := rfl
theorem q_t1 : T.toD (.lst ds) = .lst ds := rfl
theorem q_t2 : T.toD (.dic kvs) = .dic kvs := rfl
end
theorem loop_nil {gd : GD} {body : SDen} {N : OEnds} {R : RR} (h : N.nx R) : loopW gd body N [] R := by rw [loopW]; exact h
theorem loop_cons {gd : GD} {body : SDen} {N : OEnds} {d : D} {ds : List D} {R : RR} (h : ∃ R1, gd d R = some R1 ∧ ∀ L : RR → Prop, (∀ R', loopW gd body N ds R' → L R') → body.wp R1 { N with nx := L, ct := L, bk := N.nx }) : loopW gd body N (d :: ds) R := by
  rw [loopW]
  obtain ⟨R1, e, q⟩ := h
  exact ⟨R1, e, q _ fun _ z => z⟩
/-- a loop whose turns only look -/
theorem loop_mem {gd : GD} {body : SDen} {N : OEnds} {P : RR → Prop} : ∀ {ds : List D} {R : RR}, P R → (∀ d ∈ ds, ∀ R, P R → ∃ R1, gd d R = some R1 ∧ ∀ N' : OEnds, N'.rt = N.rt → N'.ex = N.ex → N'.bk = N.nx → (∀ R2, P R2 → N'.nx R2) → body.wp R1 N') → (∀ R, P R → N.nx R) → loopW gd body N ds R
  | [], R, p, _, f => loop_nil (f R p)
  | d :: ds, R, p, h, f => by
    obtain ⟨R1, e, q⟩ := h d List.mem_cons_self R p
    exact loop_cons ⟨R1, e, fun L hL => q _ rfl rfl rfl fun R2 p2 => hL _ (loop_mem p2 (fun d hd => h d (List.mem_cons_of_mem _ hd)) f)⟩
/-- a comprehension over data, each item a value of its own -/
theorem comp_map {gd : RR → Prop} {tgt : GD} {tt : TDen} {te : EDen} {own : List Nat} {Q : List D → RR → Prop} {R : RR} {c : D → Bool} {g : D → D} (hg : gd R) :
    ∀ {ds acc : List D}, acc.length + ds.length ≤ LIM → (∀ d ∈ ds, ∃ R1, tgt d R = some R1 ∧ wipeR R1 own = R ∧ ∀ Q1 : Bool → RR → Prop, Q1 (c d) R1 → tt.wp R1 Q1 (fun _ _ => False)) →
    (∀ d ∈ ds, c d = true → ∀ R1, tgt d R = some R1 → ∀ Q1 : Val → RR → Prop, Q1 (.d (g d)) R1 → te.wp R1 Q1 (fun _ _ => False)) → Q (acc ++ (ds.filter c).map g) R → compW gd tgt tt te own Q ds acc R
  | [], acc, _, _, _, q => ⟨hg, by simpa using q⟩
  | d :: ds, acc, hl, h1, h2, q => by
    obtain ⟨R1, e1, e2, t1⟩ := h1 d List.mem_cons_self
    rw [List.length_cons] at hl
    refine ⟨hg, R1, e1, t1 _ ?_⟩
    cases hc : c d with
    | false =>
      rw [ite_bf, e2]
      refine comp_map hg (by omega) (fun x hx => h1 x (List.mem_cons_of_mem _ hx)) (fun x hx => h2 x (List.mem_cons_of_mem _ hx)) ?_
      rw [List.filter_cons_of_neg (by rw [hc]; decide)] at q
      exact q
    | true =>
      rw [ite_bt]
      refine h2 d List.mem_cons_self hc R1 e1 _ ⟨_, _, rfl, by omega, ?_⟩
      rw [e2]
      refine comp_map hg (by rw [List.length_append]; simp; omega) (fun x hx => h1 x (List.mem_cons_of_mem _ hx)) (fun x hx => h2 x (List.mem_cons_of_mem _ hx)) ?_
      rw [List.filter_cons_of_pos hc, List.map_cons] at q
      rw [List.append_assoc]
      exact q
/-- a comprehension whose items have a property -/
theorem comp_all {gd : RR → Prop} {tgt : GD} {te : EDen} {own : List Nat} {Q : List D → RR → Prop} {R : RR} {P : D → Prop} (hg : gd R) :
    ∀ {ds acc : List D}, acc.length + ds.length ≤ LIM → (∀ d ∈ ds, ∃ R1, tgt d R = some R1 ∧ wipeR R1 own = R ∧ ∀ Q1 : Val → RR → Prop, (∀ y, P y → Q1 (.d y) R1) → te.wp R1 Q1 (fun _ _ => False)) → (∀ x ∈ acc, P x) →
    (∀ ys, ys.length = acc.length + ds.length → (∀ x ∈ ys, P x) → Q ys R) → compW gd tgt tYes' te own Q ds acc R
  | [], acc, _, _, ha, q => ⟨hg, q acc (by simp) ha⟩
  | d :: ds, acc, hl, h1, ha, q => by
    obtain ⟨R1, e1, e2, t1⟩ := h1 d List.mem_cons_self
    rw [List.length_cons] at hl
    refine ⟨hg, R1, e1, ?_⟩
    simp only [tYes', if_true]
    refine t1 _ fun y hy => ⟨_, _, rfl, by omega, ?_⟩
    rw [e2]
    refine comp_all hg (by rw [List.length_append]; simp; omega) (fun x hx => h1 x (List.mem_cons_of_mem _ hx)) (fun x hx => ?_) fun ys hy1 hy2 => q ys (by rw [hy1, List.length_append]; simp; omega) hy2
    rcases List.mem_append.mp hx with z | z
    · exact ha x z
    · rw [List.mem_singleton.mp z]; exact hy
end OW
namespace OW
open PySem PySem.Spec L2
local macro_rules | `(tactic| walk_at "ow") => `(tactic| try simp only [sSeq, sIf, sRet, sRetF, sAsg, sAsgF, sFor, sNil, sEx, sApp, sClear, sSetI, ePopAt, eC, eV, eAnd, eOr, eNot, eIf, dP1, dP2, dCh, dPA, dM, fE, fLc, eLst, fLst, eTup, eCall, eCallK, fCall, eStart, aN, aS, tV, tAnd', tOr', tNot', iV, iVC, iR1, iR2, ends0, start0,
  q_v1, q_v2, q_v3, q_v4, q_v5, q_rd1, q_rd2, q_s1, q_s2, q_s3, q_e1, q_e2, q_e3, q_r1, q_r2, q_r3, q_a1, q_a2, q_a3, q_a4, q_g1, q_g2, q_g3, q_g4, q_g5, q_rv1, q_rv2, q_l1, q_l2, q_l3, q_i1, q_i2, q_i3, q_i4, q_i5, q_i6, q_i7, q_i8, q_d1, q_d2, q_d3, q_t1, q_t2, rdDs, escs, argsOf, List.length_cons, List.length_nil, List.replicate, List.cons_append, List.nil_append, List.getElem?_cons_zero, List.getElem?_cons_succ, List.set_cons_zero, List.set_cons_succ, Option.bind_some, Option.map_some, ex_some, ex_pair, exists_eq_left', exists_eq_left, exists_and_left,
  pLt, pLe, pGt, pGe, pI, pSub, pMod, if_true, Option.some.injEq, Val.d.injEq, D.bl.injEq, D.int.injEq, D.str.injEq, Res.s.injEq, Sl.sc.injEq, Sl.fz.injEq, Sl.ow.injEq, T.lst.injEq, D.lst.injEq, ne_eq, reduceCtorEq, not_false_eq_true, true_and, and_true, true_or, ite_bt, ite_bf, Nat.add_zero, Nat.zero_add, Nat.reduceAdd, Nat.reduceSub, Nat.sub_self, Bool.not_true, Bool.not_false, Bool.false_eq_true, if_false, Prod.mk.injEq, and_assoc, wipeR, List.cons.injEq])

def chD (c : Nat) : D := .str ⟨#[c]⟩
theorem charsOf_eq (s : Str) : charsOf s = s.cps.toList.map chD := rfl
theorem nin_ch (c : Nat) (z : Str) : pNin (chD c) (.str z) = some (.s (.bl (!decide (c ∈ z.cps.toList)))) := rfl
theorem ix0 {s : Str} {c : Nat} {cs : List Nat} (h : s.cps.toList = c :: cs) (hl : s.length ≤ LIM) : pIx (.str s) (.int 0) = some (.s (chD c)) := by
  show (if s.length ≤ LIM then (atI s.cps.toList 0).map _ else none) = _
  rw [if_pos hl, h]
  show Option.map _ (atI (c :: cs) ((0 : Nat) : Int)) = _
  rw [atI_nat (v := c) rfl]; rfl
theorem len_codes (s : Str) : s.length = s.cps.toList.length := by show s.cps.size = _; rw [Array.length_toList]
theorem vn_loop {Q : RV → Prop} {E : Ex → Prop} {s : Str} : ∀ (cs : List Nat) (x1 : Sl), Q (.d (.bl (cs.all fun c => isLet c || isDig c))) →
    loopW (gN 1) d_valid_name_2 { nx := fun R' => d_valid_name_5.wp R' (ends0 Q E), rt := fun x _ => Q x, bk := fun _ => False, ct := fun _ => False, ex := fun x _ => E x } (cs.map chD) [.fz (.str s), x1]
  | [], x1, q => by
    refine loop_nil ?_
    unfold d_valid_name_5
    exact q
  | c :: cs, x1, q => by
    refine loop_cons ⟨_, rfl, fun L hL => ?_⟩
    unfold d_valid_name_2 d_valid_name_1
    walk_at "ow"
    simp only [nin_ch]
    walk_at "ow"
    have ih := fun q => hL _ (vn_loop (Q := Q) (E := E) (s := s) cs (.fz (chD c)) q)
    rw [List.all_cons] at q
    by_cases h1 : isLet c = true
    · rw [show decide (c ∈ (Str.ofString "abcdefghijklmnopqrstuvwxyz").cps.toList) = true from h1]
      rw [h1] at q
      exact ih q
    · rw [Bool.not_eq_true] at h1
      rw [show decide (c ∈ (Str.ofString "abcdefghijklmnopqrstuvwxyz").cps.toList) = false from h1]
      rw [h1] at q
      by_cases h2 : isDig c = true
      · rw [show decide (c ∈ (Str.ofString "0123456789").cps.toList) = true from h2]
        rw [h2] at q
        exact ih q
      · rw [Bool.not_eq_true] at h2
        rw [show decide (c ∈ (Str.ofString "0123456789").cps.toList) = false from h2]
        rw [h2] at q
        exact q
theorem P_valid_name : ∀ args Q E, pr_valid_name args Q E → args.length = 1 ∧ den_valid_name.wp (start0 2 args) (ends0 Q E) := by
  rintro args Q E ⟨s, rfl, hs, q⟩
  refine ⟨rfl, ?_⟩
  have hl : s.length ≤ LIM := by have := hs.1; unfold LIM; omega
  unfold den_valid_name d_valid_name_3
  walk_at "ow"
  simp only [pLen, if_pos hl]
  walk_at "ow"
  unfold nameOk at q
  have hlen := len_codes s
  cases hc : s.cps.toList with
  | nil =>
    rw [hc] at q hlen
    rw [hlen]
    unfold d_valid_name_0
    exact q
  | cons c cs =>
    rw [hc] at q hlen
    dsimp only at q
    rw [ix0 hc hl]
    walk_at "ow"
    rw [nin_ch]
    walk_at "ow"
    rw [List.length_cons] at hlen
    rw [hlen, show decide ((1 : Int) ≤ ((cs.length + 1 : Nat) : Int)) = true from decide_eq_true (by omega), ite_bt]
    by_cases h6 : cs.length < 6
    · rw [show (!decide (((cs.length + 1 : Nat) : Int) ≤ 6)) = false by rw [decide_eq_true (by omega)]; rfl, ite_bf]
      rw [decide_eq_true h6] at q
      by_cases h1 : isLet c = true
      · rw [show decide (c ∈ (Str.ofString "abcdefghijklmnopqrstuvwxyz").cps.toList) = true from h1]
        rw [h1] at q
        unfold d_valid_name_4
        walk_at "ow"
        rw [charsOf_eq, hc]
        exact ⟨.inl rfl, vn_loop (c :: cs) .no q⟩
      · rw [Bool.not_eq_true] at h1
        rw [show decide (c ∈ (Str.ofString "abcdefghijklmnopqrstuvwxyz").cps.toList) = false from h1]
        rw [h1] at q
        unfold d_valid_name_0
        exact q
    · rw [show (!decide (((cs.length + 1 : Nat) : Int) ≤ 6)) = true by rw [decide_eq_false (by omega)]; rfl, ite_bt]
      rw [decide_eq_false h6] at q
      unfold d_valid_name_0
      exact q
theorem add_str {s t : Str} (h : s.length + t.length ≤ LIM) : pAdd (.str s) (.str t) = some (.s (.str (s ++ t))) := if_pos h
theorem P__law_signs : ∀ args Q E, pr__law_signs args Q E → args.length = 0 ∧ den__law_signs.wp (start0 1 args) (ends0 Q E) := by
  rintro args Q E ⟨rfl, q⟩
  refine ⟨rfl, ?_⟩
  unfold den__law_signs d__law_signs_0 d__law_signs_1
  walk_at "ow"
  rw [add_str (by decide +kernel)]
  walk_at "ow"
  exact q
/-! ### == with the empty list -/
theorem toPys_ch : ∀ cs : List Nat, toPys (cs.map chD) = some (cs.map fun c => PyData.str ⟨#[c]⟩)
  | [] => by simp only [List.map_nil, toPys]
  | c :: cs => by
    simp only [List.map_cons, toPys, toPys_ch cs, chD, toPy, Option.bind_some]
theorem shaped_ch (cs : List Nat) (h : ∀ c ∈ cs, c < 1114112) : SeqAt.shaped (.list (cs.map fun c => PyData.str ⟨#[c]⟩)) = true := by
  have h1 : ∀ cs : List Nat, (∀ c ∈ cs, c < 1114112) → PyData.canLayAll0 (cs.map fun c => PyData.str ⟨#[c]⟩) = true := fun cs => by
    induction cs with
    | nil => intro _; rfl
    | cons x xs ih =>
      intro h
      show (PyData.canLay0 (.str ⟨#[x]⟩) && PyData.canLayAll0 _) = true
      rw [ih fun c hc => h c (List.mem_cons_of_mem _ hc), Bool.and_true]
      show (#[x] : Array Nat).all (· < 0x110000) = true
      have := h x List.mem_cons_self
      simp [this]
  have h2 : ∀ cs : List Nat, PyData.depthAll (cs.map fun c => PyData.str ⟨#[c]⟩) = 0 := fun cs => by
    induction cs with
    | nil => rfl
    | cons x xs ih => show max (PyData.depth (.str ⟨#[x]⟩)) (PyData.depthAll _) = 0; rw [ih]; rfl
  unfold SeqAt.shaped
  rw [Bool.and_eq_true]
  refine ⟨h1 cs h, decide_eq_true ?_⟩
  show PyData.depthAll (cs.map fun c => PyData.str ⟨#[c]⟩) + 1 ≤ 64
  rw [h2]; decide
theorem eq_nil {cs : List Nat} (h : ∀ c ∈ cs, c < 1114112) : eqD (.lst (cs.map chD)) (.lst []) = some cs.isEmpty := by
  show ((toPy (.lst (cs.map chD))).bind fun p => (toPy (.lst [])).bind fun q => if (SeqAt.shaped p && SeqAt.shaped q) = true then some (PyData.eqv p q) else none) = _
  have e1 : toPy (.lst (cs.map chD)) = some (.list (cs.map fun c => PyData.str ⟨#[c]⟩)) := by simp only [toPy, toPys_ch, Option.map_some]
  have e2 : toPy (.lst []) = some (.list []) := by simp only [toPy, toPys, Option.map_some]
  rw [e1, e2, Option.bind_some, Option.bind_some, shaped_ch cs h, if_pos (by decide +kernel)]
  cases cs <;> rfl
def badD : D → Bool
  | .str z => z.cps.toList.all fun c => !(isLet c || isDig c)
  | _ => false
theorem badD_ch (c : Nat) : badD (chD c) = !(isLet c || isDig c) := by simp [badD, chD]
theorem bad_filter (l : List Nat) : (l.map chD).filter badD = (l.filter fun c => !(isLet c || isDig c)).map chD := by
  induction l with
  | nil => rfl
  | cons x l ih =>
    rw [List.map_cons, List.filter_cons, List.filter_cons, ih, badD_ch]
    split <;> rfl
theorem filter_all {α : Type} (p : α → Bool) (l : List α) : (l.filter fun c => !p c).isEmpty = l.all p := by
  induction l with
  | nil => rfl
  | cons x l ih =>
    rw [List.filter_cons, List.all_cons, ← ih]
    cases p x <;> rfl
theorem P__law_good : ∀ args Q E, pr__law_good args Q E → args.length = 1 ∧ den__law_good.wp (start0 3 args) (ends0 Q E) := by
  rintro args Q E ⟨s, rfl, hs, q⟩
  refine ⟨rfl, ?_⟩
  have hl : s.length ≤ LIM := by have := hs.1; unfold LIM; omega
  unfold den__law_good d__law_good_3 d__law_good_4
  walk_at "ow"
  simp only [pLen, if_pos hl]
  walk_at "ow"
  unfold nameOk at q
  have hlen := len_codes s
  cases hc : s.cps.toList with
  | nil =>
    rw [hc] at q hlen
    rw [hlen]
    unfold d__law_good_0
    exact q
  | cons c cs =>
    rw [hc] at q hlen
    dsimp only at q
    rw [ix0 hc hl]
    walk_at "ow"
    rw [nin_ch]
    walk_at "ow"
    rw [List.length_cons] at hlen
    rw [hlen, show decide (((cs.length + 1 : Nat) : Int) < 1) = false from decide_eq_false (by omega), ite_bf]
    by_cases h6 : cs.length < 6
    · rw [show decide ((6 : Int) < ((cs.length + 1 : Nat) : Int)) = false from decide_eq_false (by omega), ite_bf]
      rw [decide_eq_true h6] at q
      by_cases h1 : isLet c = true
      · rw [show decide (c ∈ (Str.ofString "abcdefghijklmnopqrstuvwxyz").cps.toList) = true from h1]
        rw [h1] at q
        unfold d__law_good_5
        walk_at "ow"
        have hlim : (charsOf s).length ≤ LIM := by rw [charsOf_eq, List.length_map, ← len_codes]; exact hl
        have hcs : charsOf s = (c :: cs).map chD := by rw [charsOf_eq, hc]
        rw [hcs] at hlim ⊢
        have hk : ∀ x : Nat, decide (x ∈ (Str.ofString "abcdefghijklmnopqrstuvwxyz" ++ Str.ofString "0123456789").cps.toList) = (isLet x || isDig x) := fun x => by
          unfold isLet isDig
          rw [← Bool.decide_or]
          refine decide_eq_decide.mpr ?_
          show x ∈ (Str.append _ _).cps.toList ↔ _
          unfold Str.append
          rw [Array.toList_append, List.mem_append]
        refine ⟨.inl rfl, comp_map (c := badD) (g := id) trivial (by simpa using hlim) (fun d hd => ⟨_, rfl, rfl, fun Q1 q1 => ?_⟩) (fun d hd _ R1 e1 Q1 q1 => ?_) ?_⟩
        · obtain ⟨c', _, rfl⟩ := List.mem_map.mp hd
          unfold d__law_good_1
          walk_at "ow"
          rw [add_str (by decide +kernel)]
          walk_at "ow"
          rw [nin_ch, hk]
          walk_at "ow"
          rw [badD_ch] at q1
          exact q1
        · cases e1
          unfold d__law_good_2
          walk_at "ow"
          exact q1
        · rw [List.nil_append, List.map_id, bad_filter]
          unfold pEq
          rw [eq_nil (fun x hx => hs.2 x (by rw [hc]; exact (List.mem_filter.mp hx).1))]
          walk_at "ow"
          refine ⟨Nat.zero_le _, ?_⟩
          rw [filter_all (fun c => isLet c || isDig c)]
          exact q
      · rw [Bool.not_eq_true] at h1
        rw [show decide (c ∈ (Str.ofString "abcdefghijklmnopqrstuvwxyz").cps.toList) = false from h1]
        rw [h1] at q
        unfold d__law_good_0
        exact q
    · rw [show decide ((6 : Int) < ((cs.length + 1 : Nat) : Int)) = true from decide_eq_true (by omega), ite_bt]
      rw [decide_eq_false h6] at q
      unfold d__law_good_0
      exact q
/-! ### the law -/
theorem eq_int (i j : Int) : pEq (.int i) (.int j) = some (.s (.bl (decide (i = j)))) := by
  have e : decide (V.int i = V.int j) = decide (i = j) := by simp
  show Option.map _ (some (decide (V.int i = V.int j))) = _
  rw [Option.map_some, e]
theorem signs_eq {Q : RV → Prop} {E : Ex → Prop} : pr__law_signs [] Q E = Q (.d (.str signs)) := by
  unfold pr__law_signs; simp only [true_and]
theorem draw_eq {n : Int} {Q : RV → Prop} {E : Ex → Prop} : pr__law_draw [.st, .fz (.int n)] Q E = (0 < n ∧ n < 1073741824 ∧ ∀ k : Int, 0 ≤ k → k < n → Q (.d (.int k))) := by
  apply propext
  constructor
  · rintro ⟨m, e, h⟩
    cases e
    exact h
  · intro h; exact ⟨n, rfl, h⟩
/-- an alphabet -/
def alpha (z : Str) : Prop := 0 < z.length ∧ z.length ≤ 200 ∧ ∀ c ∈ z.cps.toList, c < 128
theorem alpha36 : alpha (Str.ofString "abcdefghijklmnopqrstuvwxyz0123456789") := by unfold alpha; decide +kernel
theorem alphaS : alpha signs := by unfold alpha signs; decide +kernel
theorem alpha_ix {z : Str} (h : alpha z) {k : Int} (h0 : 0 ≤ k) (h1 : k < (z.length : Int)) : ∃ c, c < 128 ∧ pIx (.str z) (.int k) = some (.s (chD c)) := by
  have hl : z.length ≤ LIM := by have := h.2.1; unfold LIM; omega
  rw [len_codes] at h1
  have hk : k.toNat < z.cps.toList.length := by omega
  refine ⟨z.cps.toList[k.toNat], h.2.2 _ (List.getElem_mem hk), ?_⟩
  show (if z.length ≤ LIM then (atI z.cps.toList k).map _ else none) = _
  have e : atI z.cps.toList k = some z.cps.toList[k.toNat] := by
    have := atI_nat (v := z.cps.toList[k.toNat]) (List.getElem?_eq_getElem hk)
    rw [Int.toNat_of_nonneg h0] at this
    exact this
  rw [if_pos hl, e]
  rfl
def chOk (d : D) : Prop := ∃ c, c < 128 ∧ d = chD c
theorem chs_of : ∀ {ys : List D}, (∀ d ∈ ys, chOk d) → ∃ l : List Nat, ys = l.map chD ∧ ∀ c ∈ l, c < 128
  | [], _ => ⟨[], rfl, by simp⟩
  | y :: ys, h => by
    obtain ⟨l, e, hl⟩ := chs_of fun d hd => h d (List.mem_cons_of_mem _ hd)
    obtain ⟨c, hc, ey⟩ := h y List.mem_cons_self
    refine ⟨c :: l, by rw [e, ey]; rfl, fun x hx => ?_⟩
    rcases List.mem_cons.mp hx with z | z
    · rw [z]; exact hc
    · exact hl x z
theorem strsOf_ch : ∀ l : List Nat, strsOf (l.map chD) = some (l.map fun c => (⟨#[c]⟩ : Str))
  | [] => rfl
  | c :: l => by
    show (strsOf (l.map chD)).map _ = _
    rw [strsOf_ch l]; rfl
theorem glue_codes (l : List Nat) : ∀ acc : Array Nat, ((l.map fun c => (⟨#[c]⟩ : Str)).foldl (fun acc p => acc ++ (Str.ofString "").cps ++ p.cps) acc).toList = acc.toList ++ l := by
  induction l with
  | nil => intro acc; simp
  | cons c l ih =>
    intro acc
    rw [List.map_cons, List.foldl_cons, ih]
    have : (Str.ofString "").cps = #[] := by decide +kernel
    rw [this]
    simp
theorem join_codes (l : List Nat) : (Txt.join (Str.ofString "") (l.map fun c => (⟨#[c]⟩ : Str))).cps.toList = l := by
  cases l with
  | nil => decide +kernel
  | cons c l =>
    show (((l.map fun c => (⟨#[c]⟩ : Str))).foldl _ #[c]).toList = _
    rw [glue_codes]; rfl
theorem sum_ones : ∀ l : List Nat, ((l.map fun c => (⟨#[c]⟩ : Str)).map (·.length)).sum = l.length
  | [] => rfl
  | c :: l => by
    rw [List.map_cons, List.map_cons, List.sum_cons, sum_ones l, List.length_cons]
    show 1 + l.length = _
    omega
theorem join_eq {l : List Nat} (h : l.length ≤ 100) : pJoin (.str (Str.ofString "")) [.lst (l.map chD)] = some (.s (.str (Txt.join (Str.ofString "") (l.map fun c => (⟨#[c]⟩ : Str))))) := by
  show (strsOf (l.map chD)).bind _ = _
  rw [strsOf_ch, Option.bind_some, if_pos]
  rw [sum_ones, List.length_map]
  have : (Str.ofString "").length = 0 := by decide +kernel
  rw [this]
  unfold LIM
  omega
theorem vn_eq {s : Str} {Q : RV → Prop} {E : Ex → Prop} (h : small s) : pr_valid_name [.fz (.str s)] Q E = Q (.d (.bl (nameOk s))) := by
  apply propext
  constructor
  · rintro ⟨z, e, _, q⟩; cases e; exact q
  · intro q; exact ⟨s, rfl, h, q⟩
theorem gd_eq {s : Str} {Q : RV → Prop} {E : Ex → Prop} (h : small s) : pr__law_good [.fz (.str s)] Q E = Q (.d (.bl (nameOk s))) := by
  apply propext
  constructor
  · rintro ⟨z, e, _, q⟩; cases e; exact q
  · intro q; exact ⟨s, rfl, h, q⟩
theorem eq_bl (a b : Bool) : eqD (.bl a) (.bl b) = some (decide (a = b)) := by
  have e : decide (V.bl a = V.bl b) = decide (a = b) := by simp
  show some (decide (V.bl a = V.bl b)) = _
  rw [e]
theorem rev_small {s : Str} (h : small s) : small (revStr s) := by
  have hle : (revStr s).cps.toList.length ≤ s.length := by
    unfold revStr
    show (List.filterMap _ _).length ≤ _
    refine Nat.le_trans (List.length_filterMap_le _ _) ?_
    unfold Builtin.Str.strSliceIndices sliceRange
    simp only [List.length_map, List.length_range]
    split
    · omega
    · split
      · rw [show (-(-1) : Int) = 1 from rfl, Int.ediv_one]; omega
      · omega
  refine ⟨by rw [len_codes]; exact Nat.le_trans hle h.1, fun c hc => ?_⟩
  unfold revStr at hc
  obtain ⟨i, _, hi⟩ := List.mem_filterMap.mp hc
  refine h.2 c ?_
  rw [← Array.getElem?_toList] at hi
  exact List.mem_of_getElem? hi
theorem len_str {z : Str} (h : z.length ≤ LIM) : pLen [.str z] = some (.s (.int z.length)) := if_pos h
theorem P_law : ∀ args Q E, pr_law args Q E → args.length = 1 ∧ den_law.wp (start0 8 args) (ends0 Q E) := by
  rintro args Q E ⟨ns, rfl, hn, q⟩
  refine ⟨rfl, ?_⟩
  unfold den_law d_law_5 d_law_6 d_law_7
  walk_at "ow"
  simp only [hn, List.all_cons, List.all_nil, isNo, Bool.and_true, true_and, draw_eq]
  walk_at "ow"
  refine ⟨by decide, by decide, fun plan hp0 hp1 => ?_⟩
  -- the alphabet
  have rest : ∀ z : Str, alpha z → (sSeq d_law_9 (sSeq d_law_10 (sSeq d_law_11 (sSeq d_law_12 (sSeq d_law_13 (sSeq d_law_14 d_law_15)))))).wp [.no, .st, .fz (.int plan), .fz (.str z), .no, .no, .no, .no] (ends0 Q E) := ?_
  · unfold d_law_8 d_law_0
    walk_at "ow"
    simp only [eq_int, signs_eq]
    walk_at "ow"
    by_cases h : plan = 0
    · rw [decide_eq_true h, ite_bt]
      exact rest _ alphaS
    · rw [decide_eq_false h, ite_bf]
      exact rest _ alpha36
  · intro z hz
    have hzl : z.length ≤ LIM := by have := hz.2.1; unfold LIM; omega
    have hz0 : (0 : Int) < (z.length : Int) := by have := hz.1; omega
    have hz1 : (z.length : Int) < 1073741824 := by have := hz.2.1; omega
    have pl : pLen [.str z] = some (.s (.int z.length)) := if_pos hzl
    -- the characters
    have rest : ∀ l : List Nat, l.length ≤ 80 → (∀ c ∈ l, c < 128) → (sSeq d_law_10 (sSeq d_law_11 (sSeq d_law_12 (sSeq d_law_13 (sSeq d_law_14 d_law_15))))).wp [.no, .st, .fz (.int plan), .fz (.str z), .ow (.lst (l.map chD)), .no, .no, .no] (ends0 Q E) := ?_
    · unfold d_law_9
      walk_at "ow"
      simp only [draw_eq]
      walk_at "ow"
      refine ⟨by decide, by decide, by decide, fun k hk0 hk1 => ?_⟩
      have hix : ∃ m : Int, 0 < m ∧ m ≤ 80 ∧ pIx (.lst [.int 9, .int 9, .int 9, .int 80]) (.int k) = some (.s (.int m)) := by
        rcases (by omega : k = 0 ∨ k = 1 ∨ k = 2 ∨ k = 3) with h | h | h | h <;> subst h
        · exact ⟨9, by decide, by decide, rfl⟩
        · exact ⟨9, by decide, by decide, rfl⟩
        · exact ⟨9, by decide, by decide, rfl⟩
        · exact ⟨80, by decide, by decide, rfl⟩
      obtain ⟨m, hm0, hm1, hix⟩ := hix
      rw [hix]
      walk_at "ow"
      simp only [draw_eq]
      walk_at "ow"
      refine ⟨hm0, by omega, fun j hj0 hj1 => ?_⟩
      refine ⟨by omega, by omega, ?_⟩
      have hrl : (rangeD 0 j.toNat).length = j.toNat := by unfold rangeD; rw [List.length_map, List.length_range]
      refine ⟨.inr (by rw [hrl]; unfold LIM; omega), comp_all (P := chOk) trivial (by rw [hrl]; unfold LIM; show 0 + j.toNat ≤ _; omega) (fun d hd => ⟨_, rfl, rfl, fun Q1 q1 => ?_⟩) (by simp) fun ys hy1 hy2 => ?_⟩
      · unfold d_law_1
        walk_at "ow"
        rw [pl]
        walk_at "ow"
        simp only [draw_eq]
        refine ⟨hz0, hz1, fun i hi0 hi1 => ?_⟩
        obtain ⟨c, hc, he⟩ := alpha_ix hz hi0 hi1
        walk_at "ow"
        rw [he]
        walk_at "ow"
        exact q1 _ ⟨c, hc, rfl⟩
      · walk_at "ow"
        rw [hrl] at hy1
        obtain ⟨l, rfl, hl⟩ := chs_of hy2
        rw [List.length_map] at hy1
        exact rest l (by rw [hy1]; show 0 + j.toNat ≤ 80; omega) hl
    · intro l hcl hco
      have nel : ∀ l : List Nat, (∀ c ∈ l, c < 128) → pNe (.lst (l.map chD)) (.lst []) = some (.s (.bl (!l.isEmpty))) := fun l hl => by
        unfold pNe
        rw [eq_nil (fun c hc => Nat.lt_trans (hl c hc) (by decide))]; rfl
      -- the word
      have rest : ∀ l : List Nat, l.length ≤ 80 → (∀ c ∈ l, c < 128) → (sSeq d_law_11 (sSeq d_law_12 (sSeq d_law_13 (sSeq d_law_14 d_law_15)))).wp [.no, .st, .fz (.int plan), .fz (.str z), .ow (.lst (l.map chD)), .no, .no, .no] (ends0 Q E) := ?_
      · unfold d_law_10 d_law_2
        walk_at "ow"
        simp only [eq_int, nel l hco]
        walk_at "ow"
        by_cases h : plan = 2
        · rw [decide_eq_true h, ite_bt]
          refine ⟨Nat.zero_le _, ?_⟩
          cases l with
          | nil => exact rest [] hcl hco
          | cons c0 l0 =>
            rw [show (!(c0 :: l0).isEmpty) = true from rfl, ite_bt]
            try simp only [signs_eq]
            walk_at "ow"
            try simp only [signs_eq]
            walk_at "ow"
            rw [len_str (z := signs) (by have := alphaS.2.1; unfold LIM; omega)]
            walk_at "ow"
            simp only [draw_eq]
            refine ⟨by have := alphaS.1; omega, by have := alphaS.2.1; omega, fun i hi0 hi1 => ?_⟩
            obtain ⟨c, hc, he⟩ := alpha_ix alphaS hi0 hi1
            walk_at "ow"
            rw [he]
            walk_at "ow"
            rw [show pLen [.lst ((c0 :: l0).map chD)] = some (.s (.int ((c0 :: l0).map chD).length)) from rfl]
            walk_at "ow"
            simp only [draw_eq]
            walk_at "ow"
            rw [List.length_map]
            refine ⟨⟨_, rfl⟩, by rw [List.length_cons]; omega, by omega, fun k hk0 hk1 => ⟨k.toNat, ?_, ?_⟩⟩
            · unfold ixN
              rw [if_pos hk0, if_pos hk1]
            · rw [show chD c = chD c from rfl, ← List.map_set]
              refine rest _ (by rw [List.length_set]; exact hcl) fun x hx => ?_
              rcases List.mem_or_eq_of_mem_set hx with w | w
              · exact hco x w
              · rw [w]; exact hc
        · rw [decide_eq_false h, ite_bf]
          exact rest l hcl hco
      · intro l hcl hco
        unfold d_law_11
        walk_at "ow"
        rw [join_eq (by omega)]
        walk_at "ow"
        have hw := join_codes l
        generalize Txt.join (Str.ofString "") (l.map fun c => (⟨#[c]⟩ : Str)) = word at hw
        have hwl : word.length ≤ 80 := by rw [len_codes, hw]; exact hcl
        have hwc : ∀ c ∈ word.cps.toList, c < 128 := by rw [hw]; exact hco
        refine ⟨rfl, ?_⟩
        -- with a sign more
        have rest : ∀ word : Str, small word → (sSeq d_law_13 (sSeq d_law_14 d_law_15)).wp [.no, .st, .fz (.int plan), .fz (.str z), .ow (.lst (l.map chD)), .no, .fz (.str word), .no] (ends0 Q E) := ?_
        · unfold d_law_12 d_law_3
          walk_at "ow"
          simp only [draw_eq]
          refine ⟨by decide, by decide, fun k hk0 hk1 => ?_⟩
          walk_at "ow"
          rw [eq_int]
          walk_at "ow"
          have sm : ∀ u : Str, u.length ≤ 80 → (∀ c ∈ u.cps.toList, c < 128) → small u := fun u h1 h2 => ⟨by omega, fun c hc => Nat.lt_trans (h2 c hc) (by decide)⟩
          have sma : ∀ u v : Str, u.length ≤ 80 → (∀ c ∈ u.cps.toList, c < 128) → v.length ≤ 80 → (∀ c ∈ v.cps.toList, c < 128) → small (u ++ v) := fun u v h1 h2 h3 h4 => by
            have e : (u ++ v).cps.toList = u.cps.toList ++ v.cps.toList := Array.toList_append
            refine ⟨by rw [len_codes, e, List.length_append, ← len_codes, ← len_codes]; omega, fun c hc => ?_⟩
            rw [e] at hc
            rcases List.mem_append.mp hc with w | w
            · exact Nat.lt_trans (h2 c w) (by decide)
            · exact Nat.lt_trans (h4 c w) (by decide)
          have one : ∀ x : String, x = "\n" ∨ x = " " → (Str.ofString x).length ≤ 80 ∧ ∀ c ∈ (Str.ofString x).cps.toList, c < 128 := fun x hx => by
            rcases hx with rfl | rfl <;> decide +kernel
          obtain ⟨n1, n2⟩ := one "\n" (.inl rfl)
          obtain ⟨b1, b2⟩ := one " " (.inr rfl)
          by_cases h : k = 0
          · rw [decide_eq_true h, ite_bt]
            rw [add_str (t := Str.ofString "\n") (by unfold LIM; omega), add_str (s := word) (t := Str.ofString " ") (by unfold LIM; omega), add_str (s := Str.ofString " ") (by unfold LIM; omega), add_str (s := Str.ofString "\n") (by unfold LIM; omega)]
            walk_at "ow"
            simp only [draw_eq]
            refine ⟨by decide, by decide, by decide, fun j hj0 hj1 => ?_⟩
            walk_at "ow"
            rcases (by omega : j = 0 ∨ j = 1 ∨ j = 2 ∨ j = 3) with w | w | w | w <;> subst w
            · exact ⟨_, rfl, rest _ (sma _ _ hwl hwc n1 n2)⟩
            · exact ⟨_, rfl, rest _ (sma _ _ hwl hwc b1 b2)⟩
            · exact ⟨_, rfl, rest _ (sma _ _ b1 b2 hwl hwc)⟩
            · exact ⟨_, rfl, rest _ (sma _ _ n1 n2 hwl hwc)⟩
          · rw [decide_eq_false h, ite_bf]
            exact rest _ (sm word hwl hwc)
        · intro word hs
          unfold d_law_13
          walk_at "ow"
          rw [vn_eq hs]
          unfold d_law_14
          walk_at "ow"
          rw [show pIsi [.bl (nameOk word), .ty "bool"] = some (.s (.bl true)) from rfl]
          walk_at "ow"
          rw [gd_eq hs]
          walk_at "ow"
          unfold pNe
          rw [eq_bl, decide_eq_true rfl]
          walk_at "ow"
          have hr := rev_small hs
          have hrl : (revStr word).length ≤ LIM := by have := hr.1; unfold LIM; omega
          unfold d_law_15
          walk_at "ow"
          rw [show pRev (.str word) = some (.s (.str (revStr word))) from if_pos hrl]
          simp only [permL]
          walk_at "ow"
          refine ⟨_, rfl, ?_⟩
          rw [vn_eq hr]
          walk_at "ow"
          rw [gd_eq hr]
          walk_at "ow"
          unfold pEq
          rw [eq_bl, decide_eq_true rfl]
          walk_at "ow"
          exact q
end OW
namespace OW
open PySem PySem.Spec L2
theorem all_fn {P : Program} {w : World} {K : PySem.W.Frag} {mg : Str → Option Value} {base : Heap} {a : Nat → Addr} {d : Nat → FuncData} (M : Md K mg a d) : FnOk P w K mg base (L2.CX P w) 2 (a 10) (d 10) ["_law_script"] (spO K pr_law co_law) := by
  have G_valid_name : FnOk P w K mg base (L2.CX P w) 1 (a 4) (d 4) ["text"] (spO K pr_valid_name co_valid_name) := fn_valid_name M P_valid_name
  have G__law_start : FnOk P w K mg base (L2.CX P w) 1 (a 6) (d 6) ["_law_script"] (spO K pr__law_start co__law_start) := ok_start (k := 0) M.F__law_start M.n_abs M.n_list
  have G__law_draw : FnOk P w K mg base (L2.CX P w) 1 (a 7) (d 7) ["_law_state", "_law_size"] (spO K pr__law_draw co__law_draw) := ok_draw (k := 0) M.F__law_draw M.n_int M.n_len
  have G__law_signs : FnOk P w K mg base (L2.CX P w) 1 (a 8) (d 8) [] (spO K pr__law_signs co__law_signs) := fn__law_signs M P__law_signs
  have G__law_good : FnOk P w K mg base (L2.CX P w) 1 (a 9) (d 9) ["_law_word"] (spO K pr__law_good co__law_good) := fn__law_good M P__law_good
  apply fn_law M <;> first | assumption | exact P_law
theorem law_sp {K : PySem.W.Frag} {H : Hp} {a : Addr} {ns : List Int} (hl : ns.length ≤ 63) (hS : SqL K H a (ns.map V.int)) (hc : co_law ≤ CM) : spO K pr_law co_law [.ref a] H (fun v _ => v = .bl true) (fun _ _ _ => False) := by
  refine ⟨⟨H, fun q => H q, fun _ => none, 0, fun p => ∃ o, H p = some o, none⟩, [.sc ns], fun rv => rv = .d (.bl true), fun _ => False, rfl, ⟨⟨fun _ _ z => z, fun _ _ z => (by cases z), fun _ z => z, fun _ _ z => (by cases z), fun _ z => (by cases z)⟩, fun _ _ z => (by cases z), fun _ => Iff.rfl⟩, .cons ⟨a, rfl, hS, rfl⟩ .nil, by show 0 + co_law ≤ CM; omega, ⟨ns, rfl, hl, rfl⟩, fun v G' x s ok' vr q => ?_, fun _ _ _ _ _ _ _ z => z⟩
  subst q
  have vr : Rep K G'.F (.bl true) v := vr
  unfold Rep at vr; exact vr
theorem co_ok : co_law ≤ CM := by decide +kernel
theorem cx_none {P : Program} {w : World} {outer : List Env} {H : Hp} {s : Shared} {u : Value} {s' : Shared} (h : L2.CX P w outer H s (fun _ _ _ => False) u s') : False := by
  obtain ⟨_, _, _, _, _, _, _, _, _, _, _, _, z⟩ := h
  exact z
end OW
namespace OW
open PySem PySem.Spec L2
theorem all_mk {l : PySem.W.OpenLaw} {w : World} {K : PySem.W.Frag} {h : Heap} {mg : Str → Option Value} {fa : Addr} (X : K.In h) (G : h.Ns mainGlobals mg) (hfa : mg "law" = some (.ref fa))
    {f4 : Addr} {od4 an4 : Option Addr} {sl4 : Array (Option Value)} {oc4 kV4 dc4 pm4 cd4 ct4 : Value}
    (a4 : PySem.W.nsIn K mainGlobals "valid_name" = some (some (.ref f4))) (l4 : K.lookup f4 = some ⟨oc4, od4, .func (PySem.W.fnOf "valid_name" "valid_name" (defArgs (topS 4)) (defBody (topS 4)) (defScope (topS 4)) .none kV4 dc4 pm4 an4 cd4 ct4), sl4⟩) (c4 : PySem.W.codeIn K cd4 "valid_name" = true) (k4 : PySem.W.keepIn K (.ref f4) = true)
    {f6 : Addr} {od6 an6 : Option Addr} {sl6 : Array (Option Value)} {oc6 kV6 dc6 pm6 cd6 ct6 : Value}
    (a6 : PySem.W.nsIn K mainGlobals "_law_start" = some (some (.ref f6))) (l6 : K.lookup f6 = some ⟨oc6, od6, .func (PySem.W.fnOf "_law_start" "_law_start" (defArgs (topS 6)) (defBody (topS 6)) (defScope (topS 6)) .none kV6 dc6 pm6 an6 cd6 ct6), sl6⟩) (c6 : PySem.W.codeIn K cd6 "_law_start" = true) (k6 : PySem.W.keepIn K (.ref f6) = true)
    {f7 : Addr} {od7 an7 : Option Addr} {sl7 : Array (Option Value)} {oc7 kV7 dc7 pm7 cd7 ct7 : Value}
    (a7 : PySem.W.nsIn K mainGlobals "_law_draw" = some (some (.ref f7))) (l7 : K.lookup f7 = some ⟨oc7, od7, .func (PySem.W.fnOf "_law_draw" "_law_draw" (defArgs (topS 7)) (defBody (topS 7)) (defScope (topS 7)) .none kV7 dc7 pm7 an7 cd7 ct7), sl7⟩) (c7 : PySem.W.codeIn K cd7 "_law_draw" = true) (k7 : PySem.W.keepIn K (.ref f7) = true)
    {f8 : Addr} {od8 an8 : Option Addr} {sl8 : Array (Option Value)} {oc8 kV8 dc8 pm8 cd8 ct8 : Value}
    (a8 : PySem.W.nsIn K mainGlobals "_law_signs" = some (some (.ref f8))) (l8 : K.lookup f8 = some ⟨oc8, od8, .func (PySem.W.fnOf "_law_signs" "_law_signs" (defArgs (topS 8)) (defBody (topS 8)) (defScope (topS 8)) .none kV8 dc8 pm8 an8 cd8 ct8), sl8⟩) (c8 : PySem.W.codeIn K cd8 "_law_signs" = true) (k8 : PySem.W.keepIn K (.ref f8) = true)
    {f9 : Addr} {od9 an9 : Option Addr} {sl9 : Array (Option Value)} {oc9 kV9 dc9 pm9 cd9 ct9 : Value}
    (a9 : PySem.W.nsIn K mainGlobals "_law_good" = some (some (.ref f9))) (l9 : K.lookup f9 = some ⟨oc9, od9, .func (PySem.W.fnOf "_law_good" "_law_good" (defArgs (topS 9)) (defBody (topS 9)) (defScope (topS 9)) .none kV9 dc9 pm9 an9 cd9 ct9), sl9⟩) (c9 : PySem.W.codeIn K cd9 "_law_good" = true) (k9 : PySem.W.keepIn K (.ref f9) = true)
    {f10 : Addr} {od10 an10 : Option Addr} {sl10 : Array (Option Value)} {oc10 kV10 dc10 pm10 cd10 ct10 : Value}
    (a10 : PySem.W.nsIn K mainGlobals "law" = some (some (.ref f10))) (l10 : K.lookup f10 = some ⟨oc10, od10, .func (PySem.W.fnOf "law" "law" (defArgs (topS 10)) (defBody (topS 10)) (defScope (topS 10)) .none kV10 dc10 pm10 an10 cd10 ct10), sl10⟩) (c10 : PySem.W.codeIn K cd10 "law" = true) (k10 : PySem.W.keepIn K (.ref f10) = true)
    {t_LETTERS : Tok} (s_LETTERS : PySem.W.nsIn K mainGlobals "LETTERS" = some (some (.str (Str.ofString "abcdefghijklmnopqrstuvwxyz") t_LETTERS)))
    {t_DIGITS : Tok} (s_DIGITS : PySem.W.nsIn K mainGlobals "DIGITS" = some (some (.str (Str.ofString "0123456789") t_DIGITS)))
    {t_LONGEST : Tok} (s_LONGEST : PySem.W.nsIn K mainGlobals "LONGEST" = some (some (.int 6 t_LONGEST)))
    (z_abs : PySem.W.nsIn K mainGlobals "abs" = some none)
    (z_bool : PySem.W.nsIn K mainGlobals "bool" = some none)
    (z_int : PySem.W.nsIn K mainGlobals "int" = some none)
    (z_isinstance : PySem.W.nsIn K mainGlobals "isinstance" = some none)
    (z_len : PySem.W.nsIn K mainGlobals "len" = some none)
    (z_list : PySem.W.nsIn K mainGlobals "list" = some none)
    (z_range : PySem.W.nsIn K mainGlobals "range" = some none)
    : ∃ fd : FuncData, (∀ (s : Shared) (v : Value), BindsTo s fd ⟨[v], []⟩ [("_law_script", v)]) ∧ ∀ base : Heap, K.In base → base.Ns mainGlobals mg → FnOk l.prog w K mg base (L2.CX l.prog w) 2 fa fd ["_law_script"] (spO K pr_law co_law) := by
  have e := hfa.symm.trans (PySem.W.mg_of X G a10)
  cases e
  have F4 := fun_mk (st := topS 4) l4 c4 k4
  have F6 := fun_mk (st := topS 6) l6 c6 k6
  have F7 := fun_mk (st := topS 7) l7 c7 k7
  have F8 := fun_mk (st := topS 8) l8 c8 k8
  have F9 := fun_mk (st := topS 9) l9 c9 k9
  have F10 := fun_mk (st := topS 10) l10 c10 k10
  have M : Md K mg (fun i => match i with | 4 => f4 | 6 => f6 | 7 => f7 | 8 => f8 | 9 => f9 | 10 => fa | _ => fa) (fun i => match i with | 4 => PySem.W.fnOf "valid_name" "valid_name" (defArgs (topS 4)) (defBody (topS 4)) (defScope (topS 4)) .none kV4 dc4 pm4 an4 cd4 ct4 | 6 => PySem.W.fnOf "_law_start" "_law_start" (defArgs (topS 6)) (defBody (topS 6)) (defScope (topS 6)) .none kV6 dc6 pm6 an6 cd6 ct6 | 7 => PySem.W.fnOf "_law_draw" "_law_draw" (defArgs (topS 7)) (defBody (topS 7)) (defScope (topS 7)) .none kV7 dc7 pm7 an7 cd7 ct7 | 8 => PySem.W.fnOf "_law_signs" "_law_signs" (defArgs (topS 8)) (defBody (topS 8)) (defScope (topS 8)) .none kV8 dc8 pm8 an8 cd8 ct8 | 9 => PySem.W.fnOf "_law_good" "_law_good" (defArgs (topS 9)) (defBody (topS 9)) (defScope (topS 9)) .none kV9 dc9 pm9 an9 cd9 ct9 | 10 => PySem.W.fnOf "law" "law" (defArgs (topS 10)) (defBody (topS 10)) (defScope (topS 10)) .none kV10 dc10 pm10 an10 cd10 ct10 | _ => PySem.W.fnOf "law" "law" (defArgs (topS 10)) (defBody (topS 10)) (defScope (topS 10)) .none kV10 dc10 pm10 an10 cd10 ct10) := {
    F_valid_name := F4
    g_valid_name := PySem.W.mg_of X G a4
    b_valid_name := F4.binds (ps := ["text"]) fun _ _ _ _ _ _ us hl => match us, hl with | [_], _ => rfl
    F__law_start := F6
    g__law_start := PySem.W.mg_of X G a6
    b__law_start := F6.binds (ps := ["_law_script"]) fun _ _ _ _ _ _ us hl => match us, hl with | [_], _ => rfl
    F__law_draw := F7
    g__law_draw := PySem.W.mg_of X G a7
    b__law_draw := F7.binds (ps := ["_law_state", "_law_size"]) fun _ _ _ _ _ _ us hl => match us, hl with | [_, _], _ => rfl
    F__law_signs := F8
    g__law_signs := PySem.W.mg_of X G a8
    b__law_signs := F8.binds (ps := []) fun _ _ _ _ _ _ us hl => match us, hl with | [], _ => rfl
    F__law_good := F9
    g__law_good := PySem.W.mg_of X G a9
    b__law_good := F9.binds (ps := ["_law_word"]) fun _ _ _ _ _ _ us hl => match us, hl with | [_], _ => rfl
    F_law := F10
    g_law := PySem.W.mg_of X G a10
    b_law := F10.binds (ps := ["_law_script"]) fun _ _ _ _ _ _ us hl => match us, hl with | [_], _ => rfl
    k_valid_name_0_text := kbn_of F4 0 ["text"] [0] (fun _ _ _ _ _ _ us ws h1 h2 => match us, ws, h1, h2 with | [], [_], _, _ => rfl)
    c_LETTERS := ⟨t_LETTERS, PySem.W.mg_of X G s_LETTERS⟩
    c_DIGITS := ⟨t_DIGITS, PySem.W.mg_of X G s_DIGITS⟩
    c_LONGEST := ⟨t_LONGEST, PySem.W.mg_of X G s_LONGEST⟩
    n_abs := PySem.W.mg_none_of X G z_abs
    n_bool := PySem.W.mg_none_of X G z_bool
    n_int := PySem.W.mg_none_of X G z_int
    n_isinstance := PySem.W.mg_none_of X G z_isinstance
    n_len := PySem.W.mg_none_of X G z_len
    n_list := PySem.W.mg_none_of X G z_list
    n_range := PySem.W.mg_none_of X G z_range
  }
  exact ⟨PySem.W.fnOf "law" "law" (defArgs (topS 10)) (defBody (topS 10)) (defScope (topS 10)) .none kV10 dc10 pm10 an10 cd10 ct10, fun s v => .of_eq rfl, fun base _ _ => all_fn M⟩
end OW
open PySem PySem.W PyProof.Rows
set_option maxHeartbeats 0 in
theorem PySem.Challenge.cw_openshares_k01_valid_names_holds : PySem.Challenge.rw_openshares_k01_valid_names.Holds := by
  w_on; o_law; k_head; (case hw => w_witness2)
  k_fill
  refine L2.walk_of (l := PySem.Challenge.rw_openshares_k01_valid_names) (n := 63) (k := 2) (x := "_law_script") (CX := fun w => L2.CX (PySem.Challenge.rw_openshares_k01_valid_names).prog w) (sp := fun w => OW.spO _ OW.pr_law OW.co_law) rfl (by decide) rfl ⟨rfl, by decide, by decide⟩ (fun w h Y => PySem.W.kIn_of Y) ?F (fun _ H a ns hl _ hS => OW.law_sp hl hS OW.co_ok) (fun _ _ _ _ _ h => OW.cx_none h)
  case F =>
    intro w mg fa h KX G hmg
    refine' OW.all_mk KX G hmg ?a4 ?l4 ?c4 ?k4 ?a6 ?l6 ?c6 ?k6 ?a7 ?l7 ?c7 ?k7 ?a8 ?l8 ?c8 ?k8 ?a9 ?l9 ?c9 ?k9 ?a10 ?l10 ?c10 ?k10 ?s_LETTERS ?s_DIGITS ?s_LONGEST ?z_abs ?z_bool ?z_int ?z_isinstance ?z_len ?z_list ?z_range
    (case a4 => k_is); (case l4 => k_is); (case c4 => k_is); (case k4 => k_is); (case a6 => k_is); (case l6 => k_is); (case c6 => k_is); (case k6 => k_is)
    (case a7 => k_is); (case l7 => k_is); (case c7 => k_is); (case k7 => k_is); (case a8 => k_is); (case l8 => k_is); (case c8 => k_is); (case k8 => k_is)
    (case a9 => k_is); (case l9 => k_is); (case c9 => k_is); (case k9 => k_is); (case a10 => k_is); (case l10 => k_is); (case c10 => k_is); (case k10 => k_is)
    (case s_LETTERS => k_is); (case s_DIGITS => k_is); (case s_LONGEST => k_is); (case z_abs => k_is); (case z_bool => k_is); (case z_int => k_is); (case z_isinstance => k_is); (case z_len => k_is)
    (case z_list => k_is); (case z_range => k_is)
