import PyProof.Rows.All
import Wide.All
import OpenK.AllK
import Wide.FinOn
import PySem.Challenge.RW_tk0009_01
set_option Elab.async false

section PartML0
open PySem PySem.W PyProof.Rows
namespace Mine

/-! a small language: values, objects, an abstract heap -/
inductive V where
  | none
  | bool (b : Bool)
  | int (i : Int)
  | ref (a : Nat)
deriving DecidableEq

inductive O where
  | list (vs : List V)
  | tuple (vs : List V)
  | dict (es : List (List Int × Int))
  | ro (vs : List V)

noncomputable abbrev Mu := Nat → Option O
noncomputable def upd (μ : Mu) (a : Nat) (o : O) : Mu := fun b => if b = a then some o else μ b

noncomputable def seqVals : O → Option (List V)
  | .list vs => some vs
  | .tuple vs => some vs
  | .dict _ => Option.none
  | .ro _ => Option.none

noncomputable def O.mutable : O → Bool
  | .list _ => true
  | .tuple _ => false
  | .dict _ => true
  | .ro _ => false
noncomputable def mutb (μ : Mu) (a : Nat) : Bool := match μ a with
  | some o => o.mutable
  | Option.none => false

/-- the names of variables -/
inductive X where
  | a | s | u | v | n | row | column | step | width | found | size | one | other | spot | lead | isDone | many | at_
  | b | box | m | turn | factor | place | told | right | form | changes | others | commons | nought | turned | due | script
deriving DecidableEq

noncomputable def X.nm : X → Str
  | .a => "a" | .s => "s" | .u => "u" | .v => "v" | .n => "n" | .row => "row" | .column => "column" | .step => "step" | .width => "width"
  | .found => "found" | .size => "size" | .one => "one" | .other => "other" | .spot => "spot" | .lead => "lead" | .isDone => "is_done"
  | .many => "many" | .at_ => "at" | .b => "b" | .box => "box" | .m => "m" | .turn => "turn" | .factor => "factor" | .place => "place"
  | .told => "told" | .right => "right" | .form => "form" | .changes => "changes" | .others => "others" | .commons => "commons"
  | .nought => "nought" | .turned => "turned" | .due => "due" | .script => "script"

noncomputable def X.all : List X := [.a, .s, .u, .v, .n, .row, .column, .step, .width, .found, .size, .one, .other, .spot, .lead, .isDone, .many, .at_,
  .b, .box, .m, .turn, .factor, .place, .told, .right, .form, .changes, .others, .commons, .nought, .turned, .due, .script]
noncomputable def X.of (n : Str) : Option X := X.all.find? fun x => x.nm == n
theorem X.of_nm (x : X) : X.of x.nm = some x := by cases x <;> decide +kernel
theorem X.nm_inj {x y : X} (h : x.nm = y.nm) : x = y := by
  have := X.of_nm x
  rw [h, X.of_nm y] at this
  exact (Option.some.inj this).symm
theorem X.nm_dot (x : X) : x.nm ≠ ".0" := by cases x <;> decide +kernel

/-- the text's own defs -/
inductive Fn where
  | unitRows | leastSpot | swapColumns | bring | clearCross | undividedRow | smithForm | diagonal | lawTake | lawCommon | lawColumns | lawImage
deriving DecidableEq
noncomputable def Fn.nm : Fn → Str
  | .unitRows => "unit_rows" | .leastSpot => "least_spot" | .swapColumns => "swap_columns" | .bring => "bring" | .clearCross => "clear_cross"
  | .undividedRow => "undivided_row" | .smithForm => "smith_form" | .diagonal => "diagonal" | .lawTake => "_law_take" | .lawCommon => "_law_common"
  | .lawColumns => "_law_columns" | .lawImage => "_law_image"

noncomputable abbrev Rho := X → Option V
noncomputable def bnd (ρ : Rho) (x : X) (v : V) : Rho := fun y => if y = x then some v else ρ y
noncomputable def unb (ρ : Rho) (x : X) : Rho := fun y => if y = x then Option.none else ρ y

inductive Op where
  | add | sub | mul | fdiv | mod | pow
inductive Cm where
  | eq | ne | lt | gt | isNone | isNotNone

set_option genSizeOf false
set_option genSizeOfSpec false
set_option genInjectivity false
mutual
inductive ME where
  | int (i : Int)
  | none
  | bool (b : Bool)
  | var (x : X)
  | bin (op : Op) (l r : ME)
  | neg (e : ME)
  | ite (c : MT) (b o : ME)
  | andc (e : ME) (op : Cm) (l r : ME)
  | sub (e i : ME)
  | slice (e : ME) (n : Int)
  | list (es : MEs)
  | tuple (es : MEs)
  | dict
  | call (f : Fn) (es : MEs)
  | len (e : ME)
  | abs (e : ME)
  | min (l r : ME)
  | toInt (e : ME)
  | sum (e : ME)
  | toList (e : ME)
  | toTuple (e : ME)
  | pop0 (e : ME)
  | get (d k i : ME)
  | comp (elt : ME) (x : X) (it : MI) (c : MC)
  | compE (elt : ME) (i x : X) (e : ME) (c : MC)
  | comp2 (elt : ME) (x : X) (it : MI) (y : X) (it2 : MI)
inductive MT where
  | cmp (op : Cm) (l r : ME)
  | and (l r : MT)
  | or (l r : MT)
  | not (t : MT)
  | truth (e : ME)
inductive MI where
  | range1 (e : ME)
  | range2 (l r : ME)
  | val (e : ME)
inductive MEs where
  | nil
  | cons (e : ME) (es : MEs)
inductive MC where
  | no
  | yes (t : MT)
end

mutual
inductive MS where
  | assign (x : X) (e : ME)
  | assignC (x : X) (e : ME)
  | tup (xs : List X) (es : MEs)
  | unpack (xs : List X) (e : ME)
  | store (o i e : ME)
  | swap (o i p j : ME) (es : MEs)
  | expr (e : ME)
  | append (o e : ME)
  | ite (c : MT) (b o : MSs)
  | for_ (x : X) (it : MI) (b : MSs)
  | while_ (c : MT) (b : MSs)
  | ret (e : ME)
  | cont
inductive MSs where
  | nil
  | cons (st : MS) (r : MSs)
end

set_option genSizeOf true
set_option genSizeOfSpec true
set_option genInjectivity true
/-! what the words ask -/
noncomputable abbrev QV := V → Mu → Prop
noncomputable abbrev Phi := Fn → List V → Mu → QV → Prop

noncomputable def sel (x y : V) (ii : Int → Int → Prop) (rr : Nat → Nat → Prop) (ri : Nat → Int → Prop) : Prop := match x with
  | .int i => (match y with
    | .int j => ii i j
    | _ => False)
  | .ref a => (match y with
    | .ref b => rr a b
    | .int k => ri a k
    | _ => False)
  | _ => False
noncomputable def isN (y : V) (P : Prop) : Prop := match y with
  | .none => P
  | _ => False
noncomputable def onInt (y : V) (P : Int → Prop) : Prop := match y with
  | .int i => P i
  | _ => False
theorem sel_elim {x y : V} {ii : Int → Int → Prop} {rr : Nat → Nat → Prop} {ri : Nat → Int → Prop} {C : Prop} (h : sel x y ii rr ri) (h1 : ∀ i j, x = .int i → y = .int j → ii i j → C) (h2 : ∀ a b, x = .ref a → y = .ref b → rr a b → C) (h3 : ∀ a k, x = .ref a → y = .int k → ri a k → C) : C := by
  cases x with
  | int i => cases y with
    | int j => exact h1 i j rfl rfl h
    | _ => exact False.elim h
  | ref a => cases y with
    | ref b => exact h2 a b rfl rfl h
    | int k => exact h3 a k rfl rfl h
    | _ => exact False.elim h
  | _ => exact False.elim h
theorem isN_elim {y : V} {P : Prop} (h : isN y P) : y = .none ∧ P := by
  cases y with
  | none => exact ⟨rfl, h⟩
  | _ => exact False.elim h
theorem onInt_elim {y : V} {P : Int → Prop} (h : onInt y P) : ∃ i, y = .int i ∧ P i := by
  cases y with
  | int i => exact ⟨i, rfl, h⟩
  | _ => exact False.elim h

noncomputable def binP (op : Op) (x y : V) (μ : Mu) (Q : QV) : Prop := match op with
  | .add => sel x y (fun x y => Q (.int (x + y)) μ) (fun x y => ∃ xs ys, μ x = some (.list xs) ∧ μ y = some (.list ys) ∧ xs.length + ys.length ≤ sizeLine ∧ ∀ c, μ c = Option.none → Q (.ref c) (upd μ c (.list (xs ++ ys)))) (fun _ _ => False)
  | .sub => sel x y (fun x y => Q (.int (x - y)) μ) (fun _ _ => False) (fun _ _ => False)
  | .mul => sel x y (fun x y => IntMulOk x y ∧ Q (.int (x * y)) μ) (fun _ _ => False) (fun x k => ∃ v, 0 ≤ k ∧ k ≤ 100 ∧ ((μ x = some (.list [v]) ∧ ∀ c, μ c = Option.none → Q (.ref c) (upd μ c (.list (List.replicate k.toNat v)))) ∨
      (μ x = some (.tuple [v]) ∧ 2 ≤ k ∧ ∀ c, μ c = Option.none → Q (.ref c) (upd μ c (.tuple (List.replicate k.toNat v)))) ∨
      (μ x = some (.tuple [v]) ∧ k = 1 ∧ Q (.ref x) μ)))
  | .fdiv => sel x y (fun x y => y ≠ 0 ∧ y.natAbs < 2 ^ 64 ∧ Q (.int (x.fdiv y)) μ) (fun _ _ => False) (fun _ _ => False)
  | .mod => sel x y (fun x y => y ≠ 0 ∧ Q (.int (x.fmod y)) μ) (fun _ _ => False) (fun _ _ => False)
  | .pow => sel x y (fun x k => 0 ≤ k ∧ k ≤ 3 ∧ 2 ≤ x ∧ x ≤ 100 ∧ Q (.int (x ^ k.toNat)) μ) (fun _ _ => False) (fun _ _ => False)

noncomputable def cmpP (op : Cm) (x y : V) (μ : Mu) (Q : Bool → Prop) : Prop := match op with
  | .eq => sel x y (fun x y => Q (decide (x = y))) (fun x y => ∃ ns : List Int, μ x = some (.list (ns.map V.int)) ∧ μ y = some (.list []) ∧ Q ns.isEmpty) (fun _ _ => False)
  | .ne => sel x y (fun x y => Q (decide (x ≠ y))) (fun x y => ∃ ns : List Int, μ x = some (.list (ns.map V.int)) ∧ μ y = some (.list []) ∧ Q (!ns.isEmpty)) (fun _ _ => False)
  | .lt => sel x y (fun x y => Q (decide (x < y))) (fun _ _ => False) (fun _ _ => False)
  | .gt => sel x y (fun x y => Q (decide (x > y))) (fun _ _ => False) (fun _ _ => False)
  | .isNone => isN y (Q (decide (x = .none)))
  | .isNotNone => isN y (Q (decide (x ≠ .none)))

noncomputable def lookupL (es : List (List Int × Int)) (k : List Int) : Option Int := (es.find? fun e => decide (e.1 = k)).map (·.2)
noncomputable def storeL (es : List (List Int × Int)) (k : List Int) (i : Int) : List (List Int × Int) :=
  if (lookupL es k).isSome then es.map fun e => if e.1 = k then (e.1, i) else e else es ++ [(k, i)]

noncomputable def subP (x y : V) (μ : Mu) (Q : QV) : Prop := sel x y (fun _ _ => False)
  (fun d t => ∃ es ks i, μ d = some (.dict es) ∧ μ t = some (.tuple (ks.map V.int)) ∧ lookupL es ks = some i ∧ Q (.int i) μ)
  (fun x k => ∃ o vs v, μ x = some o ∧ seqVals o = some vs ∧ 0 ≤ k ∧ k < 1000 ∧ vs[k.toNat]? = some v ∧ Q v μ)

noncomputable def storeP (x y v : V) (μ : Mu) (Q : Mu → Prop) : Prop := sel x y (fun _ _ => False)
  (fun d t => onInt v fun i => ∃ es ks, μ d = some (.dict es) ∧ μ t = some (.tuple (ks.map V.int)) ∧ es.length ≤ sizeLine ∧ Q (upd μ d (.dict (storeL es ks i))))
  (fun x k => ∃ vs, μ x = some (.list vs) ∧ 0 ≤ k ∧ k < 1000 ∧ k.toNat < vs.length ∧ Q (upd μ x (.list (vs.set k.toNat v))))

noncomputable def truthP (x : V) (Q : Bool → Prop) : Prop := match x with
  | .bool b => Q b
  | _ => False
theorem truthP_elim {x : V} {Q : Bool → Prop} (h : truthP x Q) : ∃ b, x = .bool b ∧ Q b := by
  cases x with
  | bool b => exact ⟨b, rfl, h⟩
  | _ => exact False.elim h

noncomputable def getP (x y z : V) (μ : Mu) (Q : QV) : Prop := sel x y (fun _ _ => False)
  (fun d t => onInt z fun i => ∃ es ks, μ d = some (.dict es) ∧ μ t = some (.tuple (ks.map V.int)) ∧ Q (.int ((lookupL es ks).getD i)) μ) (fun _ _ => False)

noncomputable def compP {α : Type} (src : Mu → Prop) (body : α → Mu → (List V → Mu → Prop) → Prop) : List α → List V → Mu → (List V → Mu → Prop) → Prop
  | [], acc, μ, Q => src μ ∧ Q acc μ
  | x :: r, acc, μ, Q => src μ ∧ body x μ (fun ys μ' => compP src body r (acc ++ ys) μ' Q)

noncomputable def rangeV (x y : Int) : List V := (List.range (y - x).toNat).map fun i => V.int (x + (i : Nat))

mutual
noncomputable def wpE (Φ : Phi) : ME → Rho → Mu → QV → Prop
  | .int i, _, μ, Q => Q (.int i) μ
  | .none, _, μ, Q => Q .none μ
  | .bool b, _, μ, Q => Q (.bool b) μ
  | .var x, ρ, μ, Q => ∃ v, ρ x = some v ∧ Q v μ
  | .bin op l r, ρ, μ, Q => wpE Φ l ρ μ fun x μ₁ => wpE Φ r ρ μ₁ fun y μ₂ => binP op x y μ₂ Q
  | .neg e, ρ, μ, Q => wpE Φ e ρ μ fun x μ₁ => ∃ i, x = .int i ∧ Q (.int (-i)) μ₁
  | .ite c b o, ρ, μ, Q => wpT Φ c ρ μ fun t μ₁ => if t then wpE Φ b ρ μ₁ Q else wpE Φ o ρ μ₁ Q
  | .andc e op l r, ρ, μ, Q => wpE Φ e ρ μ fun x μ₁ => ∃ b, x = .bool b ∧ if b then (wpE Φ l ρ μ₁ fun x μ₂ => wpE Φ r ρ μ₂ fun y μ₃ => cmpP op x y μ₃ fun t => Q (.bool t) μ₃) else Q (.bool false) μ₁
  | .sub e i, ρ, μ, Q => wpE Φ e ρ μ fun x μ₁ => wpE Φ i ρ μ₁ fun y μ₂ => subP x y μ₂ Q
  | .slice e n, ρ, μ, Q => wpE Φ e ρ μ fun x μ₁ => ∃ p vs, 0 ≤ n ∧ n < 1000 ∧ x = .ref p ∧ (μ₁ p = some (.ro vs)) ∧ vs.length ≤ 1000 ∧ ∀ c, μ₁ c = Option.none → Q (.ref c) (upd μ₁ c (.list (vs.take n.toNat)))
  | .list es, ρ, μ, Q => wpEs Φ es ρ μ fun vs μ₁ => vs.length ≤ 1000 ∧ ∀ c, μ₁ c = Option.none → Q (.ref c) (upd μ₁ c (.list vs))
  | .tuple es, ρ, μ, Q => wpEs Φ es ρ μ fun vs μ₁ => vs.length ≤ 1000 ∧ ∀ c, μ₁ c = Option.none → Q (.ref c) (upd μ₁ c (.tuple vs))
  | .dict, _, μ, Q => ∀ c, μ c = Option.none → Q (.ref c) (upd μ c (.dict []))
  | .call f es, ρ, μ, Q => wpEs Φ es ρ μ fun vs μ₁ => Φ f vs μ₁ Q
  | .len e, ρ, μ, Q => wpE Φ e ρ μ fun x μ₁ => ∃ p, x = .ref p ∧ ((∃ vs, μ₁ p = some (.list vs) ∧ vs.length ≤ sizeLine ∧ Q (.int vs.length) μ₁) ∨ (∃ es, μ₁ p = some (.dict es) ∧ es.length ≤ sizeLine ∧ Q (.int es.length) μ₁))
  | .abs e, ρ, μ, Q => wpE Φ e ρ μ fun x μ₁ => ∃ i, x = .int i ∧ Q (.int (i.natAbs)) μ₁
  | .min l r, ρ, μ, Q => wpE Φ l ρ μ fun x μ₁ => wpE Φ r ρ μ₁ fun y μ₂ => ∃ i j, x = .int i ∧ y = .int j ∧ Q (.int (Min.min i j)) μ₂
  | .toInt e, ρ, μ, Q => wpE Φ e ρ μ fun x μ₁ => ∃ i, x = .int i ∧ Q (.int i) μ₁
  | .sum e, ρ, μ, Q => wpE Φ e ρ μ fun x μ₁ => ∃ (p : Nat) (ns : List Int), x = .ref p ∧ μ₁ p = some (.list (ns.map V.int)) ∧ Q (.int ns.sum) μ₁
  | .toList e, ρ, μ, Q => wpE Φ e ρ μ fun x μ₁ => ∃ p vs, x = .ref p ∧ μ₁ p = some (.list vs) ∧ vs.length ≤ sizeLine ∧ ∀ c, μ₁ c = Option.none → Q (.ref c) (upd μ₁ c (.list vs))
  | .toTuple e, ρ, μ, Q => wpE Φ e ρ μ fun x μ₁ => ∃ p vs, x = .ref p ∧ μ₁ p = some (.list vs) ∧ vs.length ≤ sizeLine ∧ ∀ c, μ₁ c = Option.none → Q (.ref c) (upd μ₁ c (.tuple vs))
  | .pop0 e, ρ, μ, Q => wpE Φ e ρ μ fun x μ₁ => ∃ p v vs, x = .ref p ∧ μ₁ p = some (.list (v :: vs)) ∧ vs.length < sizeLine ∧ Q v (upd μ₁ p (.list vs))
  | .get d k i, ρ, μ, Q => wpE Φ d ρ μ fun x μ₁ => ∃ dd es, x = .ref dd ∧ μ₁ dd = some (.dict es) ∧ wpE Φ k ρ μ₁ fun y μ₂ => wpE Φ i ρ μ₂ fun z μ₃ => getP x y z μ₃ Q
  | .comp elt x it c, ρ, μ, Q => ρ x = Option.none ∧ wpI Φ it ρ μ fun items src μ₁ => items.length ≤ sizeLine ∧ compP src (fun v μ₂ k => wpC Φ c (bnd ρ x v) μ₂ fun t μ₃ => if t then wpE Φ elt (bnd ρ x v) μ₃ fun y μ₄ => k [y] μ₄ else k [] μ₃) items [] μ₁
      fun acc μ₅ => ∀ c, μ₅ c = Option.none → Q (.ref c) (upd μ₅ c (.list acc))
  | .compE elt i x e c, ρ, μ, Q => ρ i = Option.none ∧ ρ x = Option.none ∧ wpE Φ e ρ μ fun y μ₁ => ∃ p o vs, y = .ref p ∧ μ₁ p = some o ∧ seqVals o = some vs ∧ vs.length ≤ sizeLine ∧ compP (fun μ => μ p = some o) (fun (vi : V × Nat) μ₂ k =>
      wpC Φ c (bnd (bnd ρ i (.int vi.2)) x vi.1) μ₂ fun t μ₃ => if t then wpE Φ elt (bnd (bnd ρ i (.int vi.2)) x vi.1) μ₃ fun y μ₄ => k [y] μ₄ else k [] μ₃) vs.zipIdx [] μ₁
      fun acc μ₅ => ∀ c, μ₅ c = Option.none → Q (.ref c) (upd μ₅ c (.list acc))
  | .comp2 elt x it y it2, ρ, μ, Q => ρ x = Option.none ∧ ρ y = Option.none ∧ x ≠ y ∧ wpI Φ it ρ μ fun items src μ₁ => items.length ≤ 1000 ∧ compP src (fun v μ₂ k => wpI Φ it2 (bnd ρ x v) μ₂ fun items2 src2 μ₃ =>
      items2.length ≤ 1000 ∧ compP src2 (fun w μ₄ k2 => wpE Φ elt (bnd (bnd ρ x v) y w) μ₄ fun z μ₅ => k2 [z] μ₅) items2 [] μ₃ k) items [] μ₁
      fun acc μ₆ => ∀ c, μ₆ c = Option.none → Q (.ref c) (upd μ₆ c (.list acc))
noncomputable def wpT (Φ : Phi) : MT → Rho → Mu → (Bool → Mu → Prop) → Prop
  | .cmp op l r, ρ, μ, Q => wpE Φ l ρ μ fun x μ₁ => wpE Φ r ρ μ₁ fun y μ₂ => cmpP op x y μ₂ fun t => Q t μ₂
  | .and l r, ρ, μ, Q => wpT Φ l ρ μ fun t μ₁ => if t then wpT Φ r ρ μ₁ Q else Q false μ₁
  | .or l r, ρ, μ, Q => wpT Φ l ρ μ fun t μ₁ => if t then Q true μ₁ else wpT Φ r ρ μ₁ Q
  | .not t, ρ, μ, Q => wpT Φ t ρ μ fun t μ₁ => Q (!t) μ₁
  | .truth e, ρ, μ, Q => wpE Φ e ρ μ fun x μ₁ => truthP x fun t => Q t μ₁
noncomputable def wpI (Φ : Phi) : MI → Rho → Mu → (List V → (Mu → Prop) → Mu → Prop) → Prop
  | .range1 e, ρ, μ, K => wpE Φ e ρ μ fun x μ₁ => ∃ n, x = .int n ∧ -1000 < n ∧ n < 1000 ∧ K (rangeV 0 n) (fun _ => True) μ₁
  | .range2 l r, ρ, μ, K => wpE Φ l ρ μ fun x μ₁ => wpE Φ r ρ μ₁ fun y μ₂ => ∃ i j, x = .int i ∧ y = .int j ∧ -1000 < i ∧ i < 1000 ∧ -1000 < j ∧ j < 1000 ∧ K (rangeV i j) (fun _ => True) μ₂
  | .val e, ρ, μ, K => wpE Φ e ρ μ fun x μ₁ => ∃ p o vs, x = .ref p ∧ μ₁ p = some o ∧ seqVals o = some vs ∧ K vs (fun μ => μ p = some o) μ₁
noncomputable def wpEs (Φ : Phi) : MEs → Rho → Mu → (List V → Mu → Prop) → Prop
  | .nil, _, μ, Q => Q [] μ
  | .cons e es, ρ, μ, Q => wpE Φ e ρ μ fun v μ₁ => wpEs Φ es ρ μ₁ fun vs μ₂ => Q (v :: vs) μ₂
noncomputable def wpC (Φ : Phi) : MC → Rho → Mu → (Bool → Mu → Prop) → Prop
  | .no, _, μ, Q => Q true μ
  | .yes t, ρ, μ, Q => wpT Φ t ρ μ Q
end

inductive MF where
  | next
  | cont
  | ret (v : V)
noncomputable abbrev QS := MF → Rho → Mu → Prop

noncomputable def bndL : Rho → List X → List V → Rho
  | ρ, x :: xs, v :: vs => bndL (bnd ρ x v) xs vs
  | ρ, _, _ => ρ

noncomputable def forP (src : Mu → Prop) (body : V → Rho → Mu → QS → Prop) : List V → Rho → Mu → QS → Prop
  | [], ρ, μ, Q => src μ ∧ Q .next ρ μ
  | v :: r, ρ, μ, Q => src μ ∧ body v ρ μ (fun f ρ' μ' => match f with
      | .ret w => Q (.ret w) ρ' μ'
      | _ => forP src body r ρ' μ' Q)

mutual
noncomputable def wpS (Φ : Phi) : MS → Rho → Mu → QS → Prop
  | .assign x e, ρ, μ, Q => wpE Φ e ρ μ fun v μ₁ => Q .next (bnd ρ x v) μ₁
  | .assignC x e, ρ, μ, Q => wpE Φ e ρ μ fun v μ₁ => Q .next (bnd ρ x v) μ₁
  | .tup xs es, ρ, μ, Q => xs.Nodup ∧ wpEs Φ es ρ μ fun vs μ₁ => xs.length = vs.length ∧ ∀ c, μ₁ c = Option.none → Q .next (bndL ρ xs vs) (upd μ₁ c (.tuple vs))
  | .unpack xs e, ρ, μ, Q => xs.Nodup ∧ wpE Φ e ρ μ fun x μ₁ => ∃ p vs, x = .ref p ∧ μ₁ p = some (.tuple vs) ∧ xs.length = vs.length ∧ Q .next (bndL ρ xs vs) μ₁
  | .store o i e, ρ, μ, Q => wpE Φ e ρ μ fun v μ₁ => wpE Φ o ρ μ₁ fun x μ₂ => wpE Φ i ρ μ₂ fun y μ₃ => storeP x y v μ₃ fun μ₄ => Q .next ρ μ₄
  | .swap o i p j es, ρ, μ, Q => wpEs Φ es ρ μ fun vs μ₁ => ∃ v w, vs = [v, w] ∧ ∀ c, μ₁ c = Option.none →
      wpE Φ o ρ (upd μ₁ c (.tuple vs)) fun x μ₂ => wpE Φ i ρ μ₂ fun y μ₃ => storeP x y v μ₃ fun μ₄ => wpE Φ p ρ μ₄ fun x μ₅ => wpE Φ j ρ μ₅ fun y μ₆ => storeP x y w μ₆ fun μ₇ => Q .next ρ μ₇
  | .expr e, ρ, μ, Q => wpE Φ e ρ μ fun v μ₁ => v = .none ∧ Q .next ρ μ₁
  | .append o e, ρ, μ, Q => wpE Φ o ρ μ fun x μ₁ => ∃ p vs₀, x = .ref p ∧ μ₁ p = some (.list vs₀) ∧ wpE Φ e ρ μ₁ fun v μ₂ => ∃ vs, μ₂ p = some (.list vs) ∧ vs.length < sizeLine ∧ Q .next ρ (upd μ₂ p (.list (vs ++ [v])))
  | .ite c b o, ρ, μ, Q => wpT Φ c ρ μ fun t μ₁ => if t then wpSs Φ b ρ μ₁ Q else wpSs Φ o ρ μ₁ Q
  | .for_ x it b, ρ, μ, Q => wpI Φ it ρ μ fun items src μ₁ => forP src (fun v ρ μ k => wpSs Φ b (bnd ρ x v) μ k) items ρ μ₁ fun f ρ' μ' => match f with
      | .next => Q .next (unb ρ' x) μ'
      | f => Q f ρ' μ'
  | .while_ c b, ρ, μ, Q => ∃ (I : Nat → Rho → Mu → Prop) (n : Nat), I n ρ μ ∧ ∀ n ρ μ, I n ρ μ → wpT Φ c ρ μ fun t μ₁ => if t then wpSs Φ b ρ μ₁ (fun f ρ₂ μ₂ => match f with
      | .ret w => Q (.ret w) ρ₂ μ₂
      | _ => ∃ n', n' < n ∧ I n' ρ₂ μ₂) else Q .next ρ μ₁
  | .ret e, ρ, μ, Q => wpE Φ e ρ μ fun v μ₁ => Q (.ret v) ρ μ₁
  | .cont, ρ, μ, Q => Q .cont ρ μ
noncomputable def wpSs (Φ : Phi) : MSs → Rho → Mu → QS → Prop
  | .nil, ρ, μ, Q => Q .next ρ μ
  | .cons st r, ρ, μ, Q => wpS Φ st ρ μ fun f ρ₁ μ₁ => match f with
      | .next => wpSs Φ r ρ₁ μ₁ Q
      | f => Q f ρ₁ μ₁
end

end Mine

end PartML0

section PartML1
open PySem PySem.W PyProof.Rows
namespace Mine

noncomputable def er : Value → Option V
  | .none => some .none
  | .bool b => some (.bool b)
  | .int i _ => some (.int i)
  | .ref a => some (.ref a)
  | _ => Option.none

theorem er_none {w : Value} (h : er w = some .none) : w = .none := by cases w <;> simp_all [er]
theorem er_bool {w : Value} {b : Bool} (h : er w = some (.bool b)) : w = .bool b := by cases w <;> simp_all [er]
theorem er_int {w : Value} {i : Int} (h : er w = some (.int i)) : ∃ t, w = .int i t := by cases w <;> simp_all [er]
theorem er_ref {w : Value} {a : Nat} (h : er w = some (.ref a)) : w = .ref a := by cases w <;> simp_all [er]

noncomputable def LR (vs : List V) (ws : List Value) : Prop := ws.map er = vs.map some

theorem LR.length {vs : List V} {ws : List Value} (h : LR vs ws) : ws.length = vs.length := by
  have := congrArg List.length h; simpa using this
theorem LR.nil : LR [] [] := rfl
theorem LR.cons {v : V} {w : Value} {vs : List V} {ws : List Value} (h1 : er w = some v) (h : LR vs ws) : LR (v :: vs) (w :: ws) := by
  show (w :: ws).map er = (v :: vs).map some
  rw [List.map_cons, List.map_cons, h1]; exact congrArg _ h
theorem LR.cons_inv {v : V} {vs : List V} {ws : List Value} (h : LR (v :: vs) ws) : ∃ w r, ws = w :: r ∧ er w = some v ∧ LR vs r := by
  cases ws with
  | nil => cases h
  | cons w r =>
    have h' : er w :: r.map er = some v :: vs.map some := h
    injection h' with a b
    exact ⟨w, r, rfl, a, b⟩
theorem LR.nil_inv {ws : List Value} (h : LR [] ws) : ws = [] := by
  cases ws with
  | nil => rfl
  | cons w r => cases h
theorem LR.get {vs : List V} {ws : List Value} (h : LR vs ws) {i : Nat} {v : V} (hv : vs[i]? = some v) : ∃ w, ws[i]? = some w ∧ er w = some v := by
  have e : (ws.map er)[i]? = (vs.map some)[i]? := by rw [h]
  rw [List.getElem?_map, List.getElem?_map, hv] at e
  cases hw : ws[i]? with
  | none => rw [hw] at e; cases e
  | some w => rw [hw] at e; exact ⟨w, rfl, Option.some.inj e⟩
theorem LR.append {vs vs' : List V} {ws ws' : List Value} (h : LR vs ws) (h' : LR vs' ws') : LR (vs ++ vs') (ws ++ ws') := by
  show (ws ++ ws').map er = (vs ++ vs').map some
  rw [List.map_append, List.map_append, h, h']
theorem LR.set {vs : List V} {ws : List Value} (h : LR vs ws) (i : Nat) {v : V} {w : Value} (hw : er w = some v) : LR (vs.set i v) (ws.set i w) := by
  show (ws.set i w).map er = (vs.set i v).map some
  rw [List.map_set, List.map_set, h, hw]
theorem LR.take {vs : List V} {ws : List Value} (h : LR vs ws) (n : Nat) : LR (vs.take n) (ws.take n) := by
  show (ws.take n).map er = (vs.take n).map some
  rw [List.map_take, List.map_take, h]
theorem LR.replicate {v : V} {w : Value} (h : er w = some v) (n : Nat) : LR (List.replicate n v) (List.replicate n w) := by
  show (List.replicate n w).map er = (List.replicate n v).map some
  rw [List.map_replicate, List.map_replicate, h]
theorem LR.ints {ns : List Int} {ws : List Value} (h : LR (ns.map V.int) ws) : IntsAre ws ns := by
  induction ns generalizing ws with
  | nil => rw [LR.nil_inv h]; exact .nil
  | cons n r ih =>
    obtain ⟨w, ws', rfl, hw, h'⟩ := LR.cons_inv h
    obtain ⟨t, rfl⟩ := er_int hw
    exact .cons _ _ (ih h')
theorem LR.of_ints {ns : List Int} {ws : List Value} (h : IntsAre ws ns) : LR (ns.map V.int) ws := by
  induction h with
  | nil => exact LR.nil
  | cons i t _ ih => exact LR.cons rfl ih

noncomputable abbrev listO (items : Array Value) (n : Nat) : Obj := { cls := .type "list", dict := Option.none, data := .seq items n, slots := #[] }
noncomputable abbrev tupO (items : Array Value) (n : Nat) : Obj := { cls := .type "tuple", dict := Option.none, data := .seq items n, slots := #[] }

section
variable (prog : Program) (w : World)
noncomputable abbrev tk : HeapKind prog w (List Int) := tupleKind (intKind prog w)

noncomputable def OR (μ : Mu) (h : Heap) (a : Nat) : O → Prop
  | .list vs => ∃ items n, h.get? a = some (listO items n) ∧ LR vs items.toList
  | .tuple vs => ∃ items n, h.get? a = some (tupO items n) ∧ LR vs items.toList
  | .dict es => (a == sysModules) = false ∧ ∃ xs, h.DictOfH (tk prog w) a xs ∧ (xs.map fun x => (x.1, er x.2.2)) = es.map (fun e => (e.1, some (V.int e.2))) ∧ ∀ x ∈ xs, μ x.2.1 = some (.tuple (x.1.map V.int))
  | .ro vs => ∃ items, h.IsList a items ∧ LR vs items.toList

noncomputable def HR (μ : Mu) (h : Heap) : Prop := ∀ a o, μ a = some o → OR prog w μ h a o
end

noncomputable def Fm (μ : Mu) (h : Heap) (μ' : Mu) (h' : Heap) : Prop := ∀ b o, h.get? b = some o → mutb μ b = false → h'.get? b = some o ∧ μ' b = μ b
theorem Fm.refl (μ : Mu) (h : Heap) : Fm μ h μ h := fun _ _ e _ => ⟨e, rfl⟩
theorem mutb_congr {μ μ' : Mu} {b : Nat} (e : μ' b = μ b) : mutb μ' b = mutb μ b := by unfold mutb; rw [e]
theorem Fm.trans {μ μ' μ'' : Mu} {h h' h'' : Heap} (x : Fm μ h μ' h') (y : Fm μ' h' μ'' h'') : Fm μ h μ'' h'' := fun b o e m =>
  let ⟨e1, m1⟩ := x b o e m
  let ⟨e2, m2⟩ := y b o e1 ((mutb_congr m1).trans m)
  ⟨e2, m2.trans m1⟩
theorem mutb_none {μ : Mu} {b : Nat} (h : μ b = Option.none) : mutb μ b = false := by unfold mutb; rw [h]

structure EnvR (env : Env) (ρ : Rho) (μ : Mu) (h : Heap) : Prop where
  ns : ∃ m, h.Ns env.locals m ∧ ∀ x v, ρ x = some v → env.kindOf x.nm = some .local → ∃ w, m x.nm = some w ∧ er w = some v
  cell : ∀ n c, env.cells.lookup n = some c → ∃ v, h.IsCell c v
  val : ∀ x v c, ρ x = some v → (env.kindOf x.nm = some .cell ∨ env.kindOf x.nm = some .free) → env.cells.lookup x.nm = some c → ∃ w, h.IsCell c (some w) ∧ er w = some v
  offL : μ env.locals = Option.none
  offC : ∀ n c, env.cells.lookup n = some c → μ c = Option.none
  apart : ∀ n n' c, env.cells.lookup n = some c → env.cells.lookup n' = some c → n = n'

theorem Fm.ns {μ μ' : Mu} {h h' : Heap} {L : Nat} {m} (F : Fm μ h μ' h') (hn : h.Ns L m) (o : μ L = Option.none) : h'.Ns L m :=
  hn.at' fun _ e => (F _ _ e (mutb_none o)).1
theorem Fm.cell {μ μ' : Mu} {h h' : Heap} {c : Nat} {v} (F : Fm μ h μ' h') (hc : h.IsCell c v) (o : μ c = Option.none) : h'.IsCell c v :=
  let ⟨ob, ho, hd⟩ := hc; ⟨ob, (F _ _ ho (mutb_none o)).1, hd⟩
theorem Fm.off {μ μ' : Mu} {h h' : Heap} {c : Nat} {ob : Obj} (F : Fm μ h μ' h') (ho : h.get? c = some ob) (o : μ c = Option.none) : μ' c = Option.none := (F _ _ ho (mutb_none o)).2.trans o

theorem EnvR.mono {env : Env} {ρ : Rho} {μ μ' : Mu} {h h' : Heap} (R : EnvR env ρ μ h) (F : Fm μ h μ' h') : EnvR env ρ μ' h' where
  ns := let ⟨m, hn, hv⟩ := R.ns; ⟨m, F.ns hn R.offL, hv⟩
  cell := fun n c e => let ⟨v, hc⟩ := R.cell n c e; ⟨v, F.cell hc (R.offC n c e)⟩
  val := fun x v c hx k e => let ⟨w, hc, hw⟩ := R.val x v c hx k e; ⟨w, F.cell hc (R.offC _ c e), hw⟩
  offL := let ⟨_, hn, _⟩ := R.ns; let ⟨o, _, _, ho, _⟩ := hn; F.off ho R.offL
  offC := fun n c e => let ⟨_, hc⟩ := R.cell n c e; let ⟨_, ho, _⟩ := hc; F.off ho (R.offC n c e)
  apart := R.apart

structure EnvFits (sc : Scope) (env : Env) : Prop where
  kind : env.scope.kind = .function
  glob : env.globals = mainGlobals
  blt : env.builtins = builtinsNs
  loc : ∀ n, sc.names.lookup n = some .local → env.kindOf n = some .local
  cel : ∀ n, sc.names.lookup n = some .cell → env.kindOf n = some .cell ∧ ∃ c, env.cells.lookup n = some c
  fre : ∀ n, sc.names.lookup n = some .free → (env.kindOf n = some .free ∨ env.kindOf n = some .cell) ∧ ∃ c, env.cells.lookup n = some c
  glo : ∀ n, sc.names.lookup n = some .globalImplicit → env.kindOf n = some .globalImplicit

/-- what stood before the call stands, and is not ours to turn -/
noncomputable def Bs (h₀ : Heap) (μ : Mu) (h : Heap) : Prop := ∀ b o, h₀.get? b = some o → h.get? b = some o ∧ mutb μ b = false
theorem Bs.mono {h₀ h h' : Heap} {μ μ' : Mu} (B : Bs h₀ μ h) (F : Fm μ h μ' h') : Bs h₀ μ' h' := fun b o e =>
  let ⟨e1, m1⟩ := B b o e
  let ⟨e2, m2⟩ := F b o e1 m1
  ⟨e2, (mutb_congr m2).trans m1⟩
theorem Bs.keep {h₀ h : Heap} {μ : Mu} (B : Bs h₀ μ h) : ∀ b o, h₀.get? b = some o → h.get? b = some o := fun b o e => (B b o e).1

structure AOk (n : Nat) (A : Around) : Prop where
  handled : A.handled = Option.none
  depth : A.depth + n ≤ 900
  units : A.units + 10 * n ≤ 5000

theorem AOk.room {n : Nat} {A : Around} (h : AOk n A) : A.depth < recursionLimit := by have := h.depth; show A.depth < 1000; omega
theorem AOk.units_lt {n : Nat} {A : Around} (h : AOk n A) : A.units < cLine := by have := h.units; show A.units < 9900; omega
theorem AOk.deeper {n : Nat} {A : Around} {env : Env} (h : AOk (n + 1) A) : AOk n (A.deeper env) :=
  ⟨h.handled, by have := h.depth; show A.depth + 1 + n ≤ 900; omega, by have := h.units; show A.units + 3 + 10 * n ≤ 5000; omega⟩
theorem AOk.mono {n m : Nat} {A : Around} (h : AOk n A) (l : m ≤ n) : AOk m A := ⟨h.handled, by have := h.depth; omega, by have := h.units; omega⟩
theorem AOk.in1 {n : Nat} {A : Around} (h : AOk (n + 1) A) : AOk n A.in1 := ⟨h.handled, by have := h.depth; show A.depth + n ≤ 900; omega, by have := h.units; show A.units + 1 + 10 * n ≤ 5000; omega⟩

/-- the end of a tree's run -/
noncomputable def Pst (prog : Program) (w : World) (s : Shared) (μ : Mu) (Q : QV) (v : Value) (s' : Shared) : Prop :=
  ∃ v' μ' h' tk, s' = { s with heap := h', toks := tk } ∧ er v = some v' ∧ HR prog w μ' h' ∧ Fm μ s.heap μ' h' ∧ Q v' μ'
noncomputable def PstU (prog : Program) (w : World) (s : Shared) (μ : Mu) (Q : Mu → Prop) (s' : Shared) : Prop :=
  ∃ μ' h' tk, s' = { s with heap := h', toks := tk } ∧ HR prog w μ' h' ∧ Fm μ s.heap μ' h' ∧ Q μ'

theorem Pst.elim {prog : Program} {w : World} {s : Shared} {μ : Mu} {Q : QV} {v : Value} {s' : Shared} {C : Shared → Prop} (h : Pst prog w s μ Q v s') (k : ∀ v' μ' h' tk, er v = some v' → HR prog w μ' h' → Fm μ s.heap μ' h' → Q v' μ' → C { s with heap := h', toks := tk }) : C s' := by
  obtain ⟨v', μ', h', tk, rfl, a, b, c, d⟩ := h; exact k v' μ' h' tk a b c d
theorem PstU.elim {prog : Program} {w : World} {s : Shared} {μ : Mu} {Q : Mu → Prop} {s' : Shared} {C : Shared → Prop} (h : PstU prog w s μ Q s') (k : ∀ μ' h' tk, HR prog w μ' h' → Fm μ s.heap μ' h' → Q μ' → C { s with heap := h', toks := tk }) : C s' := by
  obtain ⟨μ', h', tk, rfl, b, c, d⟩ := h; exact k μ' h' tk b c d
noncomputable abbrev Nv : Value → Shared → Prop := fun _ _ => False
theorem anyE {α : Type} {M : Model} {A : Around} {t : Sem α} {Q : α → Shared → Prop} {s : Shared} {E : Value → Shared → Prop} (h : wpAny M A t Q Nv s) : wpAny M A t Q E s :=
  wpAny_mono h (fun _ _ x => x) fun _ _ x => x.elim

section
variable {prog : Program} {w : World} {s : Shared} {μ : Mu} {Q : QV}
theorem Pst.trans {v : Value} {s'' : Shared} {μ' : Mu} {h' : Heap} {tk : Nat} (F : Fm μ s.heap μ' h') (x : Pst prog w { s with heap := h', toks := tk } μ' Q v s'') : Pst prog w s μ Q v s'' :=
  Pst.elim (C := fun s'' => Pst prog w s μ Q v s'') x fun v' μ'' h'' tk' hv hr F' q => ⟨v', μ'', h'', tk', rfl, hv, hr, F.trans F', q⟩
theorem Pst.mono {v : Value} {s' : Shared} {Q' : QV} (x : Pst prog w s μ Q v s') (h : ∀ v μ, Q v μ → Q' v μ) : Pst prog w s μ Q' v s' :=
  Pst.elim (C := fun s'' => Pst prog w s μ Q' v s'') x fun v' μ'' h'' tk' hv hr F' q => ⟨v', μ'', h'', tk', rfl, hv, hr, F', h _ _ q⟩
theorem Pst.here {v : Value} {v' : V} (hr : HR prog w μ s.heap) (hv : er v = some v') (q : Q v' μ) (tk : Nat) : Pst prog w s μ Q v { s with toks := tk } :=
  ⟨v', μ, s.heap, tk, rfl, hv, hr, Fm.refl _ _, q⟩
theorem PstU.trans {Q : Mu → Prop} {s'' : Shared} {μ' : Mu} {h' : Heap} {tk : Nat} (F : Fm μ s.heap μ' h') (x : PstU prog w { s with heap := h', toks := tk } μ' Q s'') : PstU prog w s μ Q s'' :=
  PstU.elim (C := fun s'' => PstU prog w s μ Q s'') x fun μ'' h'' tk' hr F' q => ⟨μ'', h'', tk', rfl, hr, F.trans F', q⟩
end

/-! a new object; an object changed -/
section
variable {prog : Program} {w : World} {μ : Mu} {h : Heap}
theorem fresh_none (h : Heap) (a : Nat) (ha : h.objs.size ≤ a) : h.get? a = Option.none := by
  cases e : h.get? a with
  | none => rfl
  | some o => exact absurd (Heap.lt_size e) (Nat.not_lt.mpr ha)
theorem OR.there {a : Nat} {o : O} (x : OR prog w μ h a o) : ∃ ob, h.get? a = some ob := by
  cases o with
  | list vs => obtain ⟨i, n, e, _⟩ := x; exact ⟨_, e⟩
  | tuple vs => obtain ⟨i, n, e, _⟩ := x; exact ⟨_, e⟩
  | dict es => obtain ⟨_, xs, ⟨o, _, _, e, _⟩, _⟩ := x; exact ⟨_, e⟩
  | ro vs => obtain ⟨i, ⟨o, e, _⟩, _⟩ := x; exact ⟨_, e⟩
theorem HR.fresh (R : HR prog w μ h) : μ h.objs.size = Option.none := by
  cases e : μ h.objs.size with
  | none => rfl
  | some o =>
    obtain ⟨ob, e'⟩ := (R _ _ e).there
    exact absurd (Heap.lt_size e') (Nat.lt_irrefl _)

theorem IsTupleKey.at {ks : List Int} {a : Nat} {h' : Heap} (x : (tk prog w).is h ks a) (k : ∀ o, h.get? a = some o → h'.get? a = some o) : (tk prog w).is h' ks a := by
  obtain ⟨o, items, n, ho, r⟩ := x
  exact ⟨o, items, n, k _ ho, r⟩

/-- an object that stands as it stood means what it meant -/
theorem OR.keep {μ' : Mu} {h' : Heap} {a : Nat} {o : O} (x : OR prog w μ h a o) (k : ∀ ob, h.get? a = some ob → h'.get? a = some ob)
    (kk : ∀ b ob vs, h.get? b = some ob → μ b = some (.tuple vs) → h'.get? b = some ob ∧ μ' b = μ b) : OR prog w μ' h' a o := by
  cases o with
  | list vs => obtain ⟨i, n, e, l⟩ := x; exact ⟨i, n, k _ e, l⟩
  | tuple vs => obtain ⟨i, n, e, l⟩ := x; exact ⟨i, n, k _ e, l⟩
  | ro vs => obtain ⟨i, ⟨o, e, r⟩, l⟩ := x; exact ⟨i, ⟨o, k _ e, r⟩, l⟩
  | dict es =>
    obtain ⟨hs, xs, ⟨o, des, ep, e, h1, h2, h3, h4, h5⟩, h6, h7⟩ := x
    refine ⟨hs, xs, ⟨o, des, ep, k _ e, h1, h2, h3, fun y hy => ?_, h5⟩, h6, fun y hy => ?_⟩
    · exact IsTupleKey.at (h4 y hy) fun ob ho => (kk _ _ _ ho (h7 y hy)).1
    · obtain ⟨ob, _, _, ho, _⟩ := h4 y hy
      exact (kk _ _ _ ho (h7 y hy)).2.trans (h7 y hy)

theorem upd_self (μ : Mu) (a : Nat) (o : O) : upd μ a o a = some o := by simp [upd]
theorem upd_ne (μ : Mu) {a b : Nat} (o : O) (h : b ≠ a) : upd μ a o b = μ b := by simp [upd, h]

theorem HR.push (R : HR prog w μ h) (ob : Obj) (o : O) (hO : ∀ μ', OR prog w μ' (h.push ob) h.objs.size o) : HR prog w (upd μ h.objs.size o) (h.push ob) := by
  intro a x hx
  by_cases ha : a = h.objs.size
  · subst ha
    rw [upd_self] at hx
    cases hx
    exact hO _
  · rw [upd_ne _ _ ha] at hx
    refine (R a x hx).keep (fun _ e => Heap.get?_push_of_some _ e) fun b q vs e m => ⟨Heap.get?_push_of_some _ e, ?_⟩
    exact upd_ne μ o (Nat.ne_of_lt (Heap.lt_size e))
theorem Fm.push (μ : Mu) (h : Heap) (ob : Obj) (o : O) : Fm μ h (upd μ h.objs.size o) (h.push ob) := fun b q e _ =>
  ⟨Heap.get?_push_of_some _ e, upd_ne _ _ (Nat.ne_of_lt (Heap.lt_size e))⟩
theorem Fm.pushGarbage (μ : Mu) (h : Heap) (ob : Obj) : Fm μ h μ (h.push ob) := fun _ _ e _ => ⟨Heap.get?_push_of_some _ e, rfl⟩
theorem Fm.ext {μ : Mu} {h h' : Heap} (k : ∀ b o, h.get? b = some o → h'.get? b = some o) : Fm μ h μ h' := fun _ _ e _ => ⟨k _ _ e, rfl⟩
theorem HR.ext {h' : Heap} (R : HR prog w μ h) (k : ∀ b o, h.get? b = some o → h'.get? b = some o) : HR prog w μ h' := fun a o e =>
  (R a o e).keep (fun _ e => k _ _ e) fun _ _ _ e _ => ⟨k _ _ e, rfl⟩
theorem HR.but {h' : Heap} {I : Nat} (R : HR prog w μ h) (hI : μ I = Option.none) (k : ∀ b o, b ≠ I → h.get? b = some o → h'.get? b = some o) : HR prog w μ h' := fun a o e =>
  (R a o e).keep (fun _ e' => k _ _ (fun q => by rw [q, hI] at e; cases e) e') fun _ _ _ e' m => ⟨k _ _ (fun q => by rw [q, hI] at m; cases m) e', rfl⟩

theorem HR.change (R : HR prog w μ h) {h' : Heap} {a : Nat} {o o' : O} (ha : μ a = some o) (hm : o.mutable = true) (hs : Heap.SameBut a h h')
    (hO : (∀ b ob vs, h.get? b = some ob → μ b = some (.tuple vs) → h'.get? b = some ob ∧ upd μ a o' b = μ b) → OR prog w (upd μ a o') h' a o') : HR prog w (upd μ a o') h' := by
  have kk : ∀ b ob vs, h.get? b = some ob → μ b = some (.tuple vs) → h'.get? b = some ob ∧ upd μ a o' b = μ b := fun b ob vs e m => by
    have hb : b ≠ a := fun q => by subst q; rw [ha] at m; cases m; cases hm
    exact ⟨(hs.2 b hb).trans e, upd_ne μ o' hb⟩
  intro b x hx
  by_cases hb : b = a
  · subst hb
    rw [upd_self] at hx
    cases hx
    exact hO kk
  · rw [upd_ne _ _ hb] at hx
    exact (R b x hx).keep (fun _ e => (hs.2 b hb).trans e) kk
theorem Fm.change {a : Nat} {o o' : O} {h' : Heap} (ha : μ a = some o) (hm : o.mutable = true) (hs : Heap.SameBut a h h') : Fm μ h (upd μ a o') h' := fun b ob e m => by
  have hb : b ≠ a := fun q => by subst q; unfold mutb at m; rw [ha] at m; exact absurd ((show o.mutable = false from m).symm.trans hm) (by decide)
  exact ⟨(hs.2 b hb).trans e, upd_ne _ _ hb⟩
end

end Mine

end PartML1

section PartML2
open PySem PySem.W PyProof.Rows
set_option linter.unusedVariables false
set_option maxRecDepth 100000
namespace Mine

noncomputable def opOf : Op → Operator
  | .add => .Add | .sub => .Sub | .mul => .Mult | .fdiv => .FloorDiv | .mod => .Mod | .pow => .Pow

theorem tupMul (t : Addr) (items : Array Value) (n : Nat) (x : Int) (u : Tok) (h1 : 2 ≤ x) (h2 : x ≤ 100) (h3 : items.size = 1) :
    Meets (Builtin.«tuple.__mul__» ⟨[.ref t, .int x u], []⟩) (fun _ R s => s.heap.get? t = some (tupO items n) ∧
      R (.ok (.ret (Value.ref s.heap.objs.size))) { s with heap := s.heap.push { cls := Value.type "tuple", data := Data.seq (List.foldl (fun x1 x2 => x1 ++ x2) #[] (List.replicate x.toNat items)) }, toks := s.toks }) :=
  .of_wp fun prog w A R s h => by
    obtain ⟨hp, g, d, tk, os⟩ := s; obtain ⟨hl, h⟩ := h
    have f1 := AutoSeq1.idx_int
    have e0 : items.isEmpty = false := by simp [Array.isEmpty, h3]
    have e1 : (decide (x < -(2 ^ 63)) || decide (x ≥ 2 ^ 63)) = false := by simp; omega
    have e2 : (items.isEmpty || x == 1) = false := by simp [e0]; omega
    have e3 : (decide (x ≤ 0) || items.isEmpty) = false := by simp [e0]; omega
    have hsz : ((List.replicate x.toNat items).foldl (· ++ ·) #[]).size ≤ sizeLine := by
      have := listMul_foldl_if items x.toNat
      rw [e0] at this
      simp only [Bool.false_eq_true, if_false] at this
      rw [this]
      simp only [List.size_toArray, List.length_flatten, List.map_replicate, List.sum_replicate_nat, Array.length_toList, h3, sizeLine_eq]
      omega
    wp_walk
    rw [e1]
    wp_walk
    rw [e2]
    wp_walk
    rw [e3]
    wp_walk
    refine wpAny_ite_false (decide_eq_false (by rw [h3]; omega)) ?_
    wp_walk
    refine wpAny_ite_false (by simp [Builtin.Tuple.tupleTooMany, h3, sizeLine_eq]; omega) ?_
    refine wpAny_bind ?_
    unfold Builtin.Tuple.tupleExact
    exact wpAny_newObj_type (wpAny_pure ⟨_, rfl, h⟩) hsz

theorem tupMul1 (t : Addr) (items : Array Value) (n : Nat) (u : Tok) :
    Meets (Builtin.«tuple.__mul__» ⟨[.ref t, .int 1 u], []⟩) (fun _ R s => s.heap.get? t = some (tupO items n) ∧ R (.ok (.ret (Value.ref t))) s) :=
  .of_wp fun prog w A R s h => by
    obtain ⟨hp, g, d, tk, os⟩ := s; obtain ⟨hl, h⟩ := h
    have f1 := AutoSeq1.idx_int
    have e2 : (items.isEmpty || (1 : Int) == 1) = true := by simp
    wp_walk
    exact ⟨_, rfl, h⟩

theorem noFill_tuple_mul : fillsNumberSlot (.type "tuple") "mul" = pure false :=
  PySem.fillsNumberSlot_seq (id := "tuple.__mul__") (r := some (.builtin "tuple.__rmul__")) F.slot_tuple_mul.lookup (by decide +kernel) F.slot_tuple_rmul.lookup (by decide +kernel)
theorem repeat_tuple : seqRepeat? (.type "tuple") = pure (some (.builtin "tuple.__mul__")) := by
  unfold seqRepeat?
  rw [PySem.seqSlot_of (T := "tuple") (name := "__mul__") (id := "tuple.__mul__") F.slot_tuple_mul.lookup (by decide +kernel), PySem.seqSlot_of (T := "tuple") (name := "__rmul__") (id := "tuple.__rmul__") F.slot_tuple_rmul.lookup (by decide +kernel)]
  rfl
theorem int_rmul_tuple (a : Int) (t : Tok) (l : Addr) (items : Array Value) (n : Nat) :
    Meets (Builtin.«int.__rmul__» ⟨[.int a t, .ref l], []⟩) (fun _ R s => s.heap.get? l = some (tupO items n) ∧ R (.ok (.ret Value.notImplemented)) s) :=
  .of_wp fun prog w A R s h => by obtain ⟨hp, g, d, tk, os⟩ := s; obtain ⟨hl, h⟩ := h; wp_walk; exact ⟨_, rfl, h⟩

theorem flat_one {w : Value} (items : Array Value) (h : items.toList = [w]) (k : Nat) : List.foldl (fun x1 x2 => x1 ++ x2) #[] (List.replicate k items) = (List.replicate k w).toArray := by
  have e := listMul_foldl_if items k
  have e0 : items.isEmpty = false := by
    rw [← Array.isEmpty_toList, h]; rfl
  rw [e0] at e
  simp only [Bool.false_eq_true, if_false] at e
  rw [e, h]
  congr 1
  clear e
  induction k with
  | zero => rfl
  | succ k ih => rw [List.replicate_succ, List.flatten_cons, ih, List.replicate_succ]; rfl

section
variable {prog : Program} {w : World} {A : Around} {s : Shared} {μ : Mu} {Q : QV}

/-- a new list or tuple -/
theorem pst_list {items : Array Value} {vs : List V} (R : HR prog w μ s.heap) (hl : LR vs items.toList) (h : ∀ c, μ c = Option.none → Q (.ref c) (upd μ c (.list vs))) (tk : Nat) :
    Pst prog w s μ Q (.ref s.heap.objs.size) { s with heap := s.heap.push { cls := .type "list", data := .seq items }, toks := tk } :=
  ⟨.ref s.heap.objs.size, _, _, tk, rfl, rfl, HR.push R _ (.list vs) fun _ => ⟨items, 0, Heap.get?_push_size _ rfl, hl⟩, Fm.push _ _ _ _, h _ (HR.fresh R)⟩
theorem pst_tuple {items : Array Value} {vs : List V} (R : HR prog w μ s.heap) (hl : LR vs items.toList) (h : ∀ c, μ c = Option.none → Q (.ref c) (upd μ c (.tuple vs))) (tk : Nat) :
    Pst prog w s μ Q (.ref s.heap.objs.size) { s with heap := s.heap.push { cls := .type "tuple", data := .seq items }, toks := tk } :=
  ⟨.ref s.heap.objs.size, _, _, tk, rfl, rfl, HR.push R _ (.tuple vs) fun _ => ⟨items, 0, Heap.get?_push_size _ rfl, hl⟩, Fm.push _ _ _ _, h _ (HR.fresh R)⟩

theorem mulList {x : Nat} {k : Int} {u : Tok} {v : V} (R : HR prog w μ s.heap) (h0 : 0 ≤ k) (h1 : k ≤ 100) (hx : μ x = some (.list [v]))
    (h : ∀ c, μ c = Option.none → Q (.ref c) (upd μ c (.list (List.replicate k.toNat v)))) :
    wpAny (model prog w) A (binaryOp .Mult (.ref x) (.int k u)) (Pst prog w s μ Q) Nv s := by
  obtain ⟨items, n, ho, hl⟩ := R x _ hx
  obtain ⟨w', r, e, hw, hr⟩ := LR.cons_inv hl
  have hr' := LR.nil_inv hr; subst hr'
  have hsz : items.size = 1 := by rw [← Array.length_toList, e]; rfl
  refine wpAny_binaryOp_repeat_ref (T := "list") (U := "int") (by decide) ⟨_, ho, rfl⟩ (fun s' => typeIs_int s' k u) noFill_list_mul F.fills_int_mul F.slot_int_rmul repeat_list F.slot_int_index.lookup
    (call_meets F.slot_int_rmul (typeIs_int s k u) F.entry_int_rmul (F.args_int_rmul_2 _ _) (lm_int_rmul_list_any k u x items n Option.none #[])
      ⟨ho, rfl, ⟨_, ho, rfl⟩, call_meets F.slot_list_mul ⟨_, ho, rfl⟩ F.entry_list_mul (F.args_list_mul_2 _ _)
        (lm_list_mul_any x items n Option.none #[] k u (by simp [Builtin.List.listFitsIndex]; omega) (by rw [hsz]; omega) (by rw [hsz]; simp [Builtin.List.listTooLong, sizeLine]; omega))
        ⟨ho, ?_⟩⟩)
  have e0 : items.isEmpty = false := by rw [← Array.isEmpty_toList, e]; rfl
  simp only [e0, Bool.false_eq_true, if_false]
  rw [flat_one items e]
  exact pst_list (tk := s.toks) R (by rw [List.toList_toArray]; exact LR.replicate hw _) h

theorem mulTuple {x : Nat} {k : Int} {u : Tok} {v : V} (R : HR prog w μ s.heap) (h0 : 2 ≤ k) (h1 : k ≤ 100) (hx : μ x = some (.tuple [v]))
    (h : ∀ c, μ c = Option.none → Q (.ref c) (upd μ c (.tuple (List.replicate k.toNat v)))) :
    wpAny (model prog w) A (binaryOp .Mult (.ref x) (.int k u)) (Pst prog w s μ Q) Nv s := by
  obtain ⟨items, n, ho, hl⟩ := R x _ hx
  obtain ⟨w', r, e, hw, hr⟩ := LR.cons_inv hl
  have hr' := LR.nil_inv hr; subst hr'
  have hsz : items.size = 1 := by rw [← Array.length_toList, e]; rfl
  refine wpAny_binaryOp_repeat_ref (T := "tuple") (U := "int") (by decide) ⟨_, ho, rfl⟩ (fun s' => typeIs_int s' k u) noFill_tuple_mul F.fills_int_mul F.slot_int_rmul repeat_tuple F.slot_int_index.lookup
    (call_meets F.slot_int_rmul (typeIs_int s k u) F.entry_int_rmul (F.args_int_rmul_2 _ _) (int_rmul_tuple k u x items n)
      ⟨ho, rfl, ⟨_, ho, rfl⟩, call_meets F.slot_tuple_mul ⟨_, ho, rfl⟩ F.entry_tuple_mul (F.args_tuple_mul_2 _ _) (tupMul x items n k u h0 h1 hsz) ⟨ho, ?_⟩⟩)
  rw [flat_one items e]
  exact pst_tuple (tk := s.toks) R (by rw [List.toList_toArray]; exact LR.replicate hw _) h

theorem mulTuple1 {x : Nat} {u : Tok} {v : V} (R : HR prog w μ s.heap) (hx : μ x = some (.tuple [v])) (h : Q (.ref x) μ) :
    wpAny (model prog w) A (binaryOp .Mult (.ref x) (.int 1 u)) (Pst prog w s μ Q) Nv s := by
  obtain ⟨items, n, ho, hl⟩ := R x _ hx
  refine wpAny_binaryOp_repeat_ref (T := "tuple") (U := "int") (by decide) ⟨_, ho, rfl⟩ (fun s' => typeIs_int s' 1 u) noFill_tuple_mul F.fills_int_mul F.slot_int_rmul repeat_tuple F.slot_int_index.lookup
    (call_meets F.slot_int_rmul (typeIs_int s 1 u) F.entry_int_rmul (F.args_int_rmul_2 _ _) (int_rmul_tuple 1 u x items n)
      ⟨ho, rfl, ⟨_, ho, rfl⟩, call_meets F.slot_tuple_mul ⟨_, ho, rfl⟩ F.entry_tuple_mul (F.args_tuple_mul_2 _ _) (tupMul1 x items n u) ⟨ho, ?_⟩⟩)
  exact Pst.here (tk := s.toks) R rfl h

theorem powInt {x k : Int} {t u : Tok} (R : HR prog w μ s.heap) (h0 : 0 ≤ k) (h1 : k ≤ 3) (hx : 2 ≤ x) (hx' : x ≤ 100) (h : Q (.int (x ^ k.toNat)) μ) :
    wpAny (model prog w) A (binaryOp .Pow (.int x t) (.int k u)) (Pst prog w s μ Q) Nv s := by
  by_cases hk : k = 0
  · subst hk
    refine AutoIntOps.pow_0 (by decide) (by decide) ?_
    exact Pst.here R rfl (by simpa using h) _
  · refine AutoIntOps.pow_4 (by first | assumption | exact Nat.le_of_lt (by assumption) | exact Nat.lt_of_lt_of_le (by assumption) (by assumption) | exact Nat.lt_of_le_of_lt (by assumption) (by assumption) | exact Nat.le_trans (by assumption) (by decide) | exact Nat.lt_of_le_of_lt (by assumption) (by decide) | exact Nat.lt_of_lt_of_le (by assumption) (Nat.le_trans (by assumption) (by decide)) | exact Nat.ne_of_gt (by assumption) | exact Nat.ne_of_lt (by assumption) | omega) (by simpa using hk) (by simp; omega) (by simp; omega) ?_ (Pst.here R rfl h _)
    have hb : Builtin.Int.intBits x ≤ 64 := intBits_le_64 (by first | assumption | exact Nat.le_of_lt (by assumption) | exact Nat.lt_of_lt_of_le (by assumption) (by assumption) | exact Nat.lt_of_le_of_lt (by assumption) (by assumption) | exact Nat.le_trans (by assumption) (by decide) | exact Nat.lt_of_le_of_lt (by assumption) (by decide) | exact Nat.lt_of_lt_of_le (by assumption) (Nat.le_trans (by assumption) (by decide)) | exact Nat.ne_of_gt (by assumption) | exact Nat.ne_of_lt (by assumption) | omega) (by first | assumption | exact Nat.le_of_lt (by assumption) | exact Nat.lt_of_lt_of_le (by assumption) (by assumption) | exact Nat.lt_of_le_of_lt (by assumption) (by assumption) | exact Nat.le_trans (by assumption) (by decide) | exact Nat.lt_of_le_of_lt (by assumption) (by decide) | exact Nat.lt_of_lt_of_le (by assumption) (Nat.le_trans (by assumption) (by decide)) | exact Nat.ne_of_gt (by assumption) | exact Nat.ne_of_lt (by assumption) | omega)
    have : ((Builtin.Int.intBits x : Nat) : Int) * k ≤ 64 * 3 := Int.mul_le_mul (by first | assumption | exact Nat.le_of_lt (by assumption) | exact Nat.lt_of_lt_of_le (by assumption) (by assumption) | exact Nat.lt_of_le_of_lt (by assumption) (by assumption) | exact Nat.le_trans (by assumption) (by decide) | exact Nat.lt_of_le_of_lt (by assumption) (by decide) | exact Nat.lt_of_lt_of_le (by assumption) (Nat.le_trans (by assumption) (by decide)) | exact Nat.ne_of_gt (by assumption) | exact Nat.ne_of_lt (by assumption) | omega) h1 h0 (by decide)
    simp only [Builtin.Int.intTooBig, bitsLine_eq, decide_eq_true_eq]
    omega

theorem noPylong64 {x y : Int} (h : y.natAbs < 2 ^ 64) : Builtin.divisionGoesByPylong x y = false := by
  refine PyProof.noPylong_of_log2 ?_
  by_cases h0 : y.natAbs = 0
  · rw [h0]; decide
  · have := (Nat.log2_lt h0).mpr h
    omega

theorem binP_ok {op : Op} {x y : V} {v v' : Value} (R : HR prog w μ s.heap) (hx : er v = some x) (hy : er v' = some y) (h : binP op x y μ Q) :
    wpAny (model prog w) A (binaryOp (opOf op) v v') (Pst prog w s μ Q) Nv s := by
  cases op with
  | add =>
    refine sel_elim h (fun i j e1 e2 h => ?_) (fun a b e1 e2 h => ?_) (fun _ _ _ _ h => h.elim)
    · subst e1; subst e2; obtain ⟨t, rfl⟩ := er_int hx; obtain ⟨u, rfl⟩ := er_int hy
      exact PySem.P.add_int (Pst.here R rfl h _)
    · subst e1; subst e2; rw [er_ref hx, er_ref hy]
      obtain ⟨xs, ys, e1, e2, hz, h⟩ := h
      obtain ⟨i1, n1, o1, l1⟩ := R _ _ e1
      obtain ⟨i2, n2, o2, l2⟩ := R _ _ e2
      refine PySem.P.add_list o1 o2 (pst_list (tk := s.toks) R (by rw [Array.toList_append]; exact l1.append l2) h) ?_
      have a := l1.length; have b := l2.length
      simp only [Array.length_toList] at a b
      omega
  | sub =>
    refine sel_elim h (fun i j e1 e2 h => ?_) (fun _ _ _ _ h => h.elim) (fun _ _ _ _ h => h.elim)
    subst e1; subst e2; obtain ⟨t, rfl⟩ := er_int hx; obtain ⟨u, rfl⟩ := er_int hy
    exact PySem.P.sub_int (Pst.here R rfl h _)
  | mul =>
    refine sel_elim h (fun i j e1 e2 h => ?_) (fun _ _ _ _ h => h.elim) (fun a k e1 e2 h => ?_)
    · subst e1; subst e2; obtain ⟨t, rfl⟩ := er_int hx; obtain ⟨u, rfl⟩ := er_int hy
      exact PySem.P.mul_int (Pst.here R rfl h.2 _) h.1
    · subst e1; subst e2; rw [er_ref hx]; obtain ⟨u, rfl⟩ := er_int hy
      obtain ⟨v, h0, h1, g⟩ := h
      rcases g with ⟨e, g⟩ | ⟨e, h2, g⟩ | ⟨e, rfl, g⟩
      · exact mulList R h0 h1 e g
      · exact mulTuple R h2 h1 e g
      · exact mulTuple1 R e g
  | fdiv =>
    refine sel_elim h (fun i j e1 e2 h => ?_) (fun _ _ _ _ h => h.elim) (fun _ _ _ _ h => h.elim)
    subst e1; subst e2; obtain ⟨t, rfl⟩ := er_int hx; obtain ⟨u, rfl⟩ := er_int hy
    exact floordiv_int h.1 (Pst.here R rfl h.2.2 _) (.inl (noPylong64 h.2.1))
  | mod =>
    refine sel_elim h (fun i j e1 e2 h => ?_) (fun _ _ _ _ h => h.elim) (fun _ _ _ _ h => h.elim)
    subst e1; subst e2; obtain ⟨t, rfl⟩ := er_int hx; obtain ⟨u, rfl⟩ := er_int hy
    exact mod_int h.1 (Pst.here R rfl h.2 _)
  | pow =>
    refine sel_elim h (fun i j e1 e2 h => ?_) (fun _ _ _ _ h => h.elim) (fun _ _ _ _ h => h.elim)
    subst e1; subst e2; obtain ⟨t, rfl⟩ := er_int hx; obtain ⟨u, rfl⟩ := er_int hy
    obtain ⟨h0, h1, h2, h3, h⟩ := h
    exact powInt R h0 h1 h2 h3 h
end

theorem beq_dec (a b : Int) : (a == b) = decide (a = b) := by by_cases q : a = b <;> simp [q]
theorem bne_dec (a b : Int) : (a != b) = decide (a ≠ b) := by by_cases q : a = b <;> simp [q]
noncomputable def cmOf : Cm → CmpOp
  | .eq => .Eq | .ne => .NotEq | .lt => .Lt | .gt => .Gt | .isNone => .Is | .isNotNone => .IsNot

section
variable {prog : Program} {w : World} {A : Around} {s : Shared} {μ : Mu}
theorem isNone_ok {x : V} {v : Value} (hx : er v = some x) {Q : Value → Shared → Prop} (h : Q (.bool (decide (x = .none))) s) : wpAny (model prog w) A (compareOp .Is v .none) Q Nv s := by
  cases x with
  | none => rw [er_none hx]; exact wpAny_is_self rfl (by simpa using h)
  | bool b => rw [er_bool hx]; exact wpAny_is_other rfl (by simp) (by simpa using h)
  | int i => obtain ⟨t, rfl⟩ := er_int hx; exact wpAny_is_other rfl (by simp) (by simpa using h)
  | ref a => rw [er_ref hx]; exact wpAny_is_other rfl (by simp) (by simpa using h)
theorem isNotNone_ok {x : V} {v : Value} (hx : er v = some x) {Q : Value → Shared → Prop} (h : Q (.bool (decide (x ≠ .none))) s) : wpAny (model prog w) A (compareOp .IsNot v .none) Q Nv s := by
  cases x with
  | none => rw [er_none hx]; exact wpAny_isNot_self rfl (by simpa using h)
  | bool b => rw [er_bool hx]; exact wpAny_isNot_other rfl (by simp) (by simpa using h)
  | int i => obtain ⟨t, rfl⟩ := er_int hx; exact wpAny_isNot_other rfl (by simp) (by simpa using h)
  | ref a => rw [er_ref hx]; exact wpAny_isNot_other rfl (by simp) (by simpa using h)

theorem cmpP_ok {op : Cm} {x y : V} {v v' : Value} {P : Bool → Prop} (hA : A.units + 64 < cLine) (R : HR prog w μ s.heap) (hx : er v = some x) (hy : er v' = some y) (h : cmpP op x y μ P) :
    wpAny (model prog w) A (compareOp (cmOf op) v v') (fun r s' => s' = s ∧ ∃ b, r = .bool b ∧ P b) Nv s := by
  cases op with
  | eq =>
    refine sel_elim h (fun i j e1 e2 h => ?_) (fun a b e1 e2 h => ?_) (fun _ _ _ _ h => h.elim)
    · subst e1; subst e2; obtain ⟨t, rfl⟩ := er_int hx; obtain ⟨u, rfl⟩ := er_int hy
      exact PySem.P.eq_int ⟨rfl, _, rfl, by rw [beq_dec]; exact h⟩
    · subst e1; subst e2; rw [er_ref hx, er_ref hy]
      obtain ⟨ns, e1, e2, h⟩ := h
      obtain ⟨i1, n1, o1, l1⟩ := R _ _ e1
      obtain ⟨i2, n2, o2, l2⟩ := R _ _ e2
      refine eq_intsK (vs := i1.toList) (us := i2.toList) (ns := ns) (ms := []) (PySem.IsL.isList (n := n1) o1) l1.ints (PySem.IsL.isList (n := n2) o2) (by rw [LR.nil_inv l2]; exact .nil) hA ⟨rfl, _, rfl, ?_⟩
      have : decide (ns = []) = ns.isEmpty := by cases ns <;> simp
      rw [this]; exact h
  | ne =>
    refine sel_elim h (fun i j e1 e2 h => ?_) (fun a b e1 e2 h => ?_) (fun _ _ _ _ h => h.elim)
    · subst e1; subst e2; obtain ⟨t, rfl⟩ := er_int hx; obtain ⟨u, rfl⟩ := er_int hy
      exact PySem.P.ne_int ⟨rfl, _, rfl, by rw [bne_dec]; exact h⟩
    · subst e1; subst e2; rw [er_ref hx, er_ref hy]
      obtain ⟨ns, e1, e2, h⟩ := h
      obtain ⟨i1, n1, o1, l1⟩ := R _ _ e1
      obtain ⟨i2, n2, o2, l2⟩ := R _ _ e2
      refine ne_intsK (vs := i1.toList) (us := i2.toList) (ns := ns) (ms := []) (PySem.IsL.isList (n := n1) o1) l1.ints (PySem.IsL.isList (n := n2) o2) (by rw [LR.nil_inv l2]; exact .nil) hA ⟨rfl, _, rfl, ?_⟩
      have : decide (ns = []) = ns.isEmpty := by cases ns <;> simp
      rw [this]; exact h
  | lt =>
    refine sel_elim h (fun i j e1 e2 h => ?_) (fun _ _ _ _ h => h.elim) (fun _ _ _ _ h => h.elim)
    subst e1; subst e2; obtain ⟨t, rfl⟩ := er_int hx; obtain ⟨u, rfl⟩ := er_int hy
    exact PySem.P.lt_int ⟨rfl, _, rfl, h⟩
  | gt =>
    refine sel_elim h (fun i j e1 e2 h => ?_) (fun _ _ _ _ h => h.elim) (fun _ _ _ _ h => h.elim)
    subst e1; subst e2; obtain ⟨t, rfl⟩ := er_int hx; obtain ⟨u, rfl⟩ := er_int hy
    exact PySem.P.gt_int ⟨rfl, _, rfl, h⟩
  | isNone => obtain ⟨rfl, h⟩ := isN_elim h; rw [er_none hy]; exact isNone_ok hx ⟨rfl, _, rfl, h⟩
  | isNotNone => obtain ⟨rfl, h⟩ := isN_elim h; rw [er_none hy]; exact isNotNone_ok hx ⟨rfl, _, rfl, h⟩
end

end Mine

end PartML2

section PartML3
open PySem PySem.W PyProof.Rows
set_option linter.unusedVariables false
set_option maxRecDepth 100000
namespace Mine

section
variable {prog : Program} {w : World} {A : Around} {s : Shared} {μ : Mu} {Q : QV}

theorem LR.size {vs : List V} {items : Array Value} (h : LR vs items.toList) : items.size = vs.length := by
  have := h.length; simpa using this
theorem LR.getA {vs : List V} {items : Array Value} (h : LR vs items.toList) {i : Nat} {v : V} (hv : vs[i]? = some v) : ∃ w, items[i]? = some w ∧ er w = some v := by
  have := h.get hv; simpa using this

theorem tupKey {a : Nat} {ks : List Int} {h : Heap} (x : OR prog w μ h a (.tuple (ks.map V.int))) : (tk prog w).is h ks a := by
  obtain ⟨items, n, ho, hl⟩ := x
  refine ⟨_, items, n, ho, rfl, rfl, ?_⟩
  have := hl.ints
  clear hl ho
  revert this
  generalize items.toList = ws
  intro hi
  induction hi with
  | nil => exact .nil
  | cons i t _ ih => exact .cons (intKind_is prog w i t) ih

theorem pst_dict_lookup {xs : List (List Int × Addr × Value)} {es : List (List Int × Int)} (h : (xs.map fun x => (x.1, er x.2.2)) = es.map (fun e => (e.1, some (V.int e.2)))) (k : List Int) :
    (∃ p i, atKey xs k = some p ∧ er p.2 = some (V.int i) ∧ lookupL es k = some i) ∨ (atKey xs k = none ∧ lookupL es k = none) := by
  induction xs generalizing es with
  | nil =>
    cases es with
    | nil => right; exact ⟨rfl, rfl⟩
    | cons e r => cases h
  | cons x r ih =>
    cases es with
    | nil => cases h
    | cons e r' =>
      simp only [List.map_cons, List.cons.injEq, Prod.mk.injEq] at h
      obtain ⟨⟨h1, h2⟩, h3⟩ := h
      by_cases hk : x.1 = k
      · left
        refine ⟨x.2, e.2, ?_, h2, ?_⟩
        · simp [atKey, List.find?_cons, hk]
        · simp [lookupL, List.find?_cons, ← h1, hk]
      · have hk' : ¬ e.1 = k := fun q => hk (h1.trans q)
        have e1 : atKey (x :: r) k = atKey r k := by simp [atKey, List.find?_cons, hk]
        have e2 : lookupL (e :: r') k = lookupL r' k := by simp [lookupL, List.find?_cons, hk']
        rw [e1, e2]
        exact ih h3

theorem subP_ok {value slice : PySem.Expr} {x y : V} {v v' : Value} (hA : A.units + 1 < cLine) (R : HR prog w μ s.heap) (hx : er v = some x) (hy : er v' = some y)
    (hs : ∀ o i, subscripted slice false o i = operate [o, i] (getItem o i)) (h : subP x y μ Q) :
    wpAny (model prog w) A (subscriptTail value slice v v') (Pst prog w s μ Q) Nv s := by
  refine sel_elim h (fun _ _ _ _ h => h.elim) (fun d t q1 q2 h => ?_) (fun a k q1 q2 h => ?_)
  rotate_left
  · subst q1; subst q2; rw [er_ref hx]; obtain ⟨u, rfl⟩ := er_int hy
    obtain ⟨o, vs, z, e, ev, h0, h1, hz, h⟩ := h
    cases o with
    | dict es => cases ev
    | ro _ => cases ev
    | list _ =>
      cases ev
      obtain ⟨items, n, ho, hl⟩ := R _ _ e
      obtain ⟨z', hz', ez⟩ := hl.getA hz
      have il := PySem.IsL.isList (n := n) ho
      exact tail_any il.typeIs slot_list_getitem.lookup (wpAny_getItem_list il h0 (by first | assumption | exact Nat.le_of_lt (by assumption) | exact Nat.lt_of_lt_of_le (by assumption) (by assumption) | exact Nat.lt_of_le_of_lt (by assumption) (by assumption) | exact Nat.le_trans (by assumption) (by decide) | exact Nat.lt_of_le_of_lt (by assumption) (by decide) | exact Nat.lt_of_lt_of_le (by assumption) (Nat.le_trans (by assumption) (by decide)) | exact Nat.ne_of_gt (by assumption) | exact Nat.ne_of_lt (by assumption) | omega) hz' (Pst.here (tk := s.toks) R ez h)) (hs _ _)
    | tuple _ =>
      cases ev
      obtain ⟨items, n, ho, hl⟩ := R _ _ e
      obtain ⟨z', hz', ez⟩ := hl.getA hz
      have hlt : k.toNat < items.size := by
        obtain ⟨q, _⟩ := Array.getElem?_eq_some_iff.mp hz'
        exact q
      have it : IsTup s.heap _ items := ⟨_, ho, rfl, n, rfl⟩
      have hj : seqIndex? k items.size = some k.toNat := by
        unfold seqIndex?
        have h0' : ¬ k < 0 := by first | assumption | exact Nat.le_of_lt (by assumption) | exact Nat.lt_of_lt_of_le (by assumption) (by assumption) | exact Nat.lt_of_le_of_lt (by assumption) (by assumption) | exact Nat.le_trans (by assumption) (by decide) | exact Nat.lt_of_le_of_lt (by assumption) (by decide) | exact Nat.lt_of_lt_of_le (by assumption) (Nat.le_trans (by assumption) (by decide)) | exact Nat.ne_of_gt (by assumption) | exact Nat.ne_of_lt (by assumption) | omega
        have h1' : k < (items.size : Int) := by first | assumption | exact Nat.le_of_lt (by assumption) | exact Nat.lt_of_lt_of_le (by assumption) (by assumption) | exact Nat.lt_of_le_of_lt (by assumption) (by assumption) | exact Nat.le_trans (by assumption) (by decide) | exact Nat.lt_of_le_of_lt (by assumption) (by decide) | exact Nat.lt_of_lt_of_le (by assumption) (Nat.le_trans (by assumption) (by decide)) | exact Nat.ne_of_gt (by assumption) | exact Nat.ne_of_lt (by assumption) | omega
        simp only [h0', if_false, h0, h1', decide_true, Bool.and_self, if_true]
      exact tail_any it.typeIs slot_tuple_getitem.lookup (getItem_tuple it (by first | assumption | exact Nat.le_of_lt (by assumption) | exact Nat.lt_of_lt_of_le (by assumption) (by assumption) | exact Nat.lt_of_le_of_lt (by assumption) (by assumption) | exact Nat.le_trans (by assumption) (by decide) | exact Nat.lt_of_le_of_lt (by assumption) (by decide) | exact Nat.lt_of_lt_of_le (by assumption) (Nat.le_trans (by assumption) (by decide)) | exact Nat.ne_of_gt (by assumption) | exact Nat.ne_of_lt (by assumption) | omega) (by first | assumption | exact Nat.le_of_lt (by assumption) | exact Nat.lt_of_lt_of_le (by assumption) (by assumption) | exact Nat.lt_of_le_of_lt (by assumption) (by assumption) | exact Nat.le_trans (by assumption) (by decide) | exact Nat.lt_of_le_of_lt (by assumption) (by decide) | exact Nat.lt_of_lt_of_le (by assumption) (Nat.le_trans (by assumption) (by decide)) | exact Nat.ne_of_gt (by assumption) | exact Nat.ne_of_lt (by assumption) | omega) hj hz' (Pst.here (tk := s.toks) R ez h)) (hs _ _)
  · subst q1; subst q2; rw [er_ref hx, er_ref hy]
    obtain ⟨es, ks, i, e1, e2, e3, h⟩ := h
    obtain ⟨hd, xs, hm, hxs, hmu⟩ := R _ _ e1
    have hk := tupKey (R _ _ e2)
    rcases pst_dict_lookup hxs ks with ⟨p, j, a1, a2, a3⟩ | ⟨_, a3⟩
    · rw [e3] at a3; cases a3
      exact tail_any hm.typeIs slot_dict_getitem.lookup (wpAny_getItem_heap hA hk hm a1 (Pst.here R a2 h _)) (hs _ _)
    · rw [e3] at a3; cases a3

theorem setItem_plain {l : Addr} {items : Array Value} {n : Nat} {k : Int} {t : Tok} {v : Value} {Q : Unit → Shared → Prop} (ho : s.heap.get? l = some (listO items n)) (h0 : 0 ≤ k) (hfit : k < 2 ^ 63) (hn : k < items.size)
    (hQ : ∀ h' n', h'.get? l = some (listO (items.setIfInBounds k.toNat v) n') → Heap.SameBut l s.heap h' → Q () { s with heap := h' }) : wpAny (model prog w) A (setItem (.ref l) (.int k t) v) Q Nv s := by
  refine ki_setAt ho h0 hfit hn (hQ _ (if (items.setIfInBounds k.toNat v).size == items.size then n else n + 1) ?_ (Heap.SameBut.update ..))
  exact PySem.IsL.update (n := n) ho (·.setIfInBounds k.toNat v)

theorem stored_rel {xs : List (List Int × Addr × Value)} {es : List (List Int × Int)} (h : (xs.map fun x => (x.1, er x.2.2)) = es.map (fun e => (e.1, some (V.int e.2)))) (k : List Int) (a : Addr) (i : Int) (t : Tok) :
    ((storedH xs k a (.int i t)).map fun x => (x.1, er x.2.2)) = (storeL es k i).map (fun e => (e.1, some (V.int e.2))) := by
  have upd : ∀ {xs : List (List Int × Addr × Value)} {es : List (List Int × Int)}, (xs.map fun x => (x.1, er x.2.2)) = es.map (fun e => (e.1, some (V.int e.2))) →
      ((xs.map (putAt k (.int i t))).map fun x => (x.1, er x.2.2)) = (es.map fun e => if e.1 = k then (e.1, i) else e).map (fun e => (e.1, some (V.int e.2))) := by
    intro xs
    induction xs with
    | nil => intro es h; cases es with
      | nil => rfl
      | cons e r => cases h
    | cons x r ih => intro es h; cases es with
      | nil => cases h
      | cons e r' =>
        simp only [List.map_cons, List.cons.injEq, Prod.mk.injEq] at h
        obtain ⟨⟨h1, h2⟩, h3⟩ := h
        have := ih h3
        simp only [List.map_map] at this ⊢
        simp only [List.map_cons, List.cons.injEq]
        refine ⟨?_, this⟩
        by_cases hk : e.1 = k
        · simp [putAt, h1, hk, er]
        · simp [putAt, h1, hk, h2]
  rcases pst_dict_lookup h k with ⟨p, j, a1, a2, a3⟩ | ⟨a1, a3⟩
  · rw [storedH_old a1]
    have : storeL es k i = es.map fun e => if e.1 = k then (e.1, i) else e := by simp [storeL, a3]
    rw [this]; exact upd h
  · rw [storedH_new a1]
    have : storeL es k i = es ++ [(k, i)] := by simp [storeL, a3]
    rw [this, List.map_append, List.map_append, h]; rfl

theorem mem_stored {xs : List (List Int × Addr × Value)} {k : List Int} {a : Addr} {v : Value} {y} (hy : y ∈ storedH xs k a v) : (y.2.1 = a ∧ y.1 = k) ∨ ∃ x ∈ xs, y.2.1 = x.2.1 ∧ y.1 = x.1 := by
  unfold storedH at hy
  split at hy
  · obtain ⟨x, hx, rfl⟩ := List.mem_map.mp hy
    right; refine ⟨x, hx, ?_⟩
    unfold putAt; split <;> exact ⟨rfl, rfl⟩
  · rcases List.mem_append.mp hy with h | h
    · exact .inr ⟨y, h, rfl, rfl⟩
    · rw [List.mem_singleton.mp h]; exact .inl ⟨rfl, rfl⟩

theorem storeP_ok {x y z : V} {v v' v'' : Value} {Qm : Mu → Prop} (hA : A.units + 1 < cLine) (R : HR prog w μ s.heap) (hx : er v = some x) (hy : er v' = some y) (hz : er v'' = some z) (h : storeP x y z μ Qm) :
    wpAny (model prog w) A (setItem v v' v'') (fun _ s' => PstU prog w s μ Qm s') Nv s := by
  refine sel_elim h (fun _ _ _ _ h => h.elim) (fun d t q1 q2 h => ?_) (fun a k q1 q2 h => ?_)
  rotate_left
  · subst q1; subst q2; rw [er_ref hx]; obtain ⟨u, rfl⟩ := er_int hy
    obtain ⟨vs, e, h0, h1, hlt, h⟩ := h
    obtain ⟨items, n, ho, hl⟩ := R _ _ e
    refine setItem_plain ho h0 (by first | assumption | exact Nat.le_of_lt (by assumption) | exact Nat.lt_of_lt_of_le (by assumption) (by assumption) | exact Nat.lt_of_le_of_lt (by assumption) (by assumption) | exact Nat.le_trans (by assumption) (by decide) | exact Nat.lt_of_le_of_lt (by assumption) (by decide) | exact Nat.lt_of_lt_of_le (by assumption) (Nat.le_trans (by assumption) (by decide)) | exact Nat.ne_of_gt (by assumption) | exact Nat.ne_of_lt (by assumption) | omega) (by have := hl.size; omega) fun h' n' ho' hs' => ?_
    refine ⟨_, h', s.toks, rfl, HR.change (o' := .list (vs.set _ z)) R e rfl hs' fun _ => ⟨_, n', ho', ?_⟩, Fm.change e rfl hs', h⟩
    rw [Array.toList_setIfInBounds]; exact hl.set _ hz
  · obtain ⟨i, rfl, h⟩ := onInt_elim h
    subst q1; subst q2; rw [er_ref hx, er_ref hy]; obtain ⟨u, rfl⟩ := er_int hz
    obtain ⟨es, ks, e1, e2, hlen, h⟩ := h
    obtain ⟨hd, xs, hm, hxs, hmu⟩ := R _ _ e1
    have hk := tupKey (R _ _ e2)
    have hxl : xs.length = es.length := by have := congrArg List.length hxs; simpa using this
    refine wpAny_setItem_heap hA hk hm (fun h' hm' hs' => ?_) (by first | assumption | exact Nat.le_of_lt (by assumption) | exact Nat.lt_of_lt_of_le (by assumption) (by assumption) | exact Nat.lt_of_le_of_lt (by assumption) (by assumption) | exact Nat.le_trans (by assumption) (by decide) | exact Nat.lt_of_le_of_lt (by assumption) (by decide) | exact Nat.lt_of_lt_of_le (by assumption) (Nat.le_trans (by assumption) (by decide)) | exact Nat.ne_of_gt (by assumption) | exact Nat.ne_of_lt (by assumption) | omega)
    refine ⟨_, h', _, rfl, HR.change (o' := .dict (storeL es ks _)) R e1 rfl hs' fun kk => ?_, Fm.change e1 rfl hs', h⟩
    refine ⟨hd, _, hm', stored_rel hxs _ _ _ _, fun q hq => ?_⟩
    rcases mem_stored hq with ⟨r1, r2⟩ | ⟨p, hp, r1, r2⟩
    · rw [r1, r2]
      obtain ⟨i', n', ho', _⟩ := R _ _ e2
      exact (kk _ _ _ ho' e2).2.trans e2
    · rw [r1, r2]
      obtain ⟨_, _, _, _, _, _, _, hk', _⟩ := hm
      obtain ⟨_, _, _, ho', _⟩ := hk' p hp
      exact (kk _ _ _ ho' (hmu p hp)).2.trans (hmu p hp)

theorem len_ok {p : Nat} (R : HR prog w μ s.heap)
    (h : (∃ vs, μ p = some (.list vs) ∧ vs.length ≤ sizeLine ∧ Q (.int vs.length) μ) ∨ (∃ es, μ p = some (.dict es) ∧ es.length ≤ sizeLine ∧ Q (.int es.length) μ)) :
    wpAny (model prog w) A (call (.builtin "len") [.ref p]) (Pst prog w s μ Q) Nv s := by
  rcases h with ⟨vs, e, hz, h⟩ | ⟨es, e, hz, h⟩
  · obtain ⟨items, n, ho, hl⟩ := R _ _ e
    have := hl.size
    rw [sizeLine_eq] at hz
    exact Calls.call_len_list (PySem.IsL.isList (n := n) ho) (by first | assumption | exact Nat.le_of_lt (by assumption) | exact Nat.lt_of_lt_of_le (by assumption) (by assumption) | exact Nat.lt_of_le_of_lt (by assumption) (by assumption) | exact Nat.le_trans (by assumption) (by decide) | exact Nat.lt_of_le_of_lt (by assumption) (by decide) | exact Nat.lt_of_lt_of_le (by assumption) (Nat.le_trans (by assumption) (by decide)) | exact Nat.ne_of_gt (by assumption) | exact Nat.ne_of_lt (by assumption) | omega) (Pst.here R rfl (by rw [this]; exact h) _)
  · obtain ⟨hd, xs, hm, hxs, hmu⟩ := R _ _ e
    have hxl : xs.length = es.length := by have := congrArg List.length hxs; simpa using this
    rw [sizeLine_eq] at hz
    refine Calls.call_function_entry kind_len plain_len entry_len (args_len1 _) ?_
    unfold Builtin.«len»
    have g : MeetsIn prog w (Builtin.«dict.__len__» ⟨[.ref p], []⟩) (fun _ R s' => s' = s ∧ R (.ok (.ret (.int xs.length s.toks))) { s with toks := s.toks + 1 }) :=
      .of_wp fun A R s' ⟨es', hq⟩ => by
        subst es'
        obtain ⟨o, des, ep, ho, hc, hdat, he, _⟩ := hm
        show wpAny _ _ (dictSize p >>= _) _ _ s'
        unfold dictSize
        refine wpAny_bind (wpAny_bind (wpAny_dictEntries ho hdat (wpAny_pure ?_)))
        show wpAny _ _ (Builtin.Dict.pendingCount p >>= _) _ _ s'
        refine wpAny_bind (wpAny_pendingCount_other hd ?_)
        refine wpAny_ret_mkInt ?_
        have : des.size = xs.length := size_of_entries he
        rw [Nat.add_zero, this]; exact hq
    refine wpAny_bind (m := oneArg "len" _) (wpAny_pure ?_)
    refine wpAny_bind (m := callSpecial? (.ref p) (Str.ofString "__len__")) (wpAny_callSpecial?_slot (name := Str.ofString "__len__") hm.typeIs F.slot_dict_len
      (call_meetsIn F.slot_dict_len hm.typeIs F.entry_dict_len (F.args_dict_len_1 _) g ⟨rfl, ?_⟩))
    show wpAny _ _ _ _ _ { s with toks := s.toks + 1 }
    refine wpAny_bind (wpAny_holding (wpAny_pure ?_))
    refine wpAny_bind (wpAny_letGo ?_)
    show wpAny _ _ (if ((xs.length : Nat) : Int) < 0 then _ else _) _ _ _
    rw [if_neg (by first | assumption | exact Nat.le_of_lt (by assumption) | exact Nat.lt_of_lt_of_le (by assumption) (by assumption) | exact Nat.lt_of_le_of_lt (by assumption) (by assumption) | exact Nat.le_trans (by assumption) (by decide) | exact Nat.lt_of_le_of_lt (by assumption) (by decide) | exact Nat.lt_of_lt_of_le (by assumption) (Nat.le_trans (by assumption) (by decide)) | exact Nat.ne_of_gt (by assumption) | exact Nat.ne_of_lt (by assumption) | omega)]
    show wpAny _ _ (if ((xs.length : Nat) : Int) ≥ 2 ^ 63 then _ else _) _ _ _
    rw [if_neg (by first | assumption | exact Nat.le_of_lt (by assumption) | exact Nat.lt_of_lt_of_le (by assumption) (by assumption) | exact Nat.lt_of_le_of_lt (by assumption) (by assumption) | exact Nat.le_trans (by assumption) (by decide) | exact Nat.lt_of_le_of_lt (by assumption) (by decide) | exact Nat.lt_of_lt_of_le (by assumption) (Nat.le_trans (by assumption) (by decide)) | exact Nat.ne_of_gt (by assumption) | exact Nat.ne_of_lt (by assumption) | omega)]
    exact wpAny_bind (wpAny_mkInt (wpAny_pure ⟨_, rfl, Pst.here R rfl (by rw [hxl]; exact h) _⟩))

theorem abs_ok {i : Int} {t : Tok} (R : HR prog w μ s.heap) (h : Q (.int i.natAbs) μ) : wpAny (model prog w) A (call (.builtin "abs") [.int i t]) (Pst prog w s μ Q) Nv s :=
  call_abs_int fun u tk => Pst.here R (by show some (V.int _) = some (V.int _); congr 2; split <;> omega) h tk

theorem toInt_ok {i : Int} {t : Tok} (R : HR prog w μ s.heap) (h : Q (.int i) μ) : wpAny (model prog w) A (call (.type "int") [.int i t]) (Pst prog w s μ Q) Nv s :=
  call_int_int (Pst.here (tk := s.toks) R rfl h)

theorem Pst.ext {v : Value} {v' : V} {h' : Heap} (R : HR prog w μ s.heap) (k : ∀ b o, s.heap.get? b = some o → h'.get? b = some o) (hv : er v = some v') (q : Q v' μ) (tk : Nat) : Pst prog w s μ Q v { s with heap := h', toks := tk } :=
  ⟨v', μ, h', tk, rfl, hv, R.ext k, Fm.ext k, q⟩

theorem sum_ok {p : Nat} {ns : List Int} (hA : A.handled = none) (R : HR prog w μ s.heap) (e : μ p = some (.list (ns.map V.int))) (h : Q (.int ns.sum) μ) : wpAny (model prog w) A (call (.builtin "sum") [.ref p]) (Pst prog w s μ Q) Nv s := by
  obtain ⟨items, n, ho, hl⟩ := R _ _ e
  have hi := hl.ints
  -- the list's ints, with their tokens
  have : ∃ xs : Array (Int × Tok), items = intItems xs ∧ preSum (numAt xs) xs.size = ns.sum := by
    refine ⟨(items.toList.map fun v => match v with | .int i t => (i, t) | _ => (0, 0)).toArray, ?_, ?_⟩
    · apply Array.toList_inj.mp
      simp only [intItems, Array.toList_map, List.map_map]
      clear ho hl e h
      revert hi
      generalize items.toList = ws
      intro hi
      induction hi with
      | nil => rfl
      | cons i t _ ih => simp only [List.map_cons, Function.comp_apply]; rw [← ih]
    · rw [preSum_eq, List.take_of_length_le (by simp)]
      clear ho hl e h
      revert hi
      simp only [List.map_map]
      generalize items.toList = ws
      intro hi
      congr 1
      induction hi with
      | nil => rfl
      | cons i t _ ih => simp only [List.map_cons, Function.comp_apply]; rw [← ih]
  obtain ⟨xs, rfl, hx⟩ := this
  refine sum_intListG hA (PySem.IsL.isList (n := n) ho) fun h' tk t' hk => ?_
  rw [hx]
  exact Pst.ext R hk rfl h tk

theorem toList_ok {p : Nat} {vs : List V} (R : HR prog w μ s.heap) (e : μ p = some (.list vs)) (hz : vs.length ≤ sizeLine) (h : ∀ c, μ c = none → Q (.ref c) (upd μ c (.list vs))) :
    wpAny (model prog w) A (call (.type "list") [.ref p]) (Pst prog w s μ Q) Nv s := by
  obtain ⟨items, n, ho, hl⟩ := R _ _ e
  refine call_list_seq (hsz := by have := hl.size; omega) p (.inl rfl) ho rfl rfl fun h' c' hk hD => ?_
  refine ⟨.ref s.heap.objs.size, upd μ s.heap.objs.size (.list vs), h', s.toks, rfl, rfl, ?_, ?_, h _ (HR.fresh R)⟩
  · intro a x hx
    by_cases ha : a = s.heap.objs.size
    · subst ha
      rw [upd_self] at hx
      cases hx
      exact ⟨items, c', hD, hl⟩
    · rw [upd_ne _ _ ha] at hx
      refine (R a x hx).keep (fun _ e => hk _ _ e) fun b q vs e m => ⟨hk _ _ e, upd_ne μ _ (Nat.ne_of_lt (Heap.lt_size e))⟩
  · exact fun b q e _ => ⟨hk _ _ e, upd_ne _ _ (Nat.ne_of_lt (Heap.lt_size e))⟩

theorem toTuple_ok {p : Nat} {vs : List V} (R : HR prog w μ s.heap) (e : μ p = some (.list vs)) (hz : vs.length ≤ sizeLine) (h : ∀ c, μ c = none → Q (.ref c) (upd μ c (.tuple vs))) :
    wpAny (model prog w) A (call (.type "tuple") [.ref p]) (Pst prog w s μ Q) Nv s := by
  obtain ⟨items, n, ho, hl⟩ := R _ _ e
  refine call_tuple_list (PySem.IsL.isList (n := n) ho) (fun h' hk => ?_) (by have := hl.size; omega)
  have R' := R.ext hk
  have e' : OR prog w μ h' _ _ := R' _ _ e
  exact Pst.trans (s := s) (μ' := μ) (h' := h') (tk := s.toks) (Fm.ext hk) (pst_tuple (s := { s with heap := h' }) (tk := s.toks) R' hl h)

theorem pop0_ok {p : Nat} {v : V} {vs : List V} {t : Tok} (R : HR prog w μ s.heap) (e : μ p = some (.list (v :: vs))) (hz : vs.length < sizeLine) (h : Q v (upd μ p (.list vs))) :
    wpAny (model prog w) A (call (.builtin "list.pop") [.ref p, .int 0 t]) (Pst prog w s μ Q) Nv s := by
  obtain ⟨items, n, ho, hl⟩ := R _ _ e
  obtain ⟨y, r, er1, hy, hr⟩ := hl.cons_inv
  have hsz := hl.size
  have h0 : items[0]? = some y := by rw [← Array.getElem?_toList, er1]; rfl
  refine call_meets F.slot_list_pop ⟨_, ho, rfl⟩ F.entry_list_pop (F.args_list_pop_2 _ _) (MeetsSeq.list_pop_at p items n 0 t 0 y (by decide) ?_ h0 (by rw [hsz]; exact hz)) ⟨ho, ?_⟩
  · unfold seqIndex?
    have hlt : (0 : Int) < items.size := by rw [hsz]; simp only [List.length_cons]; omega
    simp only [Int.lt_irrefl, if_false, Int.le_refl, hlt, decide_true, Bool.and_self, if_true, Int.toNat_zero]
  have e2 : (items.eraseIdxIfInBounds 0).toList = r := by
    rw [show items = (y :: r).toArray by apply Array.toList_inj.mp; rw [er1]]
    simp [Array.eraseIdxIfInBounds]
  have up := PySem.IsL.update (n := n) ho (fun xs => xs.eraseIdxIfInBounds 0)
  refine ⟨v, upd μ p (.list vs), _, s.toks, rfl, hy, HR.change (o' := .list vs) R e rfl (Heap.SameBut.update ..) fun _ => ⟨_, _, up, ?_⟩, Fm.change e rfl (Heap.SameBut.update ..), h⟩
  rw [e2]; exact hr

theorem getP_ok {x y z : V} {v v' v'' : Value} (hA : A.units + 1 < cLine) (R : HR prog w μ s.heap) (hx : er v = some x) (hy : er v' = some y) (hz : er v'' = some z) (h : getP x y z μ Q) :
    ∃ d, v = .ref d ∧ s.TypeIs (.ref d) "dict" ∧ (∀ a, v = .ref a → ∃ o, s.heap.get? a = some o ∧ o.dict = none) ∧ wpAny (model prog w) A (call (.builtin "dict.get") [v, v', v'']) (Pst prog w s μ Q) Nv s := by
  refine sel_elim h (fun _ _ _ _ h => h.elim) (fun d t q1 q2 h => ?_) (fun _ _ _ _ h => h.elim)
  · obtain ⟨i, q3, h⟩ := onInt_elim h
    subst q1; subst q2; subst q3; rw [er_ref hx, er_ref hy]; obtain ⟨u, rfl⟩ := er_int hz
    obtain ⟨es, ks, e1, e2, h⟩ := h
    obtain ⟨hd, xs, hm, hxs, hmu⟩ := R _ _ e1
    have hk := tupKey (R _ _ e2)
    refine ⟨_, rfl, hm.typeIs, ?_, call_meetsIn F.slot_dict_get hm.typeIs F.entry_dict_get (F.args_dict_get_3 _ _ _) (meetsH_dict_get_default (tk prog w) d t hd (.int i u)) ⟨hA, ks, xs, hk, hm, ?_⟩⟩
    · exact dictOfH_noDict hm
    rcases pst_dict_lookup hxs ks with ⟨p, j, a1, a2, a3⟩ | ⟨a1, a3⟩
    · rw [a1]
      rw [a3] at h
      exact Pst.here R a2 h _
    · rw [a1]
      rw [a3] at h
      exact Pst.here R rfl h _
end

end Mine

end PartML3

section PartML4
open PySem PySem.W PyProof.Rows
set_option linter.unusedVariables false
set_option linter.unusedSimpArgs false
set_option maxRecDepth 100000
namespace Mine

/-! does the small tree say what the text's tree says? -/
noncomputable def kindIs (sc : Scope) (n : Str) (k : NameKind) : Bool := sc.names.lookup n == some k
noncomputable def isVar (sc : Scope) (n : Str) : Bool := kindIs sc n .local || kindIs sc n .cell || kindIs sc n .free
noncomputable def isGlob (sc : Scope) (n : Str) (m : Str) : Bool := n == m && kindIs sc m .globalImplicit
noncomputable def opEq : Op → Operator → Bool
  | .add, .Add => true | .sub, .Sub => true | .mul, .Mult => true | .fdiv, .FloorDiv => true | .mod, .Mod => true | .pow, .Pow => true | _, _ => false
noncomputable def cmEq : Cm → CmpOp → Bool
  | .eq, .Eq => true | .ne, .NotEq => true | .lt, .Lt => true | .gt, .Gt => true | .isNone, .Is => true | .isNotNone, .IsNot => true | _, _ => false

/-- what a block within may ask of the block around -/
noncomputable def scopeOk (sc inner : Scope) : Bool := inner.kind == .function && inner.names.all fun (n, k) => inner.names.lookup n == some k &&
  (k != .free || kindIs sc n .cell || kindIs sc n .free) && (k == .local || k == .cell || k == .free || k == .globalImplicit)
noncomputable def canBind (inner : Scope) (x : X) : Bool := kindIs inner x.nm .local || kindIs inner x.nm .cell
noncomputable def onlyLocals (inner : Scope) (ns : List Str) : Bool := inner.names.all fun (n, k) => (k != .local && k != .cell) || n == (".0" : Str) || ns.contains n
noncomputable def methodAt (o : PySem.Expr) (apos pos : Pos) : Bool := apos.endLine == pos.line && match o with
  | .Name .. => true
  | .Subscript .. => true
  | _ => false

/-! readers: what a tree of the text is, if it is of one form -/
theorem anyC {α : Type} {o : Option α} {p : α → Bool} {C : Prop} (h : o.any p = true) (k : ∀ q, p q = true → C) : C := match o, h with
  | some q, h => k q h
theorem b1 {a b : Bool} (h : (a && b) = true) : a = true := match a, h with
  | true, _ => rfl
theorem b2 {a b : Bool} (h : (a && b) = true) : b = true := match a, h with
  | true, h => h
theorem bN {a : Bool} (h : (!a) = true) : a = false := match a, h with
  | false, _ => rfl
noncomputable abbrev EX := PySem.Expr
/-- one look at a tree's head -/
abbrev KE := (Const × Nat × Pos) ⊕ (Str × Pos) ⊕ (EX × Operator × EX × Pos) ⊕ (PySem.UnaryOp × EX × Pos) ⊕ (EX × EX × EX × Pos) ⊕ (PySem.BoolOp × List EX × Pos) ⊕ (EX × List CmpOp × List EX × Pos) ⊕ (EX × EX × Pos) ⊕ (Option EX × Option EX × Option EX × Pos) ⊕ (List EX × Pos) ⊕ (List EX × Nat × Pos) ⊕ (List (Option EX) × List EX × Pos) ⊕ (EX × List EX × List Keyword × Pos) ⊕ (EX × Str × Pos) ⊕ (EX × List Comprehension × Scope × Pos)
noncomputable def bE : KE → EX := (Sum.elim (fun q => PySem.Expr.Constant q.1 q.2.1 q.2.2) (Sum.elim (fun q => PySem.Expr.Name q.1 q.2) (Sum.elim (fun q => PySem.Expr.BinOp q.1 q.2.1 q.2.2.1 q.2.2.2) (Sum.elim (fun q => PySem.Expr.UnaryOp q.1 q.2.1 q.2.2) (Sum.elim (fun q => PySem.Expr.IfExp q.1 q.2.1 q.2.2.1 q.2.2.2) (Sum.elim (fun q => PySem.Expr.BoolOp q.1 q.2.1 q.2.2) (Sum.elim (fun q => PySem.Expr.Compare q.1 q.2.1 q.2.2.1 q.2.2.2) (Sum.elim (fun q => PySem.Expr.Subscript q.1 q.2.1 q.2.2) (Sum.elim (fun q => PySem.Expr.Slice q.1 q.2.1 q.2.2.1 q.2.2.2) (Sum.elim (fun q => PySem.Expr.List q.1 q.2) (Sum.elim (fun q => PySem.Expr.Tuple q.1 q.2.1 q.2.2) (Sum.elim (fun q => PySem.Expr.Dict q.1 q.2.1 q.2.2) (Sum.elim (fun q => PySem.Expr.Call q.1 q.2.1 q.2.2.1 q.2.2.2) (Sum.elim (fun q => PySem.Expr.Attribute q.1 q.2.1 q.2.2) (fun q => PySem.Expr.ListComp q.1 q.2.1 q.2.2.1 q.2.2.2)))))))))))))))
noncomputable def viewE (x : EX) : Option {q : KE // x = bE q} := match x with
  | .Constant a b c => some ⟨(.inl (a, b, c)), rfl⟩
  | .Name a b => some ⟨(.inr (.inl (a, b))), rfl⟩
  | .BinOp a b c d => some ⟨(.inr (.inr (.inl (a, b, c, d)))), rfl⟩
  | .UnaryOp a b c => some ⟨(.inr (.inr (.inr (.inl (a, b, c))))), rfl⟩
  | .IfExp a b c d => some ⟨(.inr (.inr (.inr (.inr (.inl (a, b, c, d)))))), rfl⟩
  | .BoolOp a b c => some ⟨(.inr (.inr (.inr (.inr (.inr (.inl (a, b, c))))))), rfl⟩
  | .Compare a b c d => some ⟨(.inr (.inr (.inr (.inr (.inr (.inr (.inl (a, b, c, d)))))))), rfl⟩
  | .Subscript a b c => some ⟨(.inr (.inr (.inr (.inr (.inr (.inr (.inr (.inl (a, b, c))))))))), rfl⟩
  | .Slice a b c d => some ⟨(.inr (.inr (.inr (.inr (.inr (.inr (.inr (.inr (.inl (a, b, c, d)))))))))), rfl⟩
  | .List a b => some ⟨(.inr (.inr (.inr (.inr (.inr (.inr (.inr (.inr (.inr (.inl (a, b))))))))))), rfl⟩
  | .Tuple a b c => some ⟨(.inr (.inr (.inr (.inr (.inr (.inr (.inr (.inr (.inr (.inr (.inl (a, b, c)))))))))))), rfl⟩
  | .Dict a b c => some ⟨(.inr (.inr (.inr (.inr (.inr (.inr (.inr (.inr (.inr (.inr (.inr (.inl (a, b, c))))))))))))), rfl⟩
  | .Call a b c d => some ⟨(.inr (.inr (.inr (.inr (.inr (.inr (.inr (.inr (.inr (.inr (.inr (.inr (.inl (a, b, c, d)))))))))))))), rfl⟩
  | .Attribute a b c => some ⟨(.inr (.inr (.inr (.inr (.inr (.inr (.inr (.inr (.inr (.inr (.inr (.inr (.inr (.inl (a, b, c))))))))))))))), rfl⟩
  | .ListComp a b c d => some ⟨(.inr (.inr (.inr (.inr (.inr (.inr (.inr (.inr (.inr (.inr (.inr (.inr (.inr (.inr (a, b, c, d))))))))))))))), rfl⟩
  | _ => Option.none
noncomputable def getL {T α β : Type} {x : T} {f : α → T} {g : β → T} (o : Option {q : α ⊕ β // x = Sum.elim f g q}) : Option {q : α // x = f q} := match o with
  | some ⟨.inl a, h⟩ => some ⟨a, h⟩
  | _ => Option.none
noncomputable def getR {T α β : Type} {x : T} {f : α → T} {g : β → T} (o : Option {q : α ⊕ β // x = Sum.elim f g q}) : Option {q : β // x = g q} := match o with
  | some ⟨.inr b, h⟩ => some ⟨b, h⟩
  | _ => Option.none
noncomputable def dKon (x : EX) : Option {q : Const × Nat × Pos // x = .Constant q.1 q.2.1 q.2.2} := getL (viewE x)
noncomputable def dNam (x : EX) : Option {q : Str × Pos // x = .Name q.1 q.2} := getL (getR (viewE x))
noncomputable def dBin (x : EX) : Option {q : EX × Operator × EX × Pos // x = .BinOp q.1 q.2.1 q.2.2.1 q.2.2.2} := getL (getR (getR (viewE x)))
noncomputable def dUna (x : EX) : Option {q : PySem.UnaryOp × EX × Pos // x = .UnaryOp q.1 q.2.1 q.2.2} := getL (getR (getR (getR (viewE x))))
noncomputable def dIf (x : EX) : Option {q : EX × EX × EX × Pos // x = .IfExp q.1 q.2.1 q.2.2.1 q.2.2.2} := getL (getR (getR (getR (getR (viewE x)))))
noncomputable def dBO (x : EX) : Option {q : PySem.BoolOp × List EX × Pos // x = .BoolOp q.1 q.2.1 q.2.2} := getL (getR (getR (getR (getR (getR (viewE x))))))
noncomputable def dCom (x : EX) : Option {q : EX × List CmpOp × List EX × Pos // x = .Compare q.1 q.2.1 q.2.2.1 q.2.2.2} := getL (getR (getR (getR (getR (getR (getR (viewE x)))))))
noncomputable def dSub (x : EX) : Option {q : EX × EX × Pos // x = .Subscript q.1 q.2.1 q.2.2} := getL (getR (getR (getR (getR (getR (getR (getR (viewE x))))))))
noncomputable def dSli (x : EX) : Option {q : Option EX × Option EX × Option EX × Pos // x = .Slice q.1 q.2.1 q.2.2.1 q.2.2.2} := getL (getR (getR (getR (getR (getR (getR (getR (getR (viewE x)))))))))
noncomputable def dList (x : EX) : Option {q : List EX × Pos // x = .List q.1 q.2} := getL (getR (getR (getR (getR (getR (getR (getR (getR (getR (viewE x))))))))))
noncomputable def dTuple (x : EX) : Option {q : List EX × Nat × Pos // x = .Tuple q.1 q.2.1 q.2.2} := getL (getR (getR (getR (getR (getR (getR (getR (getR (getR (getR (viewE x)))))))))))
noncomputable def dDic (x : EX) : Option {q : List (Option EX) × List EX × Pos // x = .Dict q.1 q.2.1 q.2.2} := getL (getR (getR (getR (getR (getR (getR (getR (getR (getR (getR (getR (viewE x))))))))))))
noncomputable def dCall (x : EX) : Option {q : EX × List EX × List Keyword × Pos // x = .Call q.1 q.2.1 q.2.2.1 q.2.2.2} := getL (getR (getR (getR (getR (getR (getR (getR (getR (getR (getR (getR (getR (viewE x)))))))))))))
noncomputable def dAtt (x : EX) : Option {q : EX × Str × Pos // x = .Attribute q.1 q.2.1 q.2.2} := getL (getR (getR (getR (getR (getR (getR (getR (getR (getR (getR (getR (getR (getR (viewE x))))))))))))))
noncomputable def dLC (x : EX) : Option {q : EX × List Comprehension × Scope × Pos // x = .ListComp q.1 q.2.1 q.2.2.1 q.2.2.2} := (getR (getR (getR (getR (getR (getR (getR (getR (getR (getR (getR (getR (getR (getR (viewE x)))))))))))))))
/-- one reader behind another -/
noncomputable def dBind {α : Type} {P : α → Prop} {β : Type} {R : β → Prop} (o : Option {a // P a}) (f : (a : α) → P a → Option {b // R b}) : Option {b // R b} := match o with | some a => f a.1 a.2 | Option.none => Option.none
noncomputable def dInt (x : EX) (i : Int) : Option {q : Nat × Pos // x = .Constant (.int i) q.1 q.2} := dBind (dKon x) fun a ha => match a, ha with | (.int j, k, p), ha => if h : j = i then some ⟨(k, p), by rw [ha, h]⟩ else Option.none | _, _ => Option.none
noncomputable def dNone (x : EX) : Option {q : Nat × Pos // x = .Constant .none q.1 q.2} := dBind (dKon x) fun a ha => match a, ha with | (.none, k, p), ha => some ⟨(k, p), ha⟩ | _, _ => Option.none
noncomputable def dBoo (x : EX) (i : Bool) : Option {q : Nat × Pos // x = .Constant (.bool i) q.1 q.2} := dBind (dKon x) fun a ha => match a, ha with | (.bool j, k, p), ha => if h : j = i then some ⟨(k, p), by rw [ha, h]⟩ else Option.none | _, _ => Option.none
noncomputable def dName (x : EX) (n : Str) : Option {q : Pos // x = .Name n q} := dBind (dNam x) fun a ha => if h : a.1 = n then some ⟨a.2, by rw [ha, h]⟩ else Option.none
noncomputable def dNeg (x : EX) : Option {q : EX × Pos // x = .UnaryOp .USub q.1 q.2} := dBind (dUna x) fun a ha => match a, ha with | (.USub, e, p), ha => some ⟨(e, p), ha⟩ | _, _ => Option.none
noncomputable def dNot (x : EX) : Option {q : EX × Pos // x = .UnaryOp .Not q.1 q.2} := dBind (dUna x) fun a ha => match a, ha with | (.Not, e, p), ha => some ⟨(e, p), ha⟩ | _, _ => Option.none
noncomputable def d1 {α : Type} (l : List α) : Option {q : α // l = [q]} := match l with | [a] => some ⟨a, rfl⟩ | _ => Option.none
noncomputable def d2 {α : Type} (l : List α) : Option {q : α × α // l = [q.1, q.2]} := match l with | [a, b] => some ⟨(a, b), rfl⟩ | _ => Option.none
noncomputable def dAnd (x : EX) : Option {q : EX × EX × Pos // x = .BoolOp .And [q.1, q.2.1] q.2.2} := dBind (dBO x) fun a ha => match a, ha with | (.And, l, p), ha => dBind (d2 l) fun c hc => some ⟨(c.1, c.2, p), by rw [ha, hc]⟩ | _, _ => Option.none
noncomputable def dOr (x : EX) : Option {q : EX × EX × Pos // x = .BoolOp .Or [q.1, q.2.1] q.2.2} := dBind (dBO x) fun a ha => match a, ha with | (.Or, l, p), ha => dBind (d2 l) fun c hc => some ⟨(c.1, c.2, p), by rw [ha, hc]⟩ | _, _ => Option.none
noncomputable def dCmp (x : EX) : Option {q : EX × CmpOp × EX × Pos // x = .Compare q.1 [q.2.1] [q.2.2.1] q.2.2.2} := dBind (dCom x) fun a ha => dBind (d1 a.2.1) fun c hc => dBind (d1 a.2.2.1) fun d hd => some ⟨(a.1, c, d, a.2.2.2), by rw [ha, hc, hd]⟩
noncomputable def dSlice (x : EX) : Option {q : EX × Pos // x = .Slice Option.none (some q.1) Option.none q.2} := dBind (dSli x) fun a ha => match a, ha with | (Option.none, some e, Option.none, p), ha => some ⟨(e, p), ha⟩ | _, _ => Option.none
noncomputable def dDict (x : EX) : Option {q : Pos // x = .Dict [] [] q} := dBind (dDic x) fun a ha => match a, ha with | ([], [], p), ha => some ⟨p, ha⟩ | _, _ => Option.none
noncomputable def dCallN (x : EX) (n : Str) : Option {q : Pos × List EX × Pos // x = .Call (.Name n q.1) q.2.1 [] q.2.2} := dBind (dCall x) fun a ha => dBind (dName a.1 n) fun c hc => match a, ha, hc with | (_, es, [], p), ha, hc => some ⟨(c, es, p), by rw [ha]; exact congrArg (fun y => PySem.Expr.Call y es [] p) hc⟩ | _, _, _ => Option.none
noncomputable def dCallA (x : EX) (n : Str) : Option {q : EX × Pos × List EX × Pos // x = .Call (.Attribute q.1 n q.2.1) q.2.2.1 [] q.2.2.2} := dBind (dCall x) fun a ha => dBind (dAtt a.1) fun c hc => match a, ha, hc with
  | (_, es, [], p), ha, hc => if h : c.2.1 = n then some ⟨(c.1, c.2.2, es, p), by rw [ha]; subst h; exact congrArg (fun y => PySem.Expr.Call y es [] p) hc⟩ else Option.none
  | _, _, _ => Option.none
theorem two {α : Type} {a a' b b' : α} (h : a = a') (k : b = b') : [a, b] = [a', b'] := by rw [h, k]
theorem mk2 {t t' i i' : EX} {f : List EX} (h : t = t') (k : i = i') : Comprehension.mk t i f 0 = Comprehension.mk t' i' f 0 := by rw [h, k]
noncomputable def dAndc (x : EX) : Option {q : EX × EX × CmpOp × EX × Pos × Pos // x = .BoolOp .And [q.1, .Compare q.2.1 [q.2.2.1] [q.2.2.2.1] q.2.2.2.2.1] q.2.2.2.2.2} :=
  dBind (dAnd x) fun a ha => dBind (dCmp a.2.1) fun c hc => some ⟨(a.1, c.1, c.2.1, c.2.2.1, c.2.2.2, a.2.2), ha.trans (congrArg (fun y => PySem.Expr.BoolOp .And [a.1, y] a.2.2) hc)⟩
noncomputable def dSubSl (x : EX) (i : Int) : Option {q : EX × Nat × Pos × Pos × Pos // x = .Subscript q.1 (.Slice Option.none (some (.Constant (.int i) q.2.1 q.2.2.1)) Option.none q.2.2.2.1) q.2.2.2.2} :=
  dBind (dSub x) fun a ha => dBind (dSlice a.2.1) fun c hc => dBind (dInt c.1 i) fun d hd => some ⟨(a.1, d.1, d.2, c.2, a.2.2), ha.trans (congrArg (fun y => PySem.Expr.Subscript a.1 y a.2.2) (hc.trans (congrArg (fun y => PySem.Expr.Slice Option.none (some y) Option.none c.2) hd)))⟩
noncomputable def dCall1 (x : EX) (n : Str) : Option {q : Pos × EX × Pos // x = .Call (.Name n q.1) [q.2.1] [] q.2.2} :=
  dBind (dCallN x n) fun a ha => dBind (d1 a.2.1) fun c hc => some ⟨(a.1, c, a.2.2), ha.trans (congrArg (fun y => PySem.Expr.Call (.Name n a.1) y [] a.2.2) hc)⟩
noncomputable def dCall2 (x : EX) (n : Str) : Option {q : Pos × EX × EX × Pos // x = .Call (.Name n q.1) [q.2.1, q.2.2.1] [] q.2.2.2} :=
  dBind (dCallN x n) fun a ha => dBind (d2 a.2.1) fun c hc => some ⟨(a.1, c.1, c.2, a.2.2), ha.trans (congrArg (fun y => PySem.Expr.Call (.Name n a.1) y [] a.2.2) hc)⟩
noncomputable def dPop (x : EX) : Option {q : EX × Pos × Nat × Pos × Pos // x = .Call (.Attribute q.1 "pop" q.2.1) [.Constant (.int 0) q.2.2.1 q.2.2.2.1] [] q.2.2.2.2} :=
  dBind (dCallA x "pop") fun a ha => dBind (d1 a.2.2.1) fun c hc => dBind (dInt c 0) fun d hd => some ⟨(a.1, a.2.1, d.1, d.2, a.2.2.2), ha.trans (congrArg (fun y => PySem.Expr.Call (.Attribute a.1 "pop" a.2.1) y [] a.2.2.2) (hc.trans (congrArg (fun y => [y]) hd)))⟩
noncomputable def dGet (x : EX) : Option {q : EX × Pos × EX × EX × Pos // x = .Call (.Attribute q.1 "get" q.2.1) [q.2.2.1, q.2.2.2.1] [] q.2.2.2.2} :=
  dBind (dCallA x "get") fun a ha => dBind (d2 a.2.2.1) fun c hc => some ⟨(a.1, a.2.1, c.1, c.2, a.2.2.2), ha.trans (congrArg (fun y => PySem.Expr.Call (.Attribute a.1 "get" a.2.1) y [] a.2.2.2) hc)⟩
noncomputable def dGen (g : Comprehension) : Option {q : EX × EX × List EX // g = ⟨q.1, q.2.1, q.2.2, 0⟩} := match g with | ⟨t, i, f, a⟩ => if h : a = 0 then some ⟨(t, i, f), by rw [h]⟩ else Option.none
noncomputable def dGenN (g : Comprehension) (n : Str) : Option {q : Pos × EX × List EX // g = ⟨.Name n q.1, q.2.1, q.2.2, 0⟩} :=
  dBind (dGen g) fun a ha => dBind (dName a.1 n) fun c hc => some ⟨(c, a.2.1, a.2.2), ha.trans (congrArg (fun y => Comprehension.mk y a.2.1 a.2.2 0) hc)⟩
noncomputable def dGenO (g : Comprehension) (n : Str) : Option {q : Pos × EX // g = ⟨.Name n q.1, q.2, [], 0⟩} :=
  dBind (dGenN g n) fun a ha => if h : a.2.2 = [] then some ⟨(a.1, a.2.1), ha.trans (congrArg (fun y => Comprehension.mk (.Name n a.1) a.2.1 y 0) h)⟩ else Option.none
noncomputable def dGenE (g : Comprehension) (n m : Str) : Option {q : (Pos × Pos × Nat × Pos) × (Pos × EX × Pos) × List EX // g = ⟨.Tuple [.Name n q.1.1, .Name m q.1.2.1] q.1.2.2.1 q.1.2.2.2, .Call (.Name "enumerate" q.2.1.1) [q.2.1.2.1] [] q.2.1.2.2, q.2.2, 0⟩} :=
  dBind (dGen g) fun a ha => dBind (dTuple a.1) fun t ht => dBind (d2 t.1) fun c hc => dBind (dName c.1 n) fun u hu => dBind (dName c.2 m) fun v hv => dBind (dCall1 a.2.1 "enumerate") fun e he =>
    some ⟨((u, v, t.2.1, t.2.2), e, a.2.2), ha.trans (mk2 (ht.trans (congrArg (fun y => PySem.Expr.Tuple y t.2.1 t.2.2) (hc.trans (two hu hv)))) he)⟩
noncomputable def dComp (x : EX) (n : Str) : Option {q : EX × (Pos × EX × List EX) × Scope × Pos // x = .ListComp q.1 [⟨.Name n q.2.1.1, q.2.1.2.1, q.2.1.2.2, 0⟩] q.2.2.1 q.2.2.2} :=
  dBind (dLC x) fun a ha => dBind (d1 a.2.1) fun c hc => dBind (dGenN c n) fun g hg => some ⟨(a.1, g, a.2.2.1, a.2.2.2), ha.trans (congrArg (fun y => PySem.Expr.ListComp a.1 y a.2.2.1 a.2.2.2) (hc.trans (congrArg (fun y => [y]) hg)))⟩
noncomputable def dCompE (x : EX) (n m : Str) : Option {q : EX × ((Pos × Pos × Nat × Pos) × (Pos × EX × Pos) × List EX) × Scope × Pos //
    x = .ListComp q.1 [⟨.Tuple [.Name n q.2.1.1.1, .Name m q.2.1.1.2.1] q.2.1.1.2.2.1 q.2.1.1.2.2.2, .Call (.Name "enumerate" q.2.1.2.1.1) [q.2.1.2.1.2.1] [] q.2.1.2.1.2.2, q.2.1.2.2, 0⟩] q.2.2.1 q.2.2.2} :=
  dBind (dLC x) fun a ha => dBind (d1 a.2.1) fun c hc => dBind (dGenE c n m) fun g hg => some ⟨(a.1, g, a.2.2.1, a.2.2.2), ha.trans (congrArg (fun y => PySem.Expr.ListComp a.1 y a.2.2.1 a.2.2.2) (hc.trans (congrArg (fun y => [y]) hg)))⟩
noncomputable def dComp2 (x : EX) (n m : Str) : Option {q : EX × (Pos × EX) × (Pos × EX) × Scope × Pos // x = .ListComp q.1 [⟨.Name n q.2.1.1, q.2.1.2, [], 0⟩, ⟨.Name m q.2.2.1.1, q.2.2.1.2, [], 0⟩] q.2.2.2.1 q.2.2.2.2} :=
  dBind (dLC x) fun a ha => dBind (d2 a.2.1) fun c hc => dBind (dGenO c.1 n) fun g hg => dBind (dGenO c.2 m) fun k hk => some ⟨(a.1, g, k, a.2.2.1, a.2.2.2), ha.trans (congrArg (fun y => PySem.Expr.ListComp a.1 y a.2.2.1 a.2.2.2) (hc.trans (two hg hk)))⟩

mutual
noncomputable def ckE (sc : Scope) : ME → EX → Bool
  | .int i, x => (dInt x i).any fun _ => true
  | .none, x => (dNone x).any fun _ => true
  | .bool b, x => (dBoo x b).any fun _ => true
  | .var y, x => (dName x y.nm).any fun _ => isVar sc y.nm
  | .bin op l r, x => (dBin x).any fun q => opEq op q.1.2.1 && (ckE sc l q.1.1 && ckE sc r q.1.2.2.1)
  | .neg e, x => (dNeg x).any fun q => ckE sc e q.1.1
  | .ite c b o, x => (dIf x).any fun q => ckT sc c q.1.1 && (ckE sc b q.1.2.1 && ckE sc o q.1.2.2.1)
  | .andc e op l r, x => (dAndc x).any fun q => cmEq op q.1.2.2.1 && (ckE sc e q.1.1 && (ckE sc l q.1.2.1 && ckE sc r q.1.2.2.2.1))
  | .sub e i, x => (dSub x).any fun q => ckE sc e q.1.1 && ckE sc i q.1.2.1
  | .slice e n, x => (dSubSl x n).any fun q => ckE sc e q.1.1
  | .list es, x => (dList x).any fun q => ckEs sc es q.1.1
  | .tuple es, x => (dTuple x).any fun q => ckEs sc es q.1.1
  | .dict, x => (dDict x).any fun _ => true
  | .call f es, x => (dCallN x f.nm).any fun q => kindIs sc f.nm .globalImplicit && (ckEs sc es q.1.2.1 && !q.1.2.1.isEmpty)
  | .len e, x => (dCall1 x "len").any fun q => kindIs sc "len" .globalImplicit && ckE sc e q.1.2.1
  | .abs e, x => (dCall1 x "abs").any fun q => kindIs sc "abs" .globalImplicit && ckE sc e q.1.2.1
  | .min l r, x => (dCall2 x "min").any fun q => kindIs sc "min" .globalImplicit && (ckE sc l q.1.2.1 && ckE sc r q.1.2.2.1)
  | .toInt e, x => (dCall1 x "int").any fun q => kindIs sc "int" .globalImplicit && ckE sc e q.1.2.1
  | .sum e, x => (dCall1 x "sum").any fun q => kindIs sc "sum" .globalImplicit && ckE sc e q.1.2.1
  | .toList e, x => (dCall1 x "list").any fun q => kindIs sc "list" .globalImplicit && ckE sc e q.1.2.1
  | .toTuple e, x => (dCall1 x "tuple").any fun q => kindIs sc "tuple" .globalImplicit && ckE sc e q.1.2.1
  | .pop0 e, x => (dPop x).any fun q => methodAt q.1.1 q.1.2.1 q.1.2.2.2.2 && ckE sc e q.1.1
  | .get d k i, x => (dGet x).any fun q => methodAt q.1.1 q.1.2.1 q.1.2.2.2.2 && (ckE sc d q.1.1 && (ckE sc k q.1.2.2.1 && ckE sc i q.1.2.2.2.1))
  | .comp elt y it c, x => (dComp x y.nm).any fun q => canBind q.1.2.2.1 y && (scopeOk sc q.1.2.2.1 && (onlyLocals q.1.2.2.1 [y.nm] && (ckI sc it q.1.2.1.2.1 && (ckC q.1.2.2.1 c q.1.2.1.2.2 && ckE q.1.2.2.1 elt q.1.1))))
  | .compE elt i y e c, x => (dCompE x i.nm y.nm).any fun q => (kindIs sc "enumerate" .globalImplicit && (i != y && (kindIs q.1.2.2.1 i.nm .local && kindIs q.1.2.2.1 y.nm .local))) && ((scopeOk sc q.1.2.2.1 && onlyLocals q.1.2.2.1 [i.nm, y.nm]) &&
      (ckE sc e q.1.2.1.2.1.2.1 && (ckC q.1.2.2.1 c q.1.2.1.2.2 && ckE q.1.2.2.1 elt q.1.1)))
  | .comp2 elt y it z it2, x => (dComp2 x y.nm z.nm).any fun q => (kindIs q.1.2.2.2.1 y.nm .local && kindIs q.1.2.2.2.1 z.nm .local) && ((scopeOk sc q.1.2.2.2.1 && onlyLocals q.1.2.2.2.1 [y.nm, z.nm]) &&
      (ckI sc it q.1.2.1.2 && (ckI q.1.2.2.2.1 it2 q.1.2.2.1.2 && ckE q.1.2.2.2.1 elt q.1.1)))
noncomputable def ckT (sc : Scope) : MT → EX → Bool
  | .cmp op l r, x => (dCmp x).any fun t => cmEq op t.1.2.1 && (ckE sc l t.1.1 && ckE sc r t.1.2.2.1)
  | .and l r, x => (dAnd x).any fun q => ckT sc l q.1.1 && ckT sc r q.1.2.1
  | .or l r, x => (dOr x).any fun q => ckT sc l q.1.1 && ckT sc r q.1.2.1
  | .not t, x => (dNot x).any fun q => ckT sc t q.1.1
  | .truth e, x => (dCall x).any fun _ => ckE sc e x
noncomputable def ckI (sc : Scope) : MI → EX → Bool
  | .range1 e, x => (dCall1 x "range").any fun q => kindIs sc "range" .globalImplicit && ckE sc e q.1.2.1
  | .range2 l r, x => (dCall2 x "range").any fun q => kindIs sc "range" .globalImplicit && (ckE sc l q.1.2.1 && ckE sc r q.1.2.2.1)
  | .val e, x => ckE sc e x
noncomputable def ckEs (sc : Scope) : MEs → List EX → Bool
  | .nil, xs => xs.isEmpty
  | .cons e es, xs => match xs with
    | [] => false
    | x :: xs => ckE sc e x && ckEs sc es xs
noncomputable def ckC (sc : Scope) : MC → List EX → Bool
  | .no, xs => xs.isEmpty
  | .yes t, xs => (d1 xs).any fun q => ckT sc t q.1
end

/-- the forms that a small tree may stand for -/
noncomputable def plainX : EX → Bool
  | .Starred .. => false
  | .Slice .. => false
  | .Set .. => false
  | _ => true
theorem pl {x : EX} {α : Type} {g : α → EX} {o : Option {q : α // x = g q}} {p} (h : o.any p = true) (hg : ∀ q, plainX (g q) = true) : plainX x = true := anyC h fun q _ => (congrArg plainX q.2).trans (hg _)
theorem ck_plain {sc : Scope} {e : ME} {x : EX} (h : ckE sc e x = true) : plainX x = true := match e with
  | .int i => pl (o := dInt x i) h fun _ => rfl
  | .none => pl (o := dNone x) h fun _ => rfl
  | .bool b => pl (o := dBoo x b) h fun _ => rfl
  | .var y => pl (o := dName x y.nm) h fun _ => rfl
  | .bin _ _ _ => pl (o := dBin x) h fun _ => rfl
  | .neg _ => pl (o := dNeg x) h fun _ => rfl
  | .ite _ _ _ => pl (o := dIf x) h fun _ => rfl
  | .andc _ _ _ _ => pl (o := dAndc x) h fun _ => rfl
  | .sub _ _ => pl (o := dSub x) h fun _ => rfl
  | .slice _ n => pl (o := dSubSl x n) h fun _ => rfl
  | .list _ => pl (o := dList x) h fun _ => rfl
  | .tuple _ => pl (o := dTuple x) h fun _ => rfl
  | .dict => pl (o := dDict x) h fun _ => rfl
  | .call f _ => pl (o := dCallN x f.nm) h fun _ => rfl
  | .len _ => pl (o := dCall1 x "len") h fun _ => rfl
  | .abs _ => pl (o := dCall1 x "abs") h fun _ => rfl
  | .min _ _ => pl (o := dCall2 x "min") h fun _ => rfl
  | .toInt _ => pl (o := dCall1 x "int") h fun _ => rfl
  | .sum _ => pl (o := dCall1 x "sum") h fun _ => rfl
  | .toList _ => pl (o := dCall1 x "list") h fun _ => rfl
  | .toTuple _ => pl (o := dCall1 x "tuple") h fun _ => rfl
  | .pop0 _ => pl (o := dPop x) h fun _ => rfl
  | .get _ _ _ => pl (o := dGet x) h fun _ => rfl
  | .comp _ y _ _ => pl (o := dComp x y.nm) h fun _ => rfl
  | .compE _ i y _ _ => pl (o := dCompE x i.nm y.nm) h fun _ => rfl
  | .comp2 _ y _ z _ => pl (o := dComp2 x y.nm z.nm) h fun _ => rfl

theorem ck_star {sc : Scope} {e : ME} {x : PySem.Expr} (h : ckE sc e x = true) (rest : List PySem.Expr) (env : Env) : starEach (x :: rest) env = (false, eval x env) :: starEach rest env := by
  replace h := ck_plain h
  cases x with
  | Starred a b => cases h
  | _ => rfl
theorem ck_slice {sc : Scope} {e : ME} {x : PySem.Expr} (h : ckE sc e x = true) (o i : Value) : subscripted x false o i = operate [o, i] (getItem o i) := by
  replace h := ck_plain h
  cases x with
  | Slice a b c d => cases h
  | _ => rfl
theorem ck_set {sc : Scope} {e : ME} {x : PySem.Expr} (h : ckE sc e x = true) (env : Env) (v : Value) : foldedSetIterable x env v = pure v := by
  replace h := ck_plain h
  cases x with
  | Set a b c => cases h
  | _ => rfl
theorem ck_behind {sc : Scope} {e : ME} {x : PySem.Expr} (h : ckE sc e x = true) (op : CmpOp) : behindInMarks op x = false := by
  replace h := ck_plain h
  cases x with
  | Set a b c => cases h
  | _ => rfl


/-- the globals -/
structure Gl (h₀ : Heap) (mg mb : Str → Option Value) (fa : Fn → Addr) : Prop where
  g : h₀.Ns mainGlobals mg
  b : h₀.Ns builtinsNs mb
  fn : ∀ f : Fn, mg f.nm = some (.ref (fa f))
  fo : ∀ f, ∃ o fd, h₀.get? (fa f) = some o ∧ o.data = .func fd
  free : ∀ x ∈ (["len", "abs", "min", "sum", "range", "enumerate", "int", "list", "tuple"] : List Str), mg x = Option.none
  blt : ∀ x : Str, x ≠ "__name__" → mb x = bootBuiltins x
  nolimit : h₀.NoLimit

structure Cx (prog : Program) (w : World) (h₀ : Heap) (env : Env) (ρ : Rho) (μ : Mu) (h : Heap) : Prop where
  env : EnvR env ρ μ h
  hr : HR prog w μ h
  bs : Bs h₀ μ h
theorem Cx.mono {prog : Program} {w : World} {h₀ h h' : Heap} {env : Env} {ρ : Rho} {μ μ' : Mu} (C : Cx prog w h₀ env ρ μ h) (F : Fm μ h μ' h') (R : HR prog w μ' h') : Cx prog w h₀ env ρ μ' h' :=
  ⟨C.env.mono F, R, C.bs.mono F⟩

section
variable (prog : Program) (w : World) (h₀ : Heap) (n : Nat) (Φ : Phi)

noncomputable def PstT (s : Shared) (μ : Mu) (Q : Bool → Mu → Prop) (b : Bool) (s' : Shared) : Prop := PstU prog w s μ (Q b) s'
noncomputable def PstL (s : Shared) (μ : Mu) (Q : List V → Mu → Prop) (ws : List Value) (s' : Shared) : Prop := ∃ vs, LR vs ws ∧ PstU prog w s μ (Q vs) s'

noncomputable def SE (sc : Scope) (e : ME) (x : PySem.Expr) : Prop := ∀ A env ρ μ Q s, AOk n A → EnvFits sc env → Cx prog w h₀ env ρ μ s.heap → wpE Φ e ρ μ Q →
  wpAny (model prog w) A (eval x env) (Pst prog w s μ Q) Nv s
noncomputable def ST (sc : Scope) (e : MT) (x : PySem.Expr) : Prop := ∀ A env ρ μ Q s, AOk n A → EnvFits sc env → Cx prog w h₀ env ρ μ s.heap → wpT Φ e ρ μ Q →
  wpAny (model prog w) A (isTrue x env (eval x env)) (PstT prog w s μ Q) Nv s
noncomputable def SEs (sc : Scope) (es : MEs) (xs : List PySem.Expr) : Prop := ∀ A env ρ μ Q s pos, AOk n A → EnvFits sc env → Cx prog w h₀ env ρ μ s.heap → wpEs Φ es ρ μ Q →
  wpAny (model prog w) A (spliced (backTo pos (starEach xs env))) (PstL prog w s μ Q) Nv s
noncomputable def SC (sc : Scope) (c : MC) (xs : List PySem.Expr) : Prop := ∀ A env ρ μ Q s, AOk n A → EnvFits sc env → Cx prog w h₀ env ρ μ s.heap → wpC Φ c ρ μ Q →
  wpAny (model prog w) A (forIn xs true fun c r => if r = true then do let ok ← isTrue c env (eval c env); pure (ForInStep.yield ok) else pure (ForInStep.yield r)) (PstT prog w s μ Q) Nv s

/-- it did not stand, or it is ours to turn -/
noncomputable def New (μ : Mu) (h : Heap) (I : Nat) : Prop := ∀ o, h.get? I = some o → mutb μ I = true
/-- what an iterator gives -/
structure It (I : Addr) (items : List V) (src : Mu → Prop) (St : Nat → Heap → Prop) : Prop where
  frame : ∀ i h h', St i h → (∀ o, h.get? I = some o → h'.get? I = some o) → St i h'
  there : ∀ i h, St i h → ∃ o vs, h.get? I = some o ∧ o.data = .fields vs
  next : ∀ A i s μ, A.handled = Option.none → St i s.heap → HR prog w μ s.heap → src μ → wpAny (model prog w) A (pyNext (.ref I)) (fun r s' => ∃ h' tk, s' = { s with heap := h', toks := tk } ∧
    (∀ b o, b ≠ I → s.heap.get? b = some o → h'.get? b = some o) ∧ match items[i]? with
      | some v => ∃ x, r = some x ∧ er x = some v ∧ St (i + 1) h'
      | Option.none => r = Option.none) Nv s
  self : ∀ A i s (Q : Value → Shared → Prop), St i s.heap → Q (.ref I) s → wpAny (model prog w) A (pyIter (.ref I)) Q Nv s

noncomputable def PstI (s : Shared) (μ : Mu) (K : List V → (Mu → Prop) → Mu → Prop) (v : Value) (s' : Shared) : Prop :=
  ∃ μ' h' tk, ∃ I : Nat, ∃ items src St, s' = { s with heap := h', toks := tk } ∧ v = .ref I ∧ HR prog w μ' h' ∧ Fm μ s.heap μ' h' ∧ New μ s.heap I ∧ μ' I = Option.none ∧
    It prog w I items src St ∧ St 0 h' ∧ K items src μ'
theorem PstI.elim {prog : Program} {w : World} {s : Shared} {μ : Mu} {K : List V → (Mu → Prop) → Mu → Prop} {v : Value} {s' : Shared} {C : Value → Shared → Prop} (h : PstI prog w s μ K v s')
    (k : ∀ μ' h' tk (I : Nat) items src St, HR prog w μ' h' → Fm μ s.heap μ' h' → New μ s.heap I → μ' I = Option.none → It prog w I items src St → St 0 h' → K items src μ' → C (.ref I) { s with heap := h', toks := tk }) : C v s' := by
  obtain ⟨μ', h', tk, I, items, src, St, rfl, rfl, a, b, c, d, e, f, g⟩ := h; exact k μ' h' tk I items src St a b c d e f g
noncomputable def SI (sc : Scope) (e : MI) (x : PySem.Expr) : Prop := (∀ env v, foldedSetIterable x env v = pure v) ∧ ∀ A env ρ μ K s, AOk n A → EnvFits sc env → Cx prog w h₀ env ρ μ s.heap → wpI Φ e ρ μ K →
  wpAny (model prog w) A (eval x env) (fun v s₁ => wpAny (model prog w) A (pyIter v) (PstI prog w s μ K) Nv s₁) Nv s
end

theorem Fm.new {μ μ' : Mu} {h h' : Heap} (F : Fm μ h μ' h') {I : Nat} (hI : h'.get? I = Option.none) : New μ h I := fun o e => by
  cases m : mutb μ I with
  | true => rfl
  | false => have := (F _ _ e m).1; rw [hI] at this; cases this
theorem Fm.but {μ μ' : Mu} {h h' h'' : Heap} {I : Nat} (F : Fm μ h μ' h') (N : New μ h I) (k : ∀ b o, b ≠ I → h'.get? b = some o → h''.get? b = some o) : Fm μ h μ' h'' := fun b o e m => by
  have hb : b ≠ I := fun q => by subst q; rw [N o e] at m; cases m
  exact ⟨k b o hb (F b o e m).1, (F b o e m).2⟩
section
variable {prog : Program} {w : World} {h₀ : Heap} {n : Nat} {Φ : Phi} {sc : Scope}

/-- one step behind another -/
theorem seqE {α β : Type} {A : Around} {s : Shared} {μ : Mu} {t : Sem Value} {Q₁ : QV} {P : Value → Shared → Prop} (h : wpAny (model prog w) A t (Pst prog w s μ Q₁) Nv s)
    (k : ∀ v v' μ' h' tk, er v = some v' → HR prog w μ' h' → Fm μ s.heap μ' h' → Q₁ v' μ' → P v { s with heap := h', toks := tk }) : wpAny (model prog w) A t P Nv s :=
  wpAny_mono h (fun v s' x => Pst.elim (C := fun s' => P v s') x (k v)) fun _ _ x => x

theorem se_int (i : Int) (k : Nat) (p : Pos) : SE prog w h₀ n Φ sc (.int i) (.Constant (.int i) k p) := fun A env ρ μ Q s hA hF C h =>
  wpAny_Constant_int (Pst.here C.hr rfl h _)
theorem se_none (k : Nat) (p : Pos) : SE prog w h₀ n Φ sc .none (.Constant .none k p) := fun A env ρ μ Q s hA hF C h => by
  rw [eval_Constant]; exact wpAny_pure (Pst.here (tk := s.toks) C.hr rfl h)
theorem se_bool (b : Bool) (k : Nat) (p : Pos) : SE prog w h₀ n Φ sc (.bool b) (.Constant (.bool b) k p) := fun A env ρ μ Q s hA hF C h => by
  rw [eval_Constant]; exact wpAny_pure (Pst.here (tk := s.toks) C.hr rfl h)

theorem nm_debug (x : X) : (x.nm == ("__debug__" : Str)) = false := by cases x <;> decide +kernel

theorem ld_var {A : Around} {env : Env} {ρ : Rho} {μ : Mu} {s : Shared} {x : X} {v : V} {Q : Value → Shared → Prop} (hF : EnvFits sc env) (R : EnvR env ρ μ s.heap) (hv : isVar sc x.nm = true) (hx : ρ x = some v)
    (h : ∀ w, er w = some v → Q w s) : wpAny (model prog w) A (loadName env x.nm) Q Nv s := by
  simp only [isVar, Bool.or_eq_true, kindIs, beq_iff_eq] at hv
  rcases hv with (hl | hc) | hf
  · obtain ⟨m, hn, hm⟩ := R.ns
    obtain ⟨w', h1, h2⟩ := hm x v hx (hF.loc _ hl)
    exact wpAny_loadName_local hF.kind (hF.loc _ hl) hn h1 (h _ h2)
  · obtain ⟨hk, c, hc⟩ := hF.cel _ hc
    obtain ⟨w', h1, h2⟩ := R.val x v c hx (.inl hk) hc
    exact wpAny_loadName_cell hF.kind hk hc h1 (h _ h2)
  · obtain ⟨hk, c, hc⟩ := hF.fre _ hf
    obtain ⟨w', h1, h2⟩ := R.val x v c hx hk.symm hc
    rcases hk with hk | hk
    · exact wpAny_loadName_free hF.kind hk hc h1 (h _ h2) (by cases x <;> decide +kernel)
    · exact wpAny_loadName_cell hF.kind hk hc h1 (h _ h2)

theorem se_var (x : X) (p : Pos) (hv : isVar sc x.nm = true) : SE prog w h₀ n Φ sc (.var x) (.Name x.nm p) := fun A env ρ μ Q s hA hF C h => by
  obtain ⟨v, hx, q⟩ := h
  exact wpAny_Name (ld_var hF C.env hv hx fun w' hw => Pst.here (tk := s.toks) C.hr hw q) (nm_debug x)

theorem se_bin {op : Op} {op' : Operator} {l r : ME} {l' r' : PySem.Expr} (p : Pos) (ho : opEq op op' = true) (hl : SE prog w h₀ n Φ sc l l') (hr : SE prog w h₀ n Φ sc r r') : SE prog w h₀ n Φ sc (.bin op l r) (.BinOp l' op' r' p) := fun A env ρ μ Q s hA hF C h => by
  have e : op' = opOf op := by cases op <;> cases op' <;> first | rfl | cases ho
  subst e
  refine wpAny_BinOp (wpAny_mono (hl A env ρ μ _ s hA hF C h) (fun v s' x => ?_) fun _ _ x => x)
  refine Pst.elim x fun v' μ' h' tk hv R F q => ?_
  refine wpAny_mono (hr A env ρ μ' _ _ hA hF (C.mono F R) q) (fun u s'' x => ?_) fun _ _ x => x
  refine Pst.elim x fun u' μ'' h'' tk' hu R' F' q' => ?_
  exact wpAny_mono (binP_ok R' hv hu q') (fun _ _ z => Pst.trans F (Pst.trans F' z)) fun _ _ x => x

theorem se_neg {e : ME} {e' : PySem.Expr} (p : Pos) (he : SE prog w h₀ n Φ sc e e') : SE prog w h₀ n Φ sc (.neg e) (.UnaryOp .USub e' p) := fun A env ρ μ Q s hA hF C h => by
  show wpAny _ A (do let v ← eval e' env; standAt p; holding [v] (unaryOp .USub v)) _ _ s
  refine wpAny_bind (wpAny_mono (he A env ρ μ _ s hA hF C h) (fun v s' x => ?_) fun _ _ x => x)
  refine Pst.elim x fun v' μ' h' tk hv R F qS => ?_
  obtain ⟨i, rfl, q⟩ := qS
  obtain ⟨t, rfl⟩ := er_int hv
  exact wpAny_bind (wpAny_standAt (wpAny_holding (PySem.P.neg_int (Pst.trans F (Pst.here R rfl q _)))))

theorem se_ite {c : MT} {b o : ME} {c' b' o' : PySem.Expr} (p : Pos) (hc : ST prog w h₀ n Φ sc c c') (hb : SE prog w h₀ n Φ sc b b') (ho : SE prog w h₀ n Φ sc o o') : SE prog w h₀ n Φ sc (.ite c b o) (.IfExp c' b' o' p) := fun A env ρ μ Q s hA hF C h => by
  show wpAny _ A (do if ← isTrue c' env (eval c' env) then eval b' env else eval o' env) _ _ s
  refine wpAny_bind (wpAny_mono (hc A env ρ μ _ s hA hF C h) (fun t s' x => ?_) fun _ _ x => x)
  refine PstU.elim x fun μ' h' tk R F q => ?_
  cases t
  · exact wpAny_mono (ho A env ρ μ' _ _ hA hF (C.mono F R) q) (fun _ _ z => Pst.trans F z) fun _ _ x => x
  · exact wpAny_mono (hb A env ρ μ' _ _ hA hF (C.mono F R) q) (fun _ _ z => Pst.trans F z) fun _ _ x => x

/-- a comparison, its value known -/
theorem cmp_ok {op : Cm} {op' : CmpOp} {l r : ME} {l' r' : PySem.Expr} {A : Around} {env : Env} {ρ : Rho} {μ : Mu} {s : Shared} {P : Bool → Mu → Prop} (ho : cmEq op op' = true) (hl : SE prog w h₀ n Φ sc l l') (hr : SE prog w h₀ n Φ sc r r') (hA : AOk n A) (hF : EnvFits sc env)
    (C : Cx prog w h₀ env ρ μ s.heap) (h : wpE Φ l ρ μ fun x μ₁ => wpE Φ r ρ μ₁ fun y μ₂ => cmpP op x y μ₂ fun t => P t μ₂) :
    wpAny (model prog w) A (eval l' env) (fun a s₁ => wpAny (model prog w) A (eval r' env) (fun b s₂ => wpAny (model prog w) A (compareOp op' a b) (fun c s₃ => ∃ t, c = .bool t ∧ PstT prog w s μ P t s₃) Nv s₂) Nv s₁) Nv s := by
  have e : op' = cmOf op := by cases op <;> cases op' <;> first | rfl | cases ho
  subst e
  refine wpAny_mono (hl A env ρ μ _ s hA hF C h) (fun v s' x => ?_) fun _ _ x => x
  refine Pst.elim x fun v' μ' h' tk hv R F q => ?_
  refine wpAny_mono (hr A env ρ μ' _ _ hA hF (C.mono F R) q) (fun u s'' x => ?_) fun _ _ x => x
  refine Pst.elim x fun u' μ'' h'' tk' hu R' F' q' => ?_
  refine wpAny_mono (cmpP_ok (by have := hA.units; show A.units + 64 < 9900; omega) R' hv hu q') (fun c s₃ z => ?_) fun _ _ x => x
  obtain ⟨rfl, t, rfl, q⟩ := z
  exact ⟨t, rfl, μ'', h'', tk', rfl, R', F.trans F', q⟩

theorem ck_hm {r : ME} {r' : PySem.Expr} {op : CmpOp} (h : ckE sc r r' = true) : behindInMarks op r' = false := ck_behind h op

theorem se_andc {e : ME} {op : Cm} {op' : CmpOp} {l r : ME} {e' l' r' : PySem.Expr} (p p' : Pos) (ho : cmEq op op' = true) (hm : behindInMarks op' r' = false) (he : SE prog w h₀ n Φ sc e e') (hl : SE prog w h₀ n Φ sc l l') (hr : SE prog w h₀ n Φ sc r r') :
    SE prog w h₀ n Φ sc (.andc e op l r) (.BoolOp .And [e', .Compare l' [op'] [r'] p'] p) := fun A env ρ μ Q s hA hF C h => by
  show wpAny _ A (boolOp p .And [eval e' env, eval (.Compare l' [op'] [r'] p') env]) _ _ s
  unfold boolOp
  refine wpAny_bind (wpAny_mono (he A env ρ μ _ s hA hF C h) (fun v s' x => ?_) fun _ _ x => x)
  refine Pst.elim x fun v' μ' h' tk hv R F qS => ?_
  obtain ⟨b, rfl, q⟩ := qS
  rw [er_bool hv]
  refine wpAny_bind (wpAny_standAt (wpAny_bind (wpAny_holding (wpAny_truthy_bool ?_))))
  cases b
  · exact wpAny_pure (Pst.trans (tk := tk) F (Pst.here (s := { s with heap := h', toks := tk }) (tk := tk) R rfl q))
  · show wpAny _ A (boolOp p .And [eval (.Compare l' [op'] [r'] p') env]) _ _ _
    unfold boolOp
    refine wpAny_Compare1 ?_ hm
    have := cmp_ok (s := { s with heap := h', toks := tk }) (P := fun t μ => Q (.bool t) μ) ho hl hr hA hF (C.mono F R) q
    refine wpAny_mono this (fun a s₁ z => wpAny_mono z (fun b s₂ z => wpAny_mono z (fun c s₃ z => ?_) fun _ _ x => x) fun _ _ x => x) fun _ _ x => x
    obtain ⟨t, rfl, μ₃, h₃, tk₃, rfl, R₃, F₃, q₃⟩ := z
    exact ⟨.bool t, μ₃, h₃, tk₃, rfl, rfl, R₃, F.trans F₃, q₃⟩

theorem se_sub {e i : ME} {e' i' : PySem.Expr} (p : Pos) (hs : ∀ o i, subscripted i' false o i = operate [o, i] (getItem o i)) (he : SE prog w h₀ n Φ sc e e') (hi : SE prog w h₀ n Φ sc i i') : SE prog w h₀ n Φ sc (.sub e i) (.Subscript e' i' p) := fun A env ρ μ Q s hA hF C h => by
  refine Subscript_ (wpAny_mono (he A env ρ μ _ s hA hF C h) (fun v s' x => ?_) fun _ _ x => x)
  refine Pst.elim x fun v' μ' h' tk hv R F q => ?_
  refine wpAny_mono (hi A env ρ μ' _ _ hA hF (C.mono F R) q) (fun u s'' x => ?_) fun _ _ x => x
  refine Pst.elim x fun u' μ'' h'' tk' hu R' F' q' => ?_
  exact wpAny_mono (subP_ok (by have := hA.units; show A.units + 1 < 9900; omega) R' hv hu hs q') (fun _ _ z => Pst.trans F (Pst.trans F' z)) fun _ _ x => x

theorem ses_nil : SEs prog w h₀ n Φ sc .nil [] := fun A env ρ μ Q s pos hA hF C h => args_nil ⟨[], LR.nil, μ, s.heap, s.toks, rfl, C.hr, Fm.refl _ _, h⟩
theorem ses_cons {e : ME} {es : MEs} {e' : PySem.Expr} {es' : List PySem.Expr} (hst : ∀ env, starEach (e' :: es') env = (false, eval e' env) :: starEach es' env) (he : SE prog w h₀ n Φ sc e e') (hs : SEs prog w h₀ n Φ sc es es') : SEs prog w h₀ n Φ sc (.cons e es) (e' :: es') := fun A env ρ μ Q s pos hA hF C h => by
  refine args_cons (wpAny_mono (he A env ρ μ _ s hA hF C h) (fun v s' x => ?_) fun _ _ x => x) (hst env)
  refine Pst.elim x fun v' μ' h' tk hv R F q => ?_
  refine wpAny_mono (hs A env ρ μ' _ _ pos hA hF (C.mono F R) q) (fun u s'' x => ?_) fun _ _ x => x
  obtain ⟨vs, hl, z⟩ := x
  exact ⟨v' :: vs, hl.cons hv, PstU.trans F z⟩

theorem se_list {es : MEs} {es' : List PySem.Expr} (p : Pos) (hs : SEs prog w h₀ n Φ sc es es') : SE prog w h₀ n Φ sc (.list es) (.List es' p) := fun A env ρ μ Q s hA hF C h => by
  refine List_ (wpAny_mono (hs A env ρ μ _ s p hA hF C h) (fun ws s' x => ?_) fun _ _ x => x)
  obtain ⟨vs, hl, μ', h', tk, rfl, R, F, hz, q⟩ := x
  have hz' : ws.length ≤ 1000 := by rw [hl.length]; exact hz
  refine wpAny_newObj_type (Pst.trans F (pst_list (s := { s with heap := h', toks := tk }) (tk := tk) R (by rw [List.toList_toArray]; exact hl) q)) ?_
  show ws.toArray.size ≤ sizeLine
  rw [List.size_toArray, sizeLine_eq]; omega
theorem se_tuple {es : MEs} {es' : List PySem.Expr} (k : Nat) (p : Pos) (hs : SEs prog w h₀ n Φ sc es es') : SE prog w h₀ n Φ sc (.tuple es) (.Tuple es' k p) := fun A env ρ μ Q s hA hF C h => by
  refine Tuple_ (wpAny_mono (hs A env ρ μ _ s p hA hF C h) (fun ws s' x => ?_) fun _ _ x => x)
  obtain ⟨vs, hl, μ', h', tk, rfl, R, F, hz, q⟩ := x
  have hz' : ws.length ≤ 1000 := by rw [hl.length]; exact hz
  refine wpAny_newObj_type (Pst.trans F (pst_tuple (s := { s with heap := h', toks := tk }) (tk := tk) R (by rw [List.toList_toArray]; exact hl) q)) ?_
  show ws.toArray.size ≤ sizeLine
  rw [List.size_toArray, sizeLine_eq]; omega

theorem se_dict {mg mb : Str → Option Value} {fa : Fn → Addr} (G : Gl h₀ mg mb fa) (p : Pos) : SE prog w h₀ n Φ sc .dict (.Dict [] [] p) := fun A env ρ μ Q s hA hF C h => by
  refine wpAny_Dict_empty ⟨.ref s.heap.objs.size, _, _, s.toks, rfl, rfl, HR.push C.hr _ (.dict []) fun μ' => ⟨?_, [], Heap.DictOfH.new _, rfl, by simp⟩, Fm.push _ _ _ _, h _ (HR.fresh C.hr)⟩
  have := modules_low (G.nolimit.keeps C.bs.keep)
  have hne : s.heap.objs.size ≠ sysModules := Nat.ne_of_gt this
  simpa using hne

theorem slice_to (items : Array Value) (m : Nat) : (slicePick items Option.none (some (m : Int)) Option.none).toList = items.toList.take m := by
  by_cases h : m ≤ items.size
  · rw [slicePick_upto items m h]
  · have e : slicePick items Option.none (some (m : Int)) Option.none = slicePick items Option.none Option.none Option.none := by
      unfold slicePick
      have : sliceBounds Option.none (some (m : Int)) Option.none items.size = sliceBounds Option.none Option.none Option.none items.size := by
        simp only [sliceBounds, Option.getD_none]
        have h2 : ¬ ((m : Int) < 0) := by first | assumption | exact Nat.le_of_lt (by assumption) | exact Nat.lt_of_lt_of_le (by assumption) (by assumption) | exact Nat.lt_of_le_of_lt (by assumption) (by assumption) | exact Nat.le_trans (by assumption) (by decide) | exact Nat.lt_of_le_of_lt (by assumption) (by decide) | exact Nat.lt_of_lt_of_le (by assumption) (Nat.le_trans (by assumption) (by decide)) | exact Nat.ne_of_gt (by assumption) | exact Nat.ne_of_lt (by assumption) | omega
        simp only [h2, if_false, show (1 : Int) > 0 by decide, if_true]
        congr 2
        omega
      rw [this]
    rw [e, slicePick_all, List.take_of_length_le (by simp; omega)]

theorem se_slice {e : ME} {e' : PySem.Expr} (m : Int) (k : Nat) (p1 p2 p3 : Pos) (he : SE prog w h₀ n Φ sc e e') : SE prog w h₀ n Φ sc (.slice e m) (.Subscript e' (.Slice Option.none (some (.Constant (.int m) k p1)) Option.none p2) p3) := fun A env ρ μ Q s hA hF C h => by
  have hlet : ∀ o r, letTemporaryGo e' o r = letTemporaryGo e' o r := fun _ _ => rfl
  refine Subscript_ (wpAny_mono (he A env ρ μ _ s hA hF C h) (fun v s' x => ?_) fun _ _ x => x)
  refine Pst.elim x fun v' μ' h' tk hv R F qS => ?_
  obtain ⟨a, vs, h0, h1, rfl, e1, hz, q⟩ := qS
  rw [er_ref hv]
  obtain ⟨items, il, hl⟩ := R _ _ e1
  refine wpAny_Slice ?_
  rw [show evalPart Option.none env = pure Value.none from rfl]
  refine wpAny_pure ?_
  show wpAny _ A (eval (.Constant (.int m) k p1) env) _ _ _
  refine wpAny_Constant_int ?_
  refine wpAny_pure ?_
  obtain ⟨j, rfl⟩ := Int.eq_ofNat_of_zero_le h0
  have hsz := hl.size
  refine tail_any (ops := [_, _]) (il.push _).typeIs slot_list_getitem.lookup (wpAny_getItem_list_slice (il.push _) (Heap.IsSliceOf.new ..) .none (.int _ _) .none (by simp) ?_ (by rw [hsz, sizeLine_eq]; omega)) rfl
  have hT := slice_to items j
  refine Pst.trans F (Pst.trans (μ' := μ') (tk := tk + 1) (Fm.pushGarbage _ _ _) (pst_list (tk := tk + 1) (R.ext fun b o e => Heap.get?_push_of_some _ e) ?_ q))
  show LR (vs.take j) (slicePick items Option.none (some (j : Int)) Option.none).toList
  rw [hT]; exact hl.take _

theorem glob_name {A : Around} {env : Env} {μ : Mu} {s : Shared} {mg mb : Str → Option Value} {fa : Fn → Addr} {x : Str} {v : Value} {p : Pos} {Q : Value → Shared → Prop} (G : Gl h₀ mg mb fa) (hF : EnvFits sc env) (B : Bs h₀ μ s.heap) (hk : kindIs sc x .globalImplicit = true)
    (hx : x ∈ (["len", "abs", "min", "sum", "range", "enumerate", "int", "list", "tuple"] : List Str)) (hv : bootBuiltins x = some v) (h : Q v s) : wpAny (model prog w) A (eval (.Name x p) env) Q Nv s := by
  have hx' : (x == ("__debug__" : Str)) = false ∧ x ≠ "__name__" := by
    revert x
    intro x _ hx _
    simp only [List.mem_cons, List.not_mem_nil, or_false] at hx
    rcases hx with rfl | rfl | rfl | rfl | rfl | rfl | rfl | rfl | rfl <;> exact ⟨by decide +kernel, by decide +kernel⟩
  refine Calls.Name_function_global hF.kind (hF.glo _ (by simpa [kindIs] using hk)) ?_ hx'.1
  refine Calls.loadGlobal_builtin (env := env) ?_ (G.free x hx) ?_ ((G.blt x hx'.2).trans hv) h
  · rw [hF.glob]; exact G.g.keeps B.keep
  · rw [hF.blt]; exact G.b.keeps B.keep

theorem glob_fn {A : Around} {env : Env} {μ : Mu} {s : Shared} {mg mb : Str → Option Value} {fa : Fn → Addr} {f : Fn} {p : Pos} {Q : Value → Shared → Prop} (G : Gl h₀ mg mb fa) (hF : EnvFits sc env) (B : Bs h₀ μ s.heap) (hk : kindIs sc f.nm .globalImplicit = true)
    (h : Q (.ref (fa f)) s) : wpAny (model prog w) A (eval (.Name f.nm p) env) Q Nv s := by
  have hx' : (f.nm == ("__debug__" : Str)) = false := by cases f <;> decide +kernel
  refine Calls.Name_function_global hF.kind (hF.glo _ (by simpa [kindIs] using hk)) ?_ hx'
  refine Calls.loadGlobal_global (env := env) ?_ (G.fn f) h
  rw [hF.glob]; exact G.g.keeps B.keep

noncomputable def PhiOk (prog : Program) (w : World) (h₀ : Heap) (fa : Fn → Addr) (n : Nat) (Φ : Phi) : Prop := ∀ f A args ws μ Q s, AOk n A → LR args ws → HR prog w μ s.heap → Bs h₀ μ s.heap → Φ f args μ Q →
  codeAny (model prog w) A (.call (.ref (fa f)) ⟨ws, []⟩) (fun r s' => match r with | .ok (.ret v) => Pst prog w s μ Q v s' | _ => False) s

variable {mg mb : Str → Option Value} {fa : Fn → Addr}

theorem se_call {f : Fn} {es : MEs} {e' : PySem.Expr} {es' : List PySem.Expr} (p p' : Pos) (G : Gl h₀ mg mb fa) (P : PhiOk prog w h₀ fa n Φ) (hk : kindIs sc f.nm .globalImplicit = true) (hst : ∀ env, starEach (e' :: es') env = (false, eval e' env) :: starEach es' env)
    (hs : SEs prog w h₀ n Φ sc es (e' :: es')) : SE prog w h₀ n Φ sc (.call f es) (.Call (.Name f.nm p') (e' :: es') [] p) := fun A env ρ μ Q s hA hF C h => by
  refine Call_ (glob_fn G hF C.bs hk ?_)
  obtain ⟨o, fd, ho, hd⟩ := G.fo f
  refine callWith_def hd (wpAny_mono (hs A env ρ μ _ s p hA hF C h) (fun ws s' x => ?_) fun _ _ x => x) (hst env)
  obtain ⟨vs, hl, μ', h', tk, rfl, R, F, q⟩ := x
  have B' := C.bs.mono F
  refine ⟨B'.keep _ _ ho, wpAny_call (codeAny_mono (P f A vs ws μ' Q _ hA hl R B' q) fun r s'' z => ?_)⟩
  cases r with
  | error e => exact z.elim
  | ok fl => cases fl with
    | ret v => exact Pst.trans F z
    | next => exact z.elim
    | brk => exact z.elim
    | cont => exact z.elim

/-- a built-in of one argument -/
theorem call_b1 {A : Around} {env : Env} {ρ : Rho} {μ : Mu} {s : Shared} {e : ME} {e' : PySem.Expr} {x : Str} {id : String} {p p' : Pos} {Q₁ : QV} {Q : Value → Shared → Prop} (G : Gl h₀ mg mb fa) (hA : AOk n A) (hF : EnvFits sc env) (C : Cx prog w h₀ env ρ μ s.heap) (hk : kindIs sc x .globalImplicit = true)
    (hx : x ∈ (["len", "abs", "min", "sum", "range", "enumerate", "int", "list", "tuple"] : List Str)) (hv : bootBuiltins x = some (.builtin id)) (hst : ∀ env, starEach [e'] env = [(false, eval e' env)]) (he : SE prog w h₀ n Φ sc e e') (h : wpE Φ e ρ μ Q₁)
    (k : ∀ v v' μ' h' tk, er v = some v' → HR prog w μ' h' → Fm μ s.heap μ' h' → Q₁ v' μ' → wpAny (model prog w) A (call (.builtin id) [v]) Q Nv { s with heap := h', toks := tk }) :
    wpAny (model prog w) A (eval (.Call (.Name x p') [e'] [] p) env) Q Nv s := by
  refine Call_ (glob_name G hF C.bs hk hx hv ?_)
  refine callWith_builtin1 (args_cons (wpAny_mono (he A env ρ μ _ s hA hF C h) (fun v s' x => ?_) fun _ _ x => x) (hst env)) (hst env) rfl
  refine Pst.elim x fun v' μ' h' tk hv R F q => ?_
  exact args_nil (k v v' μ' h' tk hv R F q)
theorem call_t1 {A : Around} {env : Env} {ρ : Rho} {μ : Mu} {s : Shared} {e : ME} {e' : PySem.Expr} {x : Str} {T : String} {p p' : Pos} {Q₁ : QV} {Q : Value → Shared → Prop} (G : Gl h₀ mg mb fa) (hA : AOk n A) (hF : EnvFits sc env) (C : Cx prog w h₀ env ρ μ s.heap) (hk : kindIs sc x .globalImplicit = true)
    (hx : x ∈ (["len", "abs", "min", "sum", "range", "enumerate", "int", "list", "tuple"] : List Str)) (hv : bootBuiltins x = some (.type T)) (hst : ∀ env, starEach [e'] env = [(false, eval e' env)]) (he : SE prog w h₀ n Φ sc e e') (h : wpE Φ e ρ μ Q₁)
    (k : ∀ v v' μ' h' tk, er v = some v' → HR prog w μ' h' → Fm μ s.heap μ' h' → Q₁ v' μ' → wpAny (model prog w) A (call (.type T) [v]) Q Nv { s with heap := h', toks := tk }) :
    wpAny (model prog w) A (eval (.Call (.Name x p') [e'] [] p) env) Q Nv s := by
  refine Call_ (glob_name G hF C.bs hk hx hv ?_)
  rw [hst env]
  refine PySem.callWith_type rfl (Calls.evalArgs_plain (Calls.spliced_cons (wpAny_mono (he A env ρ μ _ s hA hF C h) (fun v s' x => ?_) fun _ _ x => x)))
  refine Pst.elim x fun v' μ' h' tk hv R F q => ?_
  exact Calls.spliced_nil (k v v' μ' h' tk hv R F q)

theorem in_names {x : Str} (i : Nat) (h : (["len", "abs", "min", "sum", "range", "enumerate", "int", "list", "tuple"] : List Str)[i]? = some x) : x ∈ (["len", "abs", "min", "sum", "range", "enumerate", "int", "list", "tuple"] : List Str) := List.mem_of_getElem? h

theorem se_len {e : ME} {e' : PySem.Expr} (p p' : Pos) (G : Gl h₀ mg mb fa) (hk : kindIs sc "len" .globalImplicit = true) (hst : ∀ env, starEach [e'] env = [(false, eval e' env)]) (he : SE prog w h₀ n Φ sc e e') : SE prog w h₀ n Φ sc (.len e) (.Call (.Name "len" p') [e'] [] p) := fun A env ρ μ Q s hA hF C h =>
  call_b1 G hA hF C hk (in_names 0 rfl) PyProof.Rows.Boot.len hst he h fun v v' μ' h' tk hv R F ⟨a, ea, q⟩ => by
    subst ea; rw [er_ref hv]
    exact wpAny_mono (len_ok R q) (fun _ _ z => Pst.trans F z) fun _ _ x => x
theorem se_abs {e : ME} {e' : PySem.Expr} (p p' : Pos) (G : Gl h₀ mg mb fa) (hk : kindIs sc "abs" .globalImplicit = true) (hst : ∀ env, starEach [e'] env = [(false, eval e' env)]) (he : SE prog w h₀ n Φ sc e e') : SE prog w h₀ n Φ sc (.abs e) (.Call (.Name "abs" p') [e'] [] p) := fun A env ρ μ Q s hA hF C h =>
  call_b1 G hA hF C hk (in_names 1 rfl) boot_abs hst he h fun v v' μ' h' tk hv R F ⟨i, ei, q⟩ => by
    subst ei; obtain ⟨t, rfl⟩ := er_int hv
    exact wpAny_mono (abs_ok R q) (fun _ _ z => Pst.trans F z) fun _ _ x => x
theorem se_toInt {e : ME} {e' : PySem.Expr} (p p' : Pos) (G : Gl h₀ mg mb fa) (hk : kindIs sc "int" .globalImplicit = true) (hst : ∀ env, starEach [e'] env = [(false, eval e' env)]) (he : SE prog w h₀ n Φ sc e e') : SE prog w h₀ n Φ sc (.toInt e) (.Call (.Name "int" p') [e'] [] p) := fun A env ρ μ Q s hA hF C h =>
  call_t1 G hA hF C hk (in_names 6 rfl) boot_int hst he h fun v v' μ' h' tk hv R F ⟨i, ei, q⟩ => by
    subst ei; obtain ⟨t, rfl⟩ := er_int hv
    exact wpAny_mono (toInt_ok R q) (fun _ _ z => Pst.trans F z) fun _ _ x => x
theorem se_sum {e : ME} {e' : PySem.Expr} (p p' : Pos) (G : Gl h₀ mg mb fa) (hk : kindIs sc "sum" .globalImplicit = true) (hst : ∀ env, starEach [e'] env = [(false, eval e' env)]) (he : SE prog w h₀ n Φ sc e e') : SE prog w h₀ n Φ sc (.sum e) (.Call (.Name "sum" p') [e'] [] p) := fun A env ρ μ Q s hA hF C h =>
  call_b1 G hA hF C hk (in_names 3 rfl) boot_sum hst he h fun v v' μ' h' tk hv R F ⟨a, ns, ea, e1, q⟩ => by
    subst ea; rw [er_ref hv]
    exact wpAny_mono (sum_ok hA.handled R e1 q) (fun _ _ z => Pst.trans F z) fun _ _ x => x
theorem se_toList {e : ME} {e' : PySem.Expr} (p p' : Pos) (G : Gl h₀ mg mb fa) (hk : kindIs sc "list" .globalImplicit = true) (hst : ∀ env, starEach [e'] env = [(false, eval e' env)]) (he : SE prog w h₀ n Φ sc e e') : SE prog w h₀ n Φ sc (.toList e) (.Call (.Name "list" p') [e'] [] p) := fun A env ρ μ Q s hA hF C h =>
  call_t1 G hA hF C hk (in_names 7 rfl) boot_list hst he h fun v v' μ' h' tk hv R F ⟨a, vs, ea, e1, hz, q⟩ => by
    subst ea; rw [er_ref hv]
    exact wpAny_mono (toList_ok R e1 hz q) (fun _ _ z => Pst.trans F z) fun _ _ x => x
theorem se_toTuple {e : ME} {e' : PySem.Expr} (p p' : Pos) (G : Gl h₀ mg mb fa) (hk : kindIs sc "tuple" .globalImplicit = true) (hst : ∀ env, starEach [e'] env = [(false, eval e' env)]) (he : SE prog w h₀ n Φ sc e e') : SE prog w h₀ n Φ sc (.toTuple e) (.Call (.Name "tuple" p') [e'] [] p) := fun A env ρ μ Q s hA hF C h =>
  call_t1 G hA hF C hk (in_names 8 rfl) boot_tuple hst he h fun v v' μ' h' tk hv R F ⟨a, vs, ea, e1, hz, q⟩ => by
    subst ea; rw [er_ref hv]
    exact wpAny_mono (toTuple_ok R e1 hz q) (fun _ _ z => Pst.trans F z) fun _ _ x => x
end

end Mine

end PartML4

section PartML5
open PySem PySem.W PyProof.Rows
set_option linter.unusedVariables false
set_option linter.unusedSimpArgs false
set_option maxRecDepth 100000
namespace Mine
section
variable {prog : Program} {w : World} {h₀ : Heap} {n : Nat} {Φ : Phi} {sc : Scope} {mg mb : Str → Option Value} {fa : Fn → Addr}

theorem se_min {l r : ME} {l' r' : PySem.Expr} (p p' : Pos) (G : Gl h₀ mg mb fa) (hk : kindIs sc "min" .globalImplicit = true) (hst : ∀ env, starEach [l', r'] env = (false, eval l' env) :: starEach [r'] env) (hst' : ∀ env, starEach [r'] env = [(false, eval r' env)])
    (hl : SE prog w h₀ n Φ sc l l') (hr : SE prog w h₀ n Φ sc r r') : SE prog w h₀ n Φ sc (.min l r) (.Call (.Name "min" p') [l', r'] [] p) := fun A env ρ μ Q s hA hF C h => by
  refine Call_ (glob_name G hF C.bs hk (in_names 2 rfl) boot_min ?_)
  refine callWith_builtin1 (args_cons (wpAny_mono (hl A env ρ μ _ s hA hF C h) (fun v s' x => ?_) fun _ _ x => x) (hst env)) (hst env) (by rw [hst' env]; rfl)
  refine Pst.elim x fun v' μ' h' tk hv R F q => ?_
  refine args_cons (wpAny_mono (hr A env ρ μ' _ _ hA hF (C.mono F R) q) (fun u s'' x => ?_) fun _ _ x => x) (hst' env)
  refine Pst.elim x fun u' μ'' h'' tk' hu R' F' qS => ?_
  obtain ⟨i, j, rfl, rfl, q'⟩ := qS
  obtain ⟨t, rfl⟩ := er_int hv; obtain ⟨t', rfl⟩ := er_int hu
  refine args_nil (min_two_ints hA.handled fun h₃ tk₃ hk₃ => ?_)
  refine Pst.trans (tk := tk) F (Pst.trans (tk := tk') F' ?_)
  have : min i j = if j < i then j else i := by split <;> omega
  rw [this] at q'
  by_cases hc : j < i
  · rw [if_pos hc] at q' ⊢; exact Pst.ext R' hk₃ rfl q' tk₃
  · rw [if_neg hc] at q' ⊢; exact Pst.ext R' hk₃ rfl q' tk₃

/-- a method's call, its base a name or an item -/
theorem methE {A : Around} {env : Env} {s : Shared} {o : PySem.Expr} {name : Str} {apos pos : Pos} {args : List PySem.Expr} {Q : Value → Shared → Prop} (hm : methodAt o apos pos = true) (hlen : args.length < 20) (hpl : (backTo pos (starEach args env)).all (fun x => !x.1) = true)
    (h : wpAny (model prog w) A (eval o env) (fun ov s₁ => ∀ pl : Sem Bool, wpAny (model prog w) A (getMethod ov name pl) (fun fx s₂ => wpAny (model prog w) A (callWith pos fx.1 fx.2 (backTo pos (starEach args env)) []) Q Nv s₂) Nv s₁) Nv s) :
    wpAny (model prog w) A (eval (.Call (.Attribute o name apos) args [] pos) env) Q Nv s := by
  have hm1 : (apos.endLine == pos.line) = true := b1 hm
  have hm2 := b2 hm
  have hbase : attributeBase o name env (eval o env) = eval o env := by
    clear h
    cases o <;> first | rfl | (cases hm2; done)
  rw [arm_eval_Call, hbase]
  refine wpAny_bind (wpAny_mono h (fun ov s₁ h₁ => ?_) fun _ _ e => e)
  refine wpAny_bind (wpAny_standAt ?_)
  have hform : methodCallForm (args.length + ([] : List Keyword).length) (backTo pos (starEach args env)) (backToKw pos (keywordEach [] env)) = true := by
    unfold methodCallForm
    simp only [hpl, Bool.true_and]
    show (decide _) = true
    rw [show keywordEach ([] : List Keyword) env = [] from rfl]; simp [backToKw]; omega
  have hpos : methodCallPos true o env apos pos = pure pos := by unfold methodCallPos; simp [hm1]
  unfold methodCall
  rw [hform]
  refine wpAny_bind (wpAny_holding (wpAny_mono (h₁ _) (fun fx s₂ h₂ => ?_) fun _ _ e => e))
  exact wpAny_bind (wpAny_of_eq hpos h₂)

theorem se_pop0 {e : ME} {o : PySem.Expr} (k : Nat) (p0 apos pos : Pos) (hm : methodAt o apos pos = true) (he : SE prog w h₀ n Φ sc e o) : SE prog w h₀ n Φ sc (.pop0 e) (.Call (.Attribute o "pop" apos) [.Constant (.int 0) k p0] [] pos) := fun A env ρ μ Q s hA hF C h => by
  refine methE hm (by simp) rfl (wpAny_mono (he A env ρ μ _ s hA hF C h) (fun v s' x pl => ?_) fun _ _ x => x)
  refine Pst.elim x fun v' μ' h' tk hv R F qS => ?_
  obtain ⟨a, y, vs, rfl, e1, hz, q⟩ := qS
  rw [er_ref hv]
  obtain ⟨items, c, ho, hl⟩ := R _ _ e1
  refine getMethod_builtin (T := "list") ⟨_, ho, rfl⟩ PySem.F.plainAttrs_list PySem.F.slot_list_pop PySem.F.type_list_pop (fun b e => by cases e; exact ⟨_, ho, rfl⟩) ?_
  refine callWith_method1 (args_cons (wpAny_Constant_int (args_nil ?_)))
  exact wpAny_mono (pop0_ok (s := { s with heap := h', toks := tk + 1 }) R e1 hz q) (fun _ _ z => Pst.trans F z) fun _ _ x => x

theorem se_get {d k i : ME} {o k' i' : PySem.Expr} (apos pos : Pos) (hm : methodAt o apos pos = true) (hst : ∀ env, starEach [k', i'] env = (false, eval k' env) :: starEach [i'] env) (hst' : ∀ env, starEach [i'] env = [(false, eval i' env)])
    (hd : SE prog w h₀ n Φ sc d o) (hk : SE prog w h₀ n Φ sc k k') (hi : SE prog w h₀ n Φ sc i i') : SE prog w h₀ n Φ sc (.get d k i) (.Call (.Attribute o "get" apos) [k', i'] [] pos) := fun A env ρ μ Q s hA hF C h => by
  refine methE hm (by simp) (by rw [hst env, hst' env]; rfl) (wpAny_mono (hd A env ρ μ _ s hA hF C h) (fun v s' x pl => ?_) fun _ _ x => x)
  refine Pst.elim x fun v' μ' h' tk hv R F qS => ?_
  obtain ⟨dd, es, rfl, e1, q⟩ := qS
  have ev := er_ref hv
  subst ev
  obtain ⟨hds, xs, hmm, hxs, hmu⟩ := R _ _ e1
  refine getMethod_builtin (T := "dict") hmm.typeIs PySem.F.plainAttrs_dict PySem.F.slot_dict_get PySem.F.type_dict_get (dictOfH_noDict hmm) ?_
  refine callWith_method1 (args_cons (wpAny_mono (hk A env ρ μ' _ _ hA hF (C.mono F R) q) (fun u s'' x => ?_) fun _ _ x => x) (hst env)) (hst env) (by rw [hst' env]; rfl)
  refine Pst.elim x fun u' μ'' h'' tk' hu R' F' q' => ?_
  refine args_cons (wpAny_mono (hi A env ρ μ'' _ _ hA hF ((C.mono F R).mono F' R') q') (fun z s₃ x => ?_) fun _ _ x => x) (hst' env)
  refine Pst.elim x fun z' μ₃ h₃ tk₃ hz R₃ F₃ q₃ => ?_
  refine args_nil ?_
  obtain ⟨_, _, _, _, hc⟩ := getP_ok (s := { s with heap := h₃, toks := tk₃ }) (by have := hA.units; show A.units + 1 < 9900; omega) R₃ hv hu hz q₃
  exact wpAny_mono hc (fun _ _ z => Pst.trans (tk := tk) F (Pst.trans (tk := tk') F' (Pst.trans (tk := tk₃) F₃ z))) fun _ _ x => x

/-! iterators -/
theorem it_list (I a : Nat) (hne : a ≠ I) (vs : List V) : It prog w I vs (fun μ => μ a = some (.list vs)) (fun i h => h.IsListIter I a i) where
  frame := fun i h h' x k => x.at k
  there := fun i h ⟨o, ho, _, hd⟩ => ⟨o, _, ho, hd⟩
  next := fun A i s μ hA st R hs => by
    obtain ⟨items, c, ho, hl⟩ := R _ _ hs
    have il := PySem.IsL.isList (n := c) ho
    cases hv : vs[i]? with
    | some v =>
      obtain ⟨x, hx, ex⟩ := hl.getA hv
      exact wpAny_pyNext_list_item st il hx fun h' hit hs' => ⟨h', s.toks, rfl, fun b o hb e => hs'.extBut b o hb e, x, rfl, ex, hit⟩
    | none =>
      have hx : items[i]? = Option.none := by
        have hsz := hl.size
        rw [Array.getElem?_eq_none]
        rw [hsz]; exact List.getElem?_eq_none_iff.mp hv
      exact wpAny_pyNext_list_end hA st il hx fun h' he => ⟨h', s.toks, rfl, fun b o hb e => he b o hb e, rfl⟩
  self := fun A i s Q st q => wpAny_pyIter_listiter st q
theorem it_tuple (I a : Nat) (hne : a ≠ I) (vs : List V) : It prog w I vs (fun μ => μ a = some (.tuple vs)) (fun i h => h.IsTupleIter I a i) where
  frame := fun i h h' x k => x.at k
  there := fun i h ⟨o, ho, _, hd⟩ => ⟨o, _, ho, hd⟩
  next := fun A i s μ hA st R hs => by
    obtain ⟨items, c, ho, hl⟩ := R _ _ hs
    have il : s.heap.IsTuple a items := ⟨_, ho, rfl, c, rfl⟩
    cases hv : vs[i]? with
    | some v =>
      obtain ⟨x, hx, ex⟩ := hl.getA hv
      exact wpAny_pyNext_tuple_item st il hx fun h' hit hs' => ⟨h', s.toks, rfl, fun b o hb e => hs'.extBut b o hb e, x, rfl, ex, hit⟩
    | none =>
      have hx : items[i]? = Option.none := by
        have hsz := hl.size
        rw [Array.getElem?_eq_none]
        rw [hsz]; exact List.getElem?_eq_none_iff.mp hv
      exact wpAny_pyNext_tuple_end hA st il hx fun h' he => ⟨h', s.toks, rfl, fun b o hb e => he b o hb e, rfl⟩
  self := fun A i s Q st q => wpAny_pyIter_tupleiter st q
theorem it_range (I : Nat) (x y : Int) : It prog w I (rangeV x y) (fun _ => True) (fun i h => IsRangeIter h I (x + (i : Nat)) (((y - x).toNat : Int) - (i : Nat)) 1) where
  frame := fun i h h' x k => k _ x
  there := fun i h st => ⟨_, _, st, rfl⟩
  next := fun A i s μ hA st R hs => by
    by_cases hi : i < (y - x).toNat
    · have hv : (rangeV x y)[i]? = some (.int (x + (i : Nat))) := by simp [rangeV, hi]
      rw [hv]
      refine wpAny_pyNext_range_item st (by first | assumption | exact Nat.le_of_lt (by assumption) | exact Nat.lt_of_lt_of_le (by assumption) (by assumption) | exact Nat.lt_of_le_of_lt (by assumption) (by assumption) | exact Nat.le_trans (by assumption) (by decide) | exact Nat.lt_of_le_of_lt (by assumption) (by decide) | exact Nat.lt_of_lt_of_le (by assumption) (Nat.le_trans (by assumption) (by decide)) | exact Nat.ne_of_gt (by assumption) | exact Nat.ne_of_lt (by assumption) | omega) fun h' hit hs' => ⟨h', _, rfl, fun b o hb e => hs'.extBut b o hb e, _, rfl, rfl, ?_⟩
      have e1 : x + ((i : Nat) : Int) + 1 = x + ((i + 1 : Nat) : Int) := by first | assumption | exact Nat.le_of_lt (by assumption) | exact Nat.lt_of_lt_of_le (by assumption) (by assumption) | exact Nat.lt_of_le_of_lt (by assumption) (by assumption) | exact Nat.le_trans (by assumption) (by decide) | exact Nat.lt_of_le_of_lt (by assumption) (by decide) | exact Nat.lt_of_lt_of_le (by assumption) (Nat.le_trans (by assumption) (by decide)) | exact Nat.ne_of_gt (by assumption) | exact Nat.ne_of_lt (by assumption) | omega
      have e2 : ((y - x).toNat : Int) - (i : Nat) - 1 = ((y - x).toNat : Int) - ((i + 1 : Nat) : Int) := by first | assumption | exact Nat.le_of_lt (by assumption) | exact Nat.lt_of_lt_of_le (by assumption) (by assumption) | exact Nat.lt_of_le_of_lt (by assumption) (by assumption) | exact Nat.le_trans (by assumption) (by decide) | exact Nat.lt_of_le_of_lt (by assumption) (by decide) | exact Nat.lt_of_lt_of_le (by assumption) (Nat.le_trans (by assumption) (by decide)) | exact Nat.ne_of_gt (by assumption) | exact Nat.ne_of_lt (by assumption) | omega
      rw [← e1, ← e2]; exact hit
    · have hv : (rangeV x y)[i]? = Option.none := by simp [rangeV]; omega
      rw [hv]
      exact wpAny_pyNext_range_end hA st (by first | assumption | exact Nat.le_of_lt (by assumption) | exact Nat.lt_of_lt_of_le (by assumption) (by assumption) | exact Nat.lt_of_le_of_lt (by assumption) (by assumption) | exact Nat.le_trans (by assumption) (by decide) | exact Nat.lt_of_le_of_lt (by assumption) (by decide) | exact Nat.lt_of_lt_of_le (by assumption) (Nat.le_trans (by assumption) (by decide)) | exact Nat.ne_of_gt (by assumption) | exact Nat.ne_of_lt (by assumption) | omega) fun h' he => ⟨h', s.toks, rfl, fun b o hb e => he b o hb e, rfl⟩
  self := fun A i s Q st q => wpAny_pyIter_rangeiter st q

theorem si_val {e : ME} {e' : PySem.Expr} (hset : ∀ env v, foldedSetIterable e' env v = pure v) (he : SE prog w h₀ n Φ sc e e') : SI prog w h₀ n Φ sc (.val e) e' := ⟨hset, fun A env ρ μ K s hA hF C h => by
  refine wpAny_mono (he A env ρ μ _ s hA hF C h) (fun v s' x => ?_) fun _ _ x => x
  refine Pst.elim x fun v' μ' h' tk hv R F qS => ?_
  obtain ⟨a, o, vs, rfl, e1, e2, k⟩ := qS
  rw [er_ref hv]
  have hI : μ' h'.objs.size = Option.none := HR.fresh R
  have hne : a ≠ h'.objs.size := fun q => by rw [q, hI] at e1; cases e1
  have hfr : New μ s.heap h'.objs.size := F.new (fresh_none _ _ (Nat.le_refl _))
  cases o with
  | dict _ => cases e2
  | ro _ => cases e2
  | list _ =>
    cases e2
    obtain ⟨items, c, ho, hl⟩ := R _ _ e1
    refine wpAny_pyIter_list (PySem.IsL.isList (n := c) ho) ?_
    exact ⟨μ', _, tk, h'.objs.size, vs, _, _, rfl, rfl, R.ext fun b o e => Heap.get?_push_of_some _ e, F.trans (Fm.pushGarbage _ _ _), hfr, hI, it_list _ a hne vs, ⟨_, Heap.get?_push_size _ rfl, rfl, rfl⟩, k⟩
  | tuple _ =>
    cases e2
    obtain ⟨items, c, ho, hl⟩ := R _ _ e1
    refine wpAny_pyIter_tuple ⟨_, ho, rfl, c, rfl⟩ ?_
    exact ⟨μ', _, tk, h'.objs.size, vs, _, _, rfl, rfl, R.ext fun b o e => Heap.get?_push_of_some _ e, F.trans (Fm.pushGarbage _ _ _), hfr, hI, it_tuple _ a hne vs, ⟨_, Heap.get?_push_size _ rfl, rfl, rfl⟩, k⟩⟩

theorem range_size (x y : Int) : Builtin.Range.rangeSize x y 1 = ((y - x).toNat : Int) := by
  unfold Builtin.Range.rangeSize
  rw [if_pos (show (1 : Int) > 0 by decide), Int.ediv_one]
  by_cases h : x < y
  · rw [if_pos h, Int.sub_add_cancel]; exact (Int.toNat_of_nonneg (Int.sub_nonneg_of_le (Int.le_of_lt h))).symm
  · rw [if_neg h, Int.toNat_of_nonpos (Int.sub_nonpos_of_le (Int.not_lt.mp h))]; rfl

theorem range_small {x y : Int} (hx : -1000 < x) (hx' : x < 1000) (hy : -1000 < y) (hy' : y < 1000) : Builtin.Range.small x y 1 = true := by
  have h1 := range_size x y
  unfold Builtin.Range.small
  rw [h1]
  simp only [Builtin.Range.rangeFitsLong, show (1 : Int) > 0 by decide, if_true, Bool.and_eq_true, Bool.or_eq_true, decide_eq_true_eq]
  refine ⟨⟨⟨⟨?_, ?_⟩, ?_⟩, ?_⟩, .inr ?_⟩ <;> first | omega | (simp; omega) | decide

theorem range_iter {A : Around} {s : Shared} {μ : Mu} {K : List V → (Mu → Prop) → Mu → Prop} {x y : Int} {r : Nat} {t u v : Tok} (R : HR prog w μ s.heap) (hr : IsRange s.heap r x y 1 t u v) (hx : -1000 < x) (hx' : x < 1000) (hy : -1000 < y) (hy' : y < 1000) (h : K (rangeV x y) (fun _ => True) μ) :
    wpAny (model prog w) A (pyIter (.ref r)) (PstI prog w s μ K) Nv s := by
  refine wpAny_pyIter_range hr (range_small hx hx' hy hy') ?_
  refine ⟨μ, _, s.toks, s.heap.objs.size, rangeV x y, _, _, rfl, rfl, R.ext fun b o e => Heap.get?_push_of_some _ e, Fm.pushGarbage _ _ _, fun o e => ?_, HR.fresh R, it_range _ x y, ?_, h⟩
  · rw [fresh_none _ _ (Nat.le_refl _)] at e; cases e
  · have := Heap.get?_push_size s.heap (o := { cls := .type "range_iterator", data := .fields #[rawInt x, rawInt (Builtin.Range.rangeSize x y 1), rawInt 1] }) rfl
    rw [range_size] at this ⊢
    show Heap.get? _ _ = some _
    simpa using this

theorem PstI.trans {s : Shared} {μ μ' : Mu} {h' : Heap} {tk : Nat} {K : List V → (Mu → Prop) → Mu → Prop} {v : Value} {s'' : Shared} (F : Fm μ s.heap μ' h') (x : PstI prog w { s with heap := h', toks := tk } μ' K v s'') : PstI prog w s μ K v s'' := by
  obtain ⟨μ₂, h₂, tk₂, I, items, src, St, e, ev, R, F₂, N, hI, it, st, k⟩ := x
  refine ⟨μ₂, h₂, tk₂, I, items, src, St, e, ev, R, F.trans F₂, fun o eo => ?_, hI, it, st, k⟩
  cases m : mutb μ I with
  | true => rfl
  | false =>
    obtain ⟨e1, e2⟩ := F _ _ eo m
    have := N _ e1
    rw [mutb_congr e2, m] at this; cases this

theorem si_range1 {e : ME} {e' : PySem.Expr} (p p' : Pos) (G : Gl h₀ mg mb fa) (hk : kindIs sc "range" .globalImplicit = true) (hst : ∀ env, starEach [e'] env = [(false, eval e' env)]) (he : SE prog w h₀ n Φ sc e e') : SI prog w h₀ n Φ sc (.range1 e) (.Call (.Name "range" p') [e'] [] p) := ⟨fun _ _ => rfl, fun A env ρ μ K s hA hF C h =>
  call_t1 G hA hF C hk (in_names 4 rfl) boot_range hst he h fun v v' μ' h' tk hv R F ⟨i, ei, hi, hi', k⟩ => by
    subst ei; obtain ⟨t, rfl⟩ := er_int hv
    refine call_range_1 ?_
    refine wpAny_mono (range_iter (s := { s with heap := h'.push _, toks := _ }) (R.ext fun b o e => Heap.get?_push_of_some _ e) (IsRange.new ..) (by decide) (by decide) hi hi' k) (fun _ _ z => ?_) fun _ _ x => x
    exact PstI.trans (tk := tk + 1 + 1) (F.trans (Fm.pushGarbage _ _ _)) z⟩
theorem si_range2 {l r : ME} {l' r' : PySem.Expr} (p p' : Pos) (G : Gl h₀ mg mb fa) (hk : kindIs sc "range" .globalImplicit = true) (hst : ∀ env, starEach [l', r'] env = (false, eval l' env) :: starEach [r'] env) (hst' : ∀ env, starEach [r'] env = [(false, eval r' env)])
    (hl : SE prog w h₀ n Φ sc l l') (hr : SE prog w h₀ n Φ sc r r') : SI prog w h₀ n Φ sc (.range2 l r) (.Call (.Name "range" p') [l', r'] [] p) := ⟨fun _ _ => rfl, fun A env ρ μ K s hA hF C h => by
  refine Call_ (glob_name G hF C.bs hk (in_names 4 rfl) boot_range ?_)
  rw [hst env, hst' env]
  refine PySem.callWith_type rfl (Calls.evalArgs_plain (Calls.spliced_cons (wpAny_mono (hl A env ρ μ _ s hA hF C h) (fun v s' x => ?_) fun _ _ x => x)))
  refine Pst.elim x fun v' μ' h' tk hv R F q => ?_
  refine Calls.spliced_cons (wpAny_mono (hr A env ρ μ' _ _ hA hF (C.mono F R) q) (fun u s'' x => ?_) fun _ _ x => x)
  refine Pst.elim x fun u' μ'' h'' tk' hu R' F' qS => ?_
  obtain ⟨i, j, rfl, rfl, hi, hi', hj, hj', k⟩ := qS
  obtain ⟨t, rfl⟩ := er_int hv; obtain ⟨t', rfl⟩ := er_int hu
  refine Calls.spliced_nil (call_range_2 ?_)
  refine wpAny_mono (range_iter (s := { s with heap := h''.push _, toks := _ }) (R'.ext fun b o e => Heap.get?_push_of_some _ e) (IsRange.new ..) hi hi' hj hj' k) (fun _ _ z => ?_) fun _ _ x => x
  exact PstI.trans (tk := tk' + 1) (F.trans (F'.trans (Fm.pushGarbage _ _ _))) z⟩
end
end Mine

end PartML5

section PartML6
open PySem PySem.W PyProof.Rows
set_option linter.unusedVariables false
set_option linter.unusedSimpArgs false
set_option maxRecDepth 100000
namespace Mine

/-! the closure of a block -/
noncomputable def clOf (env : Env) : List (Str × NameKind) → List (Str × Addr) → List (Str × Addr)
  | [], acc => acc
  | (n, k) :: r, acc => if k == .free then (match env.cells.lookup n with | some c => clOf env r ((n, c) :: acc) | Option.none => clOf env r acc) else clOf env r acc

noncomputable def clStep (env : Env) (x : Str × NameKind) (r : List (Str × Addr)) : Sem (ForInStep (List (Str × Addr))) := match x with
  | (name, kind) => if kind == .free then (do let c ← cellOf env name; pure (.yield ((name, c) :: r))) else pure (.yield r)
theorem clStep_free {env : Env} {n : Str} {c : Addr} (r : List (Str × Addr)) (h : env.cells.lookup n = some c) : clStep env (n, .free) r = pure (.yield ((n, c) :: r)) := by
  unfold clStep cellOf; simp only [h]; rfl
theorem clStep_other {env : Env} {n : Str} {k : NameKind} (r : List (Str × Addr)) (h : k ≠ .free) : clStep env (n, k) r = pure (.yield r) := by
  unfold clStep
  have : (k == NameKind.free) = false := by simpa using h
  simp only [this, Bool.false_eq_true, if_false]
theorem clStep_all {env : Env} : ∀ (l : List (Str × NameKind)) (acc : List (Str × Addr)), (∀ p ∈ l, p.2 = .free → (env.cells.lookup p.1).isSome = true) → forIn l acc (clStep env) = pure (clOf env l acc)
  | [], acc, _ => rfl
  | (n, k) :: r, acc, h => by
    have ih := fun acc => clStep_all r acc fun q hq => h q (List.mem_cons_of_mem _ hq)
    rw [List.forIn_cons]
    unfold clOf
    by_cases hk : k = .free
    · subst hk
      obtain ⟨c, hc⟩ := Option.isSome_iff_exists.mp (h (n, .free) List.mem_cons_self rfl)
      have hc' : env.cells.lookup n = some c := hc
      rw [clStep_free acc hc', pure_bind]
      simp only [hc', beq_self_eq_true, if_true]
      exact ih _
    · rw [clStep_other acc hk, pure_bind]
      have : (k == NameKind.free) = false := by simpa using hk
      simp only [this, Bool.false_eq_true, if_false]
      exact ih _
theorem closure_eq {env : Env} {inner : Scope} (h : ∀ p ∈ inner.names, p.2 = .free → (env.cells.lookup p.1).isSome = true) : closureFor inner env = pure (clOf env inner.names []) := by
  have e : closureFor inner env = forIn inner.names [] (clStep env) >>= pure := rfl
  rw [e, clStep_all _ _ h]; rfl

theorem clOf_lookup {env : Env} : ∀ (l : List (Str × NameKind)) (acc : List (Str × Addr)) (n : Str) (c : Addr), (∀ n c, acc.lookup n = some c → env.cells.lookup n = some c) → (clOf env l acc).lookup n = some c → env.cells.lookup n = some c
  | [], acc, n, c, ha, h => ha n c h
  | (m, k) :: r, acc, n, c, ha, h => by
    unfold clOf at h
    split at h
    · split at h
      · rename_i d hd
        refine clOf_lookup r _ n c (fun n' c' h' => ?_) h
        rw [List.lookup_cons] at h'
        cases e : n' == m with
        | true => rw [e] at h'; cases h'; rw [eq_of_beq e]; exact hd
        | false => rw [e] at h'; exact ha n' c' h'
      · exact clOf_lookup r acc n c ha h
    · exact clOf_lookup r acc n c ha h
theorem clOf_has {env : Env} {n : Str} {c : Addr} (hc : env.cells.lookup n = some c) : ∀ (l : List (Str × NameKind)) (acc : List (Str × Addr)), ((n, NameKind.free) ∈ l ∨ ∃ c', acc.lookup n = some c') → ∃ c', (clOf env l acc).lookup n = some c'
  | [], acc, h => by
    rcases h with h | h
    · cases h
    · exact h
  | (m, k) :: r, acc, h => by
    unfold clOf
    have keep : ∀ d, (∃ c', acc.lookup n = some c') → ∃ c', ((m, d) :: acc).lookup n = some c' := fun d ⟨c', e⟩ => by
      rw [List.lookup_cons]; cases n == m <;> exact ⟨_, by first | rfl | exact e⟩
    split
    · rename_i hk
      split
      · rename_i d hd
        refine clOf_has hc r _ ?_
        rcases h with h | h
        · rcases List.mem_cons.mp h with e | h
          · cases e; right; exact ⟨d, by simp [List.lookup_cons]⟩
          · exact .inl h
        · exact .inr (keep d h)
      · rename_i hd
        refine clOf_has hc r _ ?_
        rcases h with h | h
        · rcases List.mem_cons.mp h with e | h
          · cases e; rw [hd] at hc; cases hc
          · exact .inl h
        · exact .inr h
    · rename_i hk
      refine clOf_has hc r _ ?_
      rcases h with h | h
      · rcases List.mem_cons.mp h with e | h
        · cases e; exact absurd rfl hk
        · exact .inl h
      · exact .inr h

theorem cellLt {h : Heap} {c : Nat} {v : Option Value} (x : h.IsCell c v) : @LT.lt Nat _ c h.objs.size := x.lt
theorem szLt {h : Heap} {c : Nat} {o : Obj} (x : h.get? c = some o) : @LT.lt Nat _ c h.objs.size := Heap.lt_size x
/-! the cells of a block -/
theorem cells_old : ∀ (l : List (Str × NameKind)) (k : Nat) (acc : List (Str × Addr)) (n : Str), (∀ p ∈ l, p.1 = n → p.2 ≠ .cell) → (cellsFrom k l acc).lookup n = acc.lookup n
  | [], _, _, _, _ => rfl
  | (m, kd) :: r, k, acc, n, h => by
    unfold cellsFrom
    split
    · rename_i hk
      rw [cells_old r (k + 1) _ n fun p hp => h p (List.mem_cons_of_mem _ hp), List.lookup_cons]
      cases e : n == m with
      | true => exact absurd (by simpa using hk) (h (m, kd) List.mem_cons_self (eq_of_beq e).symm)
      | false => rfl
    · exact cells_old r k acc n fun p hp => h p (List.mem_cons_of_mem _ hp)
/-- a cell of the block's own is new, empty, and no other name's -/
theorem cells_new : ∀ (l : List (Str × NameKind)) (h : Heap) (acc : List (Str × Addr)) (lo : Nat), lo ≤ h.objs.size →
    (∀ (n : Str) (c : Nat), acc.lookup n = some c → c < lo ∨ (lo ≤ c ∧ c < h.objs.size ∧ h.IsCell c Option.none)) → (∀ (n n' : Str) (c : Nat), lo ≤ c → acc.lookup n = some c → acc.lookup n' = some c → n = n') →
    (∀ (n : Str) (c : Nat), (cellsFrom h.objs.size l acc).lookup n = some c → c < lo ∨ (lo ≤ c ∧ (pushCells h l).IsCell c Option.none)) ∧
    (∀ (n n' : Str) (c : Nat), lo ≤ c → (cellsFrom h.objs.size l acc).lookup n = some c → (cellsFrom h.objs.size l acc).lookup n' = some c → n = n')
  | [], h, acc, lo, hlo, h1, h2 => ⟨fun n c e => (h1 n c e).imp id fun x => ⟨x.1, x.2.2⟩, h2⟩
  | (m, kd) :: r, h, acc, lo, hlo, h1, h2 => by
    unfold cellsFrom pushCells
    split
    · have := cells_new r (h.push { cls := .type "cell", data := .cell Option.none }) ((m, h.objs.size) :: acc) lo (by rw [Heap.size_push]; omega) (fun n c e => ?_) (fun n n' c hc e e' => ?_)
      · rwa [Heap.size_push] at this
      · rw [List.lookup_cons] at e
        rw [Heap.size_push]
        cases q : n == m with
        | true => rw [q] at e; cases e; exact .inr ⟨hlo, Nat.lt_succ_self _, _, Heap.get?_push_size _ rfl, rfl⟩
        | false =>
          rw [q] at e
          rcases h1 n c e with x | ⟨x1, x2, x3⟩
          · exact .inl x
          · exact .inr ⟨x1, Nat.lt_succ_of_lt x2, x3.keeps fun b o e => Heap.get?_push_of_some _ e⟩
      · rw [List.lookup_cons] at e e'
        have lt : ∀ n, acc.lookup n = some c → c < h.objs.size := fun n e => (h1 n c e).elim (fun x => absurd hc (Nat.not_le.mpr x)) fun x => x.2.1
        cases q : n == m with
        | true =>
          rw [q] at e; cases e
          cases q' : n' == m with
          | true => exact (eq_of_beq q).trans (eq_of_beq q').symm
          | false => rw [q'] at e'; exact absurd (lt n' e') (Nat.lt_irrefl _)
        | false =>
          rw [q] at e
          cases q' : n' == m with
          | true => rw [q'] at e'; cases e'; exact absurd (lt n e) (Nat.lt_irrefl _)
          | false => rw [q'] at e'; exact h2 n n' c hc e e'
    · exact cells_new r h acc lo hlo h1 h2
theorem cells_has : ∀ (l : List (Str × NameKind)) (k : Nat) (acc : List (Str × Addr)) (n : Str), ((n, NameKind.cell) ∈ l ∨ ∃ c, acc.lookup n = some c) → ∃ c, (cellsFrom k l acc).lookup n = some c
  | [], _, _, _, h => by
    rcases h with h | h
    · cases h
    · exact h
  | (m, kd) :: r, k, acc, n, h => by
    unfold cellsFrom
    split
    · refine cells_has r _ _ n ?_
      rcases h with h | ⟨c, e⟩
      · rcases List.mem_cons.mp h with e | h
        · cases e; right; exact ⟨k, by simp [List.lookup_cons]⟩
        · exact .inl h
      · right
        rw [List.lookup_cons]
        cases n == m <;> exact ⟨_, by first | rfl | exact e⟩
    · rename_i hk
      refine cells_has r _ _ n ?_
      rcases h with h | h
      · rcases List.mem_cons.mp h with e | h
        · cases e; exact absurd rfl hk
        · exact .inl h
      · exact .inr h

theorem cells_own : ∀ (l : List (Str × NameKind)) (k : Nat) (acc : List (Str × Addr)) (n : Str) (c : Nat), (n, NameKind.cell) ∈ l → (cellsFrom k l acc).lookup n = some c → k ≤ c
  | [], _, _, _, _, h, _ => by cases h
  | (m, kd) :: r, k, acc, n, c, h, e => by
    by_cases hr : (n, NameKind.cell) ∈ r
    · unfold cellsFrom at e
      split at e
      · exact Nat.le_of_succ_le (cells_own r (k + 1) _ n c hr e)
      · exact cells_own r k _ n c hr e
    · rcases List.mem_cons.mp h with q | q
      · cases q
        unfold cellsFrom at e
        simp only [beq_self_eq_true, if_true] at e
        rw [cells_old r (k + 1) _ m (fun p hp e1 e2 => hr (by obtain ⟨a, b⟩ := p; cases e1; cases e2; exact hp))] at e
        have e' : k = c := by simpa [List.lookup_cons] using e
        exact Nat.le_of_eq e'
      · exact absurd q hr

theorem relabel_lookup {env : Env} : ∀ {names : List (Str × NameKind)} {x : Str} {k : NameKind}, names.lookup x = some k →
    (names.map fun (n, k) => if (k == NameKind.free && env.scope.kind == .function && env.kindOf n == some .cell) then (n, NameKind.cell) else (n, k)).lookup x =
      some (if (k == NameKind.free && env.scope.kind == .function && env.kindOf x == some .cell) then NameKind.cell else k)
  | [], _, _, h => by simp at h
  | (n, kd) :: r, x, k, h => by
    have ih := @relabel_lookup env r x k
    rw [List.map_cons]
    cases hx : x == n with
    | true =>
      simp only [List.lookup_cons, hx] at h
      cases h
      have hx' := eq_of_beq hx
      subst hx'
      dsimp only
      split <;> simp [List.lookup_cons]
    | false =>
      simp only [List.lookup_cons, hx] at h
      dsimp only
      split <;> simp only [List.lookup_cons, hx] <;> exact ih h
theorem relabel_none {env : Env} : ∀ {names : List (Str × NameKind)} {x : Str}, names.lookup x = Option.none →
    (names.map fun (n, k) => if (k == NameKind.free && env.scope.kind == .function && env.kindOf n == some .cell) then (n, NameKind.cell) else (n, k)).lookup x = Option.none
  | [], _, h => rfl
  | (n, kd) :: r, x, h => by
    have ih := @relabel_none env r x
    rw [List.map_cons]
    cases hx : x == n with
    | true => simp only [List.lookup_cons, hx] at h; cases h
    | false =>
      simp only [List.lookup_cons, hx] at h
      dsimp only
      split <;> simp only [List.lookup_cons, hx] <;> exact ih h

/-- a block's environment -/
noncomputable abbrev blockEnv (inner : Scope) (L : Nat) (env : Env) : Env :=
  { scope := relabel inner env, locals := L, globals := env.globals, cells := cellsFrom (L + 1) inner.names (clOf env inner.names []), qual := env.qual, func := Option.none, code := env.code, frame := env.frame, builtins := env.builtins }

section
variable {prog : Program} {w : World} {h₀ : Heap} {sc inner : Scope} {env : Env}

theorem scopeOk_mem (h : scopeOk sc inner = true) {p : Str × NameKind} (hp : p ∈ inner.names) : inner.names.lookup p.1 = some p.2 ∧ (p.2 = .free → sc.names.lookup p.1 = some .cell ∨ sc.names.lookup p.1 = some .free) := by
  simp only [scopeOk, Bool.and_eq_true, List.all_eq_true] at h
  have := h.2 p hp
  simp only [Bool.and_eq_true, Bool.or_eq_true, kindIs, beq_iff_eq, bne_iff_ne, ne_eq] at this
  refine ⟨this.1.1, fun hf => ?_⟩
  rcases this.1.2 with (x | x) | x
  · exact absurd hf x
  · exact .inl x
  · exact .inr x
theorem scopeOk_kind (h : scopeOk sc inner = true) : inner.kind = .function := by
  simp only [scopeOk, Bool.and_eq_true, beq_iff_eq] at h; exact h.1

theorem free_cell (hF : EnvFits sc env) (h : scopeOk sc inner = true) {n : Str} (hn : inner.names.lookup n = some .free) : ∃ c, env.cells.lookup n = some c := by
  have := (scopeOk_mem h (mem_of_lookup hn)).2 rfl
  rcases this with x | x
  · exact (hF.cel _ x).2
  · exact (hF.fre _ x).2

theorem block_fits (hF : EnvFits sc env) (h : scopeOk sc inner = true) (L : Nat) : EnvFits inner (blockEnv inner L env) where
  kind := (scopeOk_kind h : inner.kind = .function)
  glob := hF.glob
  blt := hF.blt
  loc := fun n e => by
    show (relabel inner env).names.lookup n = _
    exact (relabel_lookup e).trans (by simp)
  cel := fun n e => ⟨(relabel_lookup e).trans (by simp), cells_has _ _ _ _ (.inl (mem_of_lookup e))⟩
  fre := fun n e => by
    obtain ⟨c, hc⟩ := free_cell hF h e
    refine ⟨?_, ?_⟩
    · have := relabel_lookup (env := env) e
      show (relabel inner env).names.lookup n = _ ∨ (relabel inner env).names.lookup n = _
      rw [show (relabel inner env).names.lookup n = _ from this]
      split
      · exact .inr rfl
      · exact .inl rfl
    · obtain ⟨c', hc'⟩ := clOf_has hc inner.names [] (.inl (mem_of_lookup e))
      exact cells_has _ _ _ _ (.inr ⟨c', hc'⟩)
  glo := fun n e => (relabel_lookup e).trans (by simp)

/-- the block's frame at its start: what is not its own reads as around it -/
theorem block_env {ρ : Rho} {μ : Mu} {s : Shared} {h' : Heap} (hF : EnvFits sc env) (hs : scopeOk sc inner = true) (R : EnvR env ρ μ s.heap) (H : HR prog w μ s.heap) (xs : List X) (hx : onlyLocals inner (xs.map X.nm) = true) (hno : ∀ x ∈ xs, ρ x = Option.none)
    (hn : h'.Ns s.heap.objs.size (fun _ => Option.none)) (hk : ∀ b o, (s.heap.push { cls := .type "dict", data := .dict #[] }).get? b = some o → h'.get? b = some o)
    (hc : h' = pushCells (s.heap.push { cls := .type "dict", data := .dict #[] }) inner.names) :
    EnvR (blockEnv inner s.heap.objs.size env) ρ μ h' := by
  have hsz : (s.heap.push { cls := .type "dict", data := .dict #[] }).objs.size = s.heap.objs.size + 1 := Heap.size_push ..
  have old : ∀ b o, s.heap.get? b = some o → h'.get? b = some o := fun b o e => hk b o (Heap.get?_push_of_some _ e)
  have cn := cells_new inner.names (s.heap.push { cls := .type "dict", data := .dict #[] }) (clOf env inner.names []) (s.heap.objs.size + 1) (by rw [hsz]; exact Nat.le_refl _) (fun n c e => by
    obtain ⟨v, hv⟩ := R.cell n c (clOf_lookup _ _ _ _ (fun _ _ q => by cases q) e)
    exact .inl (Nat.lt_succ_of_lt (cellLt hv))) (fun n n' c hlo e _ => by
    obtain ⟨v, hv⟩ := R.cell n c (clOf_lookup _ _ _ _ (fun _ _ q => by cases q) e)
    exact absurd (cellLt hv) (by first | assumption | exact Nat.le_of_lt (by assumption) | exact Nat.lt_of_lt_of_le (by assumption) (by assumption) | exact Nat.lt_of_le_of_lt (by assumption) (by assumption) | exact Nat.le_trans (by assumption) (by decide) | exact Nat.lt_of_le_of_lt (by assumption) (by decide) | exact Nat.lt_of_lt_of_le (by assumption) (Nat.le_trans (by assumption) (by decide)) | exact Nat.ne_of_gt (by assumption) | exact Nat.ne_of_lt (by assumption) | omega))
  rw [hsz, ← hc] at cn
  have big : ∀ c : Nat, s.heap.objs.size ≤ c → μ c = Option.none := fun c hlo => by
    cases e : μ c with
    | none => rfl
    | some o => obtain ⟨ob, e'⟩ := (H _ _ e).there; exact absurd (szLt e') (by first | assumption | exact Nat.le_of_lt (by assumption) | exact Nat.lt_of_lt_of_le (by assumption) (by assumption) | exact Nat.lt_of_le_of_lt (by assumption) (by assumption) | exact Nat.le_trans (by assumption) (by decide) | exact Nat.lt_of_le_of_lt (by assumption) (by decide) | exact Nat.lt_of_lt_of_le (by assumption) (Nat.le_trans (by assumption) (by decide)) | exact Nat.ne_of_gt (by assumption) | exact Nat.ne_of_lt (by assumption) | omega)
  -- a name that is bound here is none of the block's own
  have notOwn : ∀ x v, ρ x = some v → inner.names.lookup x.nm ≠ some .local ∧ ∀ p ∈ inner.names, p.1 = x.nm → p.2 ≠ .cell := fun x v hv => by
    have key : ∀ p ∈ inner.names, p.1 = x.nm → p.2 ≠ .local ∧ p.2 ≠ .cell := fun p hp e => by
      have := List.all_eq_true.mp hx p hp
      simp only [Bool.or_eq_true, Bool.and_eq_true, bne_iff_ne, ne_eq, beq_iff_eq, List.contains_iff_mem] at this
      rcases this with (q | q) | q
      · exact q
      · exact absurd (e ▸ q) (X.nm_dot x)
      · obtain ⟨y, hy, ey⟩ := List.mem_map.mp q
        have := X.nm_inj (ey.trans e)
        subst this
        rw [hno _ hy] at hv; cases hv
    exact ⟨fun e => (key _ (mem_of_lookup e) rfl).1 rfl, fun p hp e => (key p hp e).2⟩
  have kinds : ∀ x k, (blockEnv inner s.heap.objs.size env).kindOf x = some k → ∃ k', inner.names.lookup x = some k' ∧ (k = .local → k' = .local) := fun x k e => by
    have e' : (relabel inner env).names.lookup x = some k := e
    cases q : inner.names.lookup x with
    | none => rw [show (relabel inner env).names.lookup x = _ from relabel_none q] at e'; cases e'
    | some k' =>
      refine ⟨k', rfl, fun hl => ?_⟩
      rw [show (relabel inner env).names.lookup x = _ from relabel_lookup q] at e'
      subst hl
      split at e'
      · cases e'
      · exact Option.some.inj e'
  have lookOld : ∀ x v, ρ x = some v → (blockEnv inner s.heap.objs.size env).cells.lookup x.nm = (clOf env inner.names []).lookup x.nm := fun x v hv => cells_old _ _ _ _ (notOwn x v hv).2
  -- a cell below is one of those around
  have oldCell : ∀ (n : Str) (c : Nat), (blockEnv inner s.heap.objs.size env).cells.lookup n = some c → c < s.heap.objs.size + 1 → env.cells.lookup n = some c := fun n c e lt => by
    have e2 : (clOf env inner.names []).lookup n = some c := by
      have : (blockEnv inner s.heap.objs.size env).cells.lookup n = _ := cells_old inner.names (s.heap.objs.size + 1) (clOf env inner.names []) n fun p hp e1 e2 => by
        obtain ⟨a, b⟩ := p; cases e1; cases e2
        have := cells_own _ _ _ _ _ hp e
        omega
      rw [← this]; exact e
    exact clOf_lookup _ _ _ _ (fun _ _ q => by cases q) e2
  refine ⟨⟨_, hn, fun x v hv hk' => ?_⟩, fun n (c : Nat) e => ?_, fun x v c hv hk' e => ?_, big _ (Nat.le_refl _), fun n (c : Nat) e => ?_, fun n n' (c : Nat) e e' => ?_⟩
  · obtain ⟨k', q, l⟩ := kinds _ _ hk'
    exact absurd (q.trans (by rw [l rfl])) (notOwn x v hv).1
  · rcases cn.1 n c e with lt | ⟨_, hcell⟩
    · obtain ⟨v, hv⟩ := R.cell n c (oldCell n c e lt)
      exact ⟨v, hv.keeps old⟩
    · exact ⟨_, hcell⟩
  · rw [lookOld x v hv] at e
    have e2 := clOf_lookup _ _ _ _ (fun _ _ q => by cases q) e
    have hkk : env.kindOf x.nm = some .cell ∨ env.kindOf x.nm = some .free := by
      have hk2 : ∃ k', inner.names.lookup x.nm = some k' ∧ k' = .free := by
        rcases hk' with hk' | hk'
        · obtain ⟨k', q, _⟩ := kinds _ _ hk'
          refine ⟨k', q, ?_⟩
          have e' : (relabel inner env).names.lookup x.nm = some .cell := hk'
          rw [show (relabel inner env).names.lookup x.nm = _ from relabel_lookup q] at e'
          split at e'
          · rename_i hb
            simp only [Bool.and_eq_true, beq_iff_eq] at hb
            exact hb.1.1
          · exact absurd (Option.some.inj e') ((notOwn x v hv).2 _ (mem_of_lookup q) rfl)
        · obtain ⟨k', q, _⟩ := kinds _ _ hk'
          refine ⟨k', q, ?_⟩
          have e' : (relabel inner env).names.lookup x.nm = some .free := hk'
          rw [show (relabel inner env).names.lookup x.nm = _ from relabel_lookup q] at e'
          split at e'
          · cases e'
          · exact Option.some.inj e'
      obtain ⟨k', q, rfl⟩ := hk2
      rcases (scopeOk_mem hs (mem_of_lookup q)).2 rfl with y | y
      · exact .inl (hF.cel _ y).1
      · exact (hF.fre _ y).1.symm
    obtain ⟨w', h1, h2⟩ := R.val x v c hv hkk e2
    exact ⟨w', h1.keeps old, h2⟩
  · rcases cn.1 n c e with lt | ⟨ge, hcell⟩
    · exact R.offC n c (oldCell n c e lt)
    · exact big _ (by first | assumption | exact Nat.le_of_lt (by assumption) | exact Nat.lt_of_lt_of_le (by assumption) (by assumption) | exact Nat.lt_of_le_of_lt (by assumption) (by assumption) | exact Nat.le_trans (by assumption) (by decide) | exact Nat.lt_of_le_of_lt (by assumption) (by decide) | exact Nat.lt_of_lt_of_le (by assumption) (Nat.le_trans (by assumption) (by decide)) | exact Nat.ne_of_gt (by assumption) | exact Nat.ne_of_lt (by assumption) | omega)
  · by_cases hlo : s.heap.objs.size + 1 ≤ c
    · exact cn.2 n n' c hlo e e'
    · exact R.apart n n' c (oldCell n c e (by first | assumption | exact Nat.le_of_lt (by assumption) | exact Nat.lt_of_lt_of_le (by assumption) (by assumption) | exact Nat.lt_of_le_of_lt (by assumption) (by assumption) | exact Nat.le_trans (by assumption) (by decide) | exact Nat.lt_of_le_of_lt (by assumption) (by decide) | exact Nat.lt_of_lt_of_le (by assumption) (Nat.le_trans (by assumption) (by decide)) | exact Nat.ne_of_gt (by assumption) | exact Nat.ne_of_lt (by assumption) | omega)) (oldCell n' c e' (by first | assumption | exact Nat.le_of_lt (by assumption) | exact Nat.lt_of_lt_of_le (by assumption) (by assumption) | exact Nat.lt_of_le_of_lt (by assumption) (by assumption) | exact Nat.le_trans (by assumption) (by decide) | exact Nat.lt_of_le_of_lt (by assumption) (by decide) | exact Nat.lt_of_lt_of_le (by assumption) (Nat.le_trans (by assumption) (by decide)) | exact Nat.ne_of_gt (by assumption) | exact Nat.ne_of_lt (by assumption) | omega))
end
end Mine

end PartML6

section PartML7
open PySem PySem.W PyProof.Rows
set_option linter.unusedVariables false
set_option linter.unusedSimpArgs false
set_option maxRecDepth 100000
namespace Mine

section
variable {prog : Program} {w : World} {h₀ : Heap} {n : Nat} {Φ : Phi} {sc inner : Scope} {env : Env} {A : Around}

theorem newEnv_block {cl : List (Str × Addr)} {s : Shared} {Q : Env → Shared → Prop}
    (hQ : Q { scope := inner, locals := s.heap.objs.size, globals := env.globals, cells := cellsFrom (s.heap.objs.size + 1) inner.names cl, qual := env.qual, func := Option.none, code := env.code, frame := env.frame, builtins := env.builtins }
      { s with heap := pushCells (s.heap.push { cls := .type "dict", data := .dict #[] }) inner.names }) :
    wpAny (model prog w) A (newFunctionEnv inner env.globals cl [] env.qual Option.none .none (some env)) Q Nv s := by
  simp only [newFunctionEnv, Option.isSome_some, if_true]
  refine wpAny_bind (wpAny_alloc ?_)
  refine wpAny_bind (wpAny_layCells _ (fun name kind cells => by cases hkc : kind == NameKind.cell <;> simp [hkc]) _ _ _ _ ?_)
  rw [List.forIn_nil]
  rw [show ({ s with heap := s.heap.push { cls := .type "dict", data := .dict #[] } } : Shared).heap.objs.size = s.heap.objs.size + 1 from Heap.size_push ..]
  exact wpAny_bind (wpAny_pure (wpAny_pure hQ))

theorem ns_ne_cell {h : Heap} {L c : Nat} {m : Str → Option Value} {v : Option Value} (hn : h.Ns L m) (hc : h.IsCell c v) : c ≠ L := fun q => by
  subst q
  obtain ⟨o, es, ep, ho, hd, _⟩ := hn
  obtain ⟨o', ho', hd'⟩ := hc
  rw [ho] at ho'
  cases ho'
  rw [hd] at hd'; cases hd'

/-- a name is bound -/
theorem store_ok {ρ : Rho} {μ : Mu} {s : Shared} {x : X} {v : V} {y : Value} {Q : Unit → Shared → Prop} (hF : EnvFits sc env) (R : EnvR env ρ μ s.heap) (hb : canBind sc x = true) (hy : er y = some v)
    (hQ : ∀ h' tk d, (d = env.locals ∨ (sc.names.lookup x.nm = some .cell ∧ env.cells.lookup x.nm = some d)) → EnvR env (bnd ρ x v) μ h' → (∀ b o, b ≠ d → s.heap.get? b = some o → h'.get? b = some o) → Q () { s with heap := h', toks := tk }) :
    wpAny (model prog w) A (storeName env x.nm y) Q Nv s := by
  simp only [canBind, Bool.or_eq_true, kindIs, beq_iff_eq] at hb
  obtain ⟨m, hn, hm⟩ := R.ns
  rcases hb with hb | hb
  · have hl := hF.loc _ hb
    refine wpAny_storeName_local hl hn (fun h' hn' hs' => hQ h' _ _ (.inl rfl) ?_ fun b o hbL e => (hs'.2 b hbL).trans e) (by rw [hF.kind]; rfl)
    have keepC : ∀ c v, s.heap.IsCell c v → h'.IsCell c v := fun c v hc => hc.sameBut hs' (ns_ne_cell hn hc)
    refine ⟨⟨_, hn', fun z u hz hk => ?_⟩, fun nn c e => ?_, fun z u c hz hk e => ?_, R.offL, R.offC, R.apart⟩
    · by_cases hzx : z = x
      · subst hzx
        rw [bnd, if_pos rfl] at hz; cases hz
        exact ⟨y, if_pos rfl, hy⟩
      · rw [bnd, if_neg hzx] at hz
        obtain ⟨w', h1, h2⟩ := hm z u hz hk
        exact ⟨w', by rw [if_neg fun q => hzx (X.nm_inj q)]; exact h1, h2⟩
    · obtain ⟨v', hc⟩ := R.cell nn c e; exact ⟨v', keepC _ _ hc⟩
    · by_cases hzx : z = x
      · subst hzx; rw [hl] at hk; rcases hk with q | q <;> cases q
      · rw [bnd, if_neg hzx] at hz
        obtain ⟨w', h1, h2⟩ := R.val z u c hz hk e
        exact ⟨w', keepC _ _ h1, h2⟩
  · obtain ⟨hl, c, hc⟩ := hF.cel _ hb
    obtain ⟨v₀, hcell⟩ := R.cell _ _ hc
    refine wpAny_storeName_cell hF.kind hl hc hcell fun h' hc' hs' => hQ h' s.toks c (.inr ⟨hb, hc⟩) ?_ fun b o hbc e => (hs'.2 b hbc).trans e
    have hne : c ≠ env.locals := ns_ne_cell hn hcell
    refine ⟨⟨m, hn.sameBut hs' (Ne.symm hne), fun z u hz hk => ?_⟩, fun nn c' e => ?_, fun z u c' hz hk e => ?_, R.offL, R.offC, R.apart⟩
    · by_cases hzx : z = x
      · subst hzx; rw [hl] at hk; cases hk
      · rw [bnd, if_neg hzx] at hz; exact hm z u hz hk
    · by_cases q : c' = c
      · subst q; exact ⟨_, hc'⟩
      · obtain ⟨v', h1⟩ := R.cell nn c' e; exact ⟨v', h1.sameBut hs' q⟩
    · by_cases hzx : z = x
      · subst hzx
        rw [bnd, if_pos rfl] at hz; cases hz
        rw [hc] at e; cases e
        exact ⟨y, hc', hy⟩
      · rw [bnd, if_neg hzx] at hz
        obtain ⟨w', h1, h2⟩ := R.val z u c' hz hk e
        have q : c' ≠ c := fun q => hzx (X.nm_inj (R.apart _ _ _ e (q ▸ hc)))
        exact ⟨w', h1.sameBut hs' q, h2⟩

theorem HR.add {μ : Mu} {h : Heap} {D : Nat} {o : O} (R : HR prog w μ h) (hD : μ D = Option.none) (hO : OR prog w (upd μ D o) h D o) : HR prog w (upd μ D o) h := fun a x hx => by
  by_cases ha : a = D
  · subst ha; rw [upd_self] at hx; cases hx; exact hO
  · rw [upd_ne _ _ ha] at hx
    exact (R a x hx).keep (fun _ e => e) fun b ob vs e m => ⟨e, upd_ne _ _ fun q => by subst q; rw [hD] at m; cases m⟩
theorem Fm.add {μ μ' : Mu} {h h' : Heap} {D : Nat} {o : O} (F : Fm μ h μ' h') (N : New μ h D) : Fm μ h (upd μ' D o) h' := fun b ob e m =>
  ⟨(F b ob e m).1, (upd_ne _ _ fun q => by subst q; rw [N _ e] at m; cases m).trans (F b ob e m).2⟩

/-- an object that is no frame and no cell -/
noncomputable def Odd (h : Heap) (I : Nat) : Prop := ∃ o, h.get? I = some o ∧ (∀ v, o.data ≠ .cell v) ∧ ∀ es ep, o.data ≠ .dict es ep
theorem Odd.fields {h : Heap} {I : Nat} (x : ∃ o vs, h.get? I = some o ∧ o.data = .fields vs) : Odd h I :=
  let ⟨o, vs, ho, hd⟩ := x; ⟨o, ho, (fun v q => by rw [hd] at q; cases q), fun es ep q => by rw [hd] at q; cases q⟩
theorem Odd.list {h : Heap} {I : Nat} {its : Array Value} {nn : Nat} (ho : h.get? I = some (listO its nn)) : Odd h I := ⟨_, ho, (fun v q => by cases q), fun es ep q => by cases q⟩
theorem EnvR.but {ρ : Rho} {μ : Mu} {h h' : Heap} {I : Nat} (R : EnvR env ρ μ h) (hI : Odd h I) (k : ∀ b o, b ≠ I → h.get? b = some o → h'.get? b = some o) : EnvR env ρ μ h' := by
  obtain ⟨o, ho, h1, h2⟩ := hI
  have nc : ∀ c v, h.IsCell c v → h'.IsCell c v := fun c v ⟨ob, hob, hd⟩ => ⟨ob, k c ob (fun q => by subst q; rw [ho] at hob; cases hob; exact h1 _ hd) hob, hd⟩
  refine ⟨?_, fun nn c e => ?_, fun z u c hz hk e => ?_, R.offL, R.offC, R.apart⟩
  · obtain ⟨m, hn, hm⟩ := R.ns
    exact ⟨m, hn.at' fun ob e => k _ ob (fun q => by
      obtain ⟨o', es, ep, ho', hd', _⟩ := hn
      rw [q, ho] at ho'; cases ho'; exact h2 _ _ hd') e, hm⟩
  · obtain ⟨v, hc⟩ := R.cell nn c e; exact ⟨v, nc _ _ hc⟩
  · obtain ⟨w', a, b⟩ := R.val z u c hz hk e; exact ⟨w', nc _ _ a, b⟩

/-- the end of a block's loop: the list is filled -/
noncomputable def EndC (prog : Program) (w : World) (s : Shared) (μ : Mu) (Q : QV) (D L : Nat) (r : Result) (s' : Shared) : Prop := match r with
  | .ok _ => ∃ acc its nn μ₅ h₅ tk m, s' = { s with heap := h₅, toks := tk } ∧ h₅.get? D = some (listO its nn) ∧ LR acc its.toList ∧ HR prog w μ₅ h₅ ∧ Fm μ s.heap μ₅ h₅ ∧ μ₅ D = Option.none ∧ New μ s.heap D ∧
      h₅.Ns L m ∧ New μ s.heap L ∧ μ₅ L = Option.none ∧ D ≠ L ∧ (∀ c, μ₅ c = Option.none → Q (.ref c) (upd μ₅ c (.list acc)))
  | .error _ => False

theorem endC_none {s : Shared} {μ : Mu} {Q : QV} {D L : Nat} {r : Result} {s' : Shared} (x : EndC prog w s μ Q D L r s') : compPost (model prog w) A Nv Option.none (Pst prog w s μ Q) (.ref D) L r s' := by
  cases r with
  | error _ => exact x.elim
  | ok f =>
    obtain ⟨acc, its, nn, μ₅, h₅, tk, m, rfl, hD, hl, R, F, oD, nD, hn, nL, oL, hne, q⟩ := x
    refine ⟨m, hn, fun h' hs' => ?_⟩
    have R' : HR prog w μ₅ h' := R.but oL fun b o hb e => (hs'.2 b hb).trans e
    refine ⟨.ref D, upd μ₅ D (.list acc), h', tk, rfl, rfl, R'.add oD ⟨its, nn, (hs'.2 D hne).trans hD, hl⟩, ?_, q D oD⟩
    exact (F.but nL fun b o hb e => (hs'.2 b hb).trans e).add nD

/-- what a comprehension does ahead of its loop -/
theorem comp_block {elt target iter : PySem.Expr} {ifs : List PySem.Expr} {rest : List Comprehension} {pos p' : Pos} {use : Option (Value → Sem Unit)} {ρ : Rho} {μ : Mu} {s : Shared} {Q : QV} {QQ : Value → Shared → Prop} {xs : List X} {K : V → Prop}
    (hF : EnvFits sc env) (hR : EnvR env ρ μ s.heap) (hs : scopeOk sc inner = true) (hx : onlyLocals inner (xs.map X.nm) = true) (hno : ∀ x ∈ xs, ρ x = Option.none) (hset : ∀ v, foldedSetIterable iter env v = pure v)
    (hend : ∀ D L r s', EndC prog w s μ Q D L r s' → compPost (model prog w) A Nv use QQ (.ref D) L r s')
    (h : wpAny (model prog w) A (eval iter env) (fun xv s₁ => wpAny (model prog w) A (pyIter xv) (fun it s₂ => ∃ μ₂ h₂ tk, ∃ I : Nat, it = .ref I ∧ s₂ = { s with heap := h₂, toks := tk } ∧ HR prog w μ₂ h₂ ∧ Fm μ s.heap μ₂ h₂ ∧
      (∀ (D L : Nat) h₃, D = h₂.objs.size → L = D + 1 → h₃.get? D = some (listO #[] 0) → EnvR (blockEnv inner L env) ρ μ₂ h₃ → HR prog w μ₂ h₃ → (∀ b o, h₂.get? b = some o → h₃.get? b = some o) →
        (∀ Q, Q (.ref I) { s with heap := h₃, toks := tk } → wpAny (model prog w) A (pyIter (.ref I)) Q Nv { s with heap := h₃, toks := tk }) ∧
        codeAny (model prog w) A (.compLoop (.ListComp elt (⟨target, iter, ifs, 0⟩ :: rest) inner pos) 0 (.ref I) (.ref D) (blockEnv inner L env)) (EndC prog w s μ Q D L) { s with heap := h₃, toks := tk })) Nv s₁) Nv s) :
    wpAny (model prog w) A (comprehension (.ListComp elt (⟨target, iter, ifs, 0⟩ :: rest) inner pos) inner env p' (newList []) false (eval iter env) use) QQ Nv s := by
  refine wpAny_comprehension_free (cl := clOf env inner.names []) rfl hset (closure_eq fun p hp hf => ?_) (scopeOk_kind hs) (fun x hx' hl => ?_) (wpAny_mono h (fun xv s₁ h₁ => wpAny_mono h₁ (fun it s₂ h₂ => ?_) fun _ _ e => e) fun _ _ e => e)
  · obtain ⟨c, hc⟩ := free_cell hF hs (n := p.1) (by rw [(scopeOk_mem hs hp).1, hf])
    rw [hc]; rfl
  · rw [(scopeOk_mem hs hx').1, hl]
  obtain ⟨μ₂, h₂, tk, I, rfl, rfl, R₂, F₂, k⟩ := h₂
  refine wpAny_newObj_type (newEnv_block ?_)
  have hsz : (h₂.push { cls := .type "list", data := .seq ([] : List Value).toArray }).objs.size = h₂.objs.size + 1 := Heap.size_push ..
  have e1 : EnvR env ρ μ₂ (h₂.push { cls := .type "list", data := .seq ([] : List Value).toArray }) := (hR.mono F₂).mono (Fm.pushGarbage _ _ _)
  have r1 : HR prog w μ₂ (h₂.push { cls := .type "list", data := .seq ([] : List Value).toArray }) := R₂.ext fun b o e => Heap.get?_push_of_some _ e
  have hk : ∀ b o, ((h₂.push { cls := .type "list", data := .seq ([] : List Value).toArray }).push { cls := .type "dict", data := .dict #[] }).get? b = some o →
      (pushCells ((h₂.push { cls := .type "list", data := .seq ([] : List Value).toArray }).push { cls := .type "dict", data := .dict #[] }) inner.names).get? b = some o := fun b o e => pushCells_keeps _ _ b o e
  have hn : (pushCells ((h₂.push { cls := .type "list", data := .seq ([] : List Value).toArray }).push { cls := .type "dict", data := .dict #[] }) inner.names).Ns (h₂.push { cls := .type "list", data := .seq ([] : List Value).toArray }).objs.size (fun _ => Option.none) :=
    (Heap.Ns.new _ (.type "dict")).keeps (pushCells_keeps _ _)
  have e3 := block_env (s := { s with heap := h₂.push { cls := .type "list", data := .seq ([] : List Value).toArray }, toks := tk }) hF hs e1 r1 xs hx hno hn hk rfl
  have key := k h₂.objs.size (h₂.push { cls := .type "list", data := .seq ([] : List Value).toArray }).objs.size _ rfl hsz (hk _ _ (Heap.get?_push_of_some _ (Heap.get?_push_size _ rfl))) e3
    (r1.ext fun b o e => hk b o (Heap.get?_push_of_some _ e)) (fun b o e => hk b o (Heap.get?_push_of_some _ (Heap.get?_push_of_some _ e)))
  refine codeAny_mono (codeAny_compStart_list key.2 (anyE (key.1 _ key.2))) fun r s' z => ?_
  exact hend _ _ r s' z
end

end Mine

end PartML7

section PartML8
open PySem PySem.W PyProof.Rows
set_option linter.unusedVariables false
set_option linter.unusedSimpArgs false
set_option maxRecDepth 100000
namespace Mine

section
variable {prog : Program} {w : World} {h₀ : Heap} {n : Nat} {Φ : Phi} {sc inner : Scope} {A : Around}

theorem bnd_bnd {ρ ρ' : Rho} {x : X} {v : V} (h : ∀ y, y ≠ x → ρ' y = ρ y) : bnd ρ' x v = bnd ρ x v := by
  funext y; unfold bnd; by_cases e : y = x
  · simp [e]
  · simp [e, h y e]
theorem compP_nil {α : Type} {src : Mu → Prop} {body} {acc : List V} {μ : Mu} {Q : List V → Mu → Prop} (h : compP (α := α) src body [] acc μ Q) : src μ ∧ Q acc μ := h
theorem compP_cons {α : Type} {src : Mu → Prop} {body} {x : α} {r : List α} {acc : List V} {μ : Mu} {Q : List V → Mu → Prop} (h : compP src body (x :: r) acc μ Q) : src μ ∧ body x μ (fun ys μ' => compP src body r (acc ++ ys) μ' Q) := h

theorem comp_loop_any {elt target iter : PySem.Expr} {ifs : List PySem.Expr} {scope : Scope} {pos : Pos} {it acc : Value} {env : Env} {R : Result → Shared → Prop} {s : Shared} (I : Nat → Shared → Prop)
    (turn : ∀ n s, I n s → wpAny (model prog w) A (pyNext it) (fun r s₁ => match r with
      | none => R (.ok .next) s₁
      | some v => wpAny (model prog w) A (letOwnedTupleGo target it v) (fun _ s₀ => wpAny (model prog w) A (assign target env v) (fun _ s₂ =>
          wpAny (model prog w) A (forIn ifs true fun c r => if r = true then do let ok ← isTrue c env (eval c env); pure (ForInStep.yield ok) else pure (ForInStep.yield r)) (fun ok s₃ =>
            if ok = true then wpAny (model prog w) A (eval elt env) (fun x s₄ =>
              wpAny (model prog w) A (call (.builtin "list.append") [acc, x]) (fun _ s₅ => ∃ m, m < n ∧ I m s₅) Nv s₄) Nv s₃
            else ∃ m, m < n ∧ I m s₃) Nv s₂) Nv s₀) Nv s₁) Nv s)
    (n : Nat) (h : I n s) : codeAny (model prog w) A (.compLoop (.ListComp elt [⟨target, iter, ifs, 0⟩] scope pos) 0 it acc env) R s := by
  refine codeAny_loop rfl I (fun n s hI => ?_) n h
  show wpAny _ A ((compTurn (.ListComp elt [⟨target, iter, ifs, 0⟩] scope pos) 0 it acc env).onRaise (fun x => do noteFrame x env; theTreesLotGoes x)) _ _ s
  refine wpAny_noted (anyE ?_)
  rw [compTurn_list]
  refine wpAny_bind (wpAny_standAt (wpAny_bind (wpAny_mono (turn n s hI) (fun r s₁ h₁ => ?_) fun _ _ h' => h')))
  cases r with
  | none => exact wpAny_pure h₁
  | some v =>
    refine wpAny_bind (wpAny_mono h₁ (fun _ s₀ h₀ => ?_) fun _ _ h' => h')
    refine wpAny_bind (wpAny_mono h₀ (fun _ s₂ h₂ => wpAny_bind (wpAny_mono h₂ (fun ok s₃ h₃ => ?_) fun _ _ h' => h')) fun _ _ h' => h')
    cases ok with
    | false => exact wpAny_pure ⟨rfl, h₃⟩
    | true =>
      exact wpAny_bind (wpAny_bind (wpAny_mono h₃ (fun x s₄ h₄ => wpAny_bind (wpAny_mono h₄ (fun _ s₅ h₅ => wpAny_pure (wpAny_pure ⟨rfl, h₅⟩)) fun _ _ h' => h')) fun _ _ h' => h'))

theorem compP_src {α : Type} {src : Mu → Prop} {body} {r : List α} {acc : List V} {μ : Mu} {Q : List V → Mu → Prop} (h : compP (α := α) src body r acc μ Q) : src μ := by
  cases r with
  | nil => exact (compP_nil h).1
  | cons v r => exact (compP_cons h).1
theorem drop_at {α : Type} {l : List α} {i : Nat} {x : α} (h : l[i]? = some x) : l.drop i = x :: l.drop (i + 1) := by
  have hlt := (List.getElem?_eq_some_iff.mp h).1
  rw [List.drop_eq_getElem_cons hlt]; congr 1
  exact Option.some.inj ((List.getElem?_eq_getElem hlt).symm.trans h)
theorem drop_end {α : Type} {l : List α} {i : Nat} (h : l[i]? = Option.none) : l.drop i = [] := List.drop_eq_nil_of_le (List.getElem?_eq_none_iff.mp h)

/-- the list grows by one -/
theorem grow {s : Shared} {D : Nat} {its : Array Value} {nn : Nat} {acc : List V} {v : V} {y : Value} {Q : Value → Shared → Prop} (hD : s.heap.get? D = some (listO its nn)) (hl : LR acc its.toList) (hz : acc.length ≤ sizeLine) (hy : er y = some v)
    (h : ∀ h' its' nn', h'.get? D = some (listO its' nn') → LR (acc ++ [v]) its'.toList → (∀ b o, b ≠ D → s.heap.get? b = some o → h'.get? b = some o) → Q .none { s with heap := h' }) :
    wpAny (model prog w) A (call (.builtin "list.append") [.ref D, y]) Q Nv s := by
  refine wpAny_list_append_plain (hsz := by have := hl.size; omega) ⟨nn, hD⟩ fun h' hp hs' => ?_
  obtain ⟨nn', e⟩ := hp
  refine h h' _ nn' e ?_ fun b o hb e => (hs'.2 b hb).trans e
  rw [Array.toList_push]; exact hl.append (LR.cons hy LR.nil)

theorem dec_ok {k i N : Nat} (h : k + i = N) (hlt : i < N) : k - 1 < k ∧ (k - 1) + (i + 1) = N := by omega
/-- what stands while a comprehension runs -/
structure LS (prog : Program) (w : World) (env' : Env) (s : Shared) (μ : Mu) (D : Nat) (ρi : Rho) (μi : Mu) (hi : Heap) (acc : List V) : Prop where
  dd : ∃ its nn, hi.get? D = some (listO its nn) ∧ LR acc its.toList
  e : EnvR env' ρi μi hi
  R : HR prog w μi hi
  F : Fm μ s.heap μi hi
  oD : μi D = Option.none
  nD : New μ s.heap D
section
variable {env' : Env} {s : Shared} {μ : Mu} {D : Nat} {ρi ρ' : Rho} {μi μ' : Mu} {hi h' : Heap} {acc : List V}
theorem LS.keepD (L : LS prog w env' s μ D ρi μi hi acc) (k : ∀ o, hi.get? D = some o → h'.get? D = some o) : ∃ its nn, h'.get? D = some (listO its nn) ∧ LR acc its.toList := let ⟨its, nn, e, l⟩ := L.dd; ⟨its, nn, k _ e, l⟩
theorem LS.off (L : LS prog w env' s μ D ρi μi hi acc) {b : Nat} (hb : b ≠ D) (od : Odd hi b) (nb : New μ s.heap b) (ob : μi b = Option.none) (k : ∀ b' o, b' ≠ b → hi.get? b' = some o → h'.get? b' = some o) : LS prog w env' s μ D ρi μi h' acc :=
  ⟨L.keepD fun o => k D o hb.symm, L.e.but od k, L.R.but ob k, L.F.but nb k, L.oD, L.nD⟩
theorem LS.up (L : LS prog w env' s μ D ρi μi hi acc) (k : ∀ b o, hi.get? b = some o → h'.get? b = some o) : LS prog w env' s μ D ρi μi h' acc :=
  ⟨L.keepD fun o => k D o, L.e.mono (Fm.ext (μ := μi) k), L.R.ext k, L.F.trans (Fm.ext (μ := μi) k), L.oD, L.nD⟩
theorem LS.asg (L : LS prog w env' s μ D ρi μi hi acc) {d : Nat} (hd : d ≠ D) (e' : EnvR env' ρ' μi h') (nd : New μ s.heap d) (od : μi d = Option.none) (k : ∀ b' o, b' ≠ d → hi.get? b' = some o → h'.get? b' = some o) : LS prog w env' s μ D ρ' μi h' acc :=
  ⟨L.keepD fun o => k D o hd.symm, e', L.R.but od k, L.F.but nd k, L.oD, L.nD⟩
theorem LS.run (L : LS prog w env' s μ D ρi μi hi acc) (R' : HR prog w μ' h') (F' : Fm μi hi μ' h') : LS prog w env' s μ D ρi μ' h' acc :=
  ⟨L.keepD fun o e => (F' D o e (mutb_none L.oD)).1, L.e.mono F', R', L.F.trans F', by obtain ⟨its, nn, e, _⟩ := L.dd; exact F'.off e L.oD, L.nD⟩
theorem LS.end_ (L : LS prog w env' s μ D ρi μi hi acc) {Lc : Nat} {Q : QV} (hL : env'.locals = Lc) (hne : D ≠ Lc) (nL : New μ s.heap Lc) (q : ∀ c, μi c = Option.none → Q (.ref c) (upd μi c (.list acc))) (tk : Nat) (f : Flow) : EndC prog w s μ Q D Lc (.ok f) { s with heap := hi, toks := tk } := by
  obtain ⟨its, nn, e, l⟩ := L.dd
  obtain ⟨m, hn, _⟩ := L.e.ns
  subst hL
  exact ⟨acc, its, nn, μi, hi, tk, m, rfl, e, l, L.R, L.F, L.oD, L.nD, hn, nL, L.e.offL, hne, q⟩
theorem LS.grow (L : LS prog w env' s μ D ρi μi hi acc) {tk : Nat} {v : V} {y : Value} {Q : Value → Shared → Prop} (hz : acc.length ≤ sizeLine) (hy : er y = some v)
    (h : ∀ h', LS prog w env' s μ D ρi μi h' (acc ++ [v]) → (∀ b o, b ≠ D → hi.get? b = some o → h'.get? b = some o) → Q .none { s with heap := h', toks := tk }) : wpAny (model prog w) A (call (.builtin "list.append") [.ref D, y]) Q Nv { s with heap := hi, toks := tk } := by
  obtain ⟨its, nn, e, l⟩ := L.dd
  exact Mine.grow (s := { s with heap := hi, toks := tk }) e l hz hy fun h' its' nn' e' l' k => h h' ⟨⟨its', nn', e', l'⟩, L.e.but (Odd.list e) k, L.R.but L.oD k, L.F.but L.nD k, L.oD, L.nD⟩ k

/-- one turn of a comprehension's loop -/
structure CI (prog : Program) (w : World) (env' : Env) (s : Shared) (μ : Mu) (D : Nat) (S : Nat → Prop) (St : Nat → Heap → Prop) (Rok : Rho → Prop) (N : Nat) (ub : Nat → Nat) (P : Nat → List V → Mu → Prop) (k : Nat) (s' : Shared) (i : Nat) (acc : List V) (μi : Mu) (hi : Heap) (tk : Nat) (ρi : Rho) : Prop where
  eq : s' = { s with heap := hi, toks := tk }
  hk : k + i = N + 1
  le : i ≤ N
  st : St i hi
  L : LS prog w env' s μ D ρi μi hi acc
  len : acc.length ≤ ub i
  rok : Rok ρi
  off : ∀ b, S b → μi b = Option.none
  kc : P i acc μi
theorem CI.next {S : Nat → Prop} {St : Nat → Heap → Prop} {Rok : Rho → Prop} {N : Nat} {ub : Nat → Nat} {P : Nat → List V → Mu → Prop} {k : Nat} {s' : Shared} {i tk : Nat} (C : CI prog w env' s μ D S St Rok N ub P k s' i acc μi hi tk ρi) (hlt : i < N) {acc' : List V} {μ' : Mu} {h' : Heap} {tk' : Nat} {ρ' : Rho}
    (st : St (i + 1) h') (L : LS prog w env' s μ D ρ' μ' h' acc') (len : acc'.length ≤ ub (i + 1)) (rok : Rok ρ') (off : ∀ b, S b → μ' b = Option.none) (kc : P (i + 1) acc' μ') :
    ∃ m, m < k ∧ ∃ i acc μi hi tk ρi, CI prog w env' s μ D S St Rok N ub P m { s with heap := h', toks := tk' } i acc μi hi tk ρi :=
  have h1 := dec_ok C.hk (Nat.lt_succ_of_lt hlt)
  ⟨k - 1, h1.1, i + 1, acc', μ', h', tk', ρ', rfl, h1.2, hlt, st, L, len, rok, off, kc⟩
end

theorem loop_gen {env' : Env} {s : Shared} {μ μ₂ : Mu} {D Lc : Nat} {h₃ : Heap} {tk : Nat} {Q : QV} {S : Nat → Prop} {St : Nat → Heap → Prop} {Rok : Rho → Prop} {α : Type} {items : List α} {src : Mu → Prop} {bd : α → Rho} {ρ0 : Rho} {c : MC} {elt : ME}
    {elt' target iter : PySem.Expr} {ifs : List PySem.Expr} {pos : Pos} {itv : Value} (hA : AOk n A) (hFb : EnvFits inner env') (hL : env'.locals = Lc) (hne : D ≠ Lc) (nL : New μ s.heap Lc) (B : Bs h₀ μ s.heap) (hc : SC prog w h₀ n Φ inner c ifs) (he : SE prog w h₀ n Φ inner elt elt')
    (hz : items.length ≤ sizeLine) (hSD : ∀ b, S b → b ≠ D) (fr : ∀ i h h', St i h → (∀ b o, S b → h.get? b = some o → h'.get? b = some o) → St i h') (th : ∀ i h, St i h → ∀ b, S b → ∃ o, h.get? b = some o) (rok : ∀ x, Rok (bd x))
    (next : ∀ i μi hi tki ρi acc, St i hi → i ≤ items.length → LS prog w env' s μ D ρi μi hi acc → Rok ρi → (∀ b, S b → μi b = Option.none) → src μi → wpAny (model prog w) A (pyNext itv) (fun r s₁ => match r with
      | none => items[i]? = Option.none ∧ ∃ h₄ tk₄, s₁ = { s with heap := h₄, toks := tk₄ } ∧ LS prog w env' s μ D ρi μi h₄ acc
      | some v => ∃ x, items[i]? = some x ∧ wpAny (model prog w) A (letOwnedTupleGo target itv v) (fun _ s₀ => wpAny (model prog w) A (assign target env' v) (fun _ s₂ => ∃ h₅ tk₅, s₂ = { s with heap := h₅, toks := tk₅ } ∧ St (i + 1) h₅ ∧ LS prog w env' s μ D (bd x) μi h₅ acc) Nv s₀) Nv s₁) Nv { s with heap := hi, toks := tki })
    (L0 : LS prog w env' s μ D ρ0 μ₂ h₃ []) (st0 : St 0 h₃) (rok0 : Rok ρ0) (off0 : ∀ b, S b → μ₂ b = Option.none)
    (k0 : compP src (fun x μ₂ k => wpC Φ c (bd x) μ₂ fun t μ₃ => if t then wpE Φ elt (bd x) μ₃ fun y μ₄ => k [y] μ₄ else k [] μ₃) items [] μ₂ (fun acc μ₅ => ∀ c, μ₅ c = Option.none → Q (.ref c) (upd μ₅ c (.list acc)))) :
    codeAny (model prog w) A (.compLoop (.ListComp elt' [⟨target, iter, ifs, 0⟩] inner pos) 0 itv (.ref D) env') (EndC prog w s μ Q D Lc) { s with heap := h₃, toks := tk } := by
  obtain ⟨QQ, hQQ⟩ : ∃ QQ : List V → Mu → Prop, QQ = fun acc μ₅ => ∀ c, μ₅ c = Option.none → Q (.ref c) (upd μ₅ c (.list acc)) := ⟨_, rfl⟩
  obtain ⟨body, hbody⟩ : ∃ body : α → Mu → (List V → Mu → Prop) → Prop, body = fun x μ₂ k => wpC Φ c (bd x) μ₂ fun t μ₃ => if t then wpE Φ elt (bd x) μ₃ fun y μ₄ => k [y] μ₄ else k [] μ₃ := ⟨_, rfl⟩
  rw [← hQQ, ← hbody] at k0
  have hend : ∀ ρi μi hi acc tk, LS prog w env' s μ D ρi μi hi acc → QQ acc μi → EndC prog w s μ Q D Lc (.ok .next) { s with heap := hi, toks := tk } := fun ρi μi hi acc tk L q => L.end_ hL hne nL (by rw [hQQ] at q; exact q) tk _
  have hrun : ∀ x μi k, body x μi k → wpC Φ c (bd x) μi fun t μ₃ => if t then wpE Φ elt (bd x) μ₃ fun y μ₄ => k [y] μ₄ else k [] μ₃ := fun x μi k h => by rw [hbody] at h; exact h
  clear hQQ hbody
  obtain ⟨Inv, hInv⟩ : ∃ Inv : Nat → Shared → Prop, ∀ k s', Inv k s' ↔ ∃ i acc μi hi tk ρi, CI prog w env' s μ D S St Rok items.length id (fun i acc μi => compP src body (items.drop i) acc μi QQ) k s' i acc μi hi tk ρi := ⟨_, fun _ _ => Iff.rfl⟩
  refine comp_loop_any Inv ?_ (items.length + 1) ((hInv _ _).mpr ⟨0, [], μ₂, h₃, tk, ρ0, rfl, rfl, Nat.zero_le _, st0, L0, Nat.le_refl _, rok0, off0, k0⟩)
  intro k s' hI
  obtain ⟨i, acc, μi, hi, tki, ρi, C⟩ := (hInv _ _).mp hI
  obtain ⟨es, -, hle, st, L, hlen, hr, off, kc⟩ := id C
  have hsrc := compP_src kc
  rw [es]
  refine wpAny_mono (next i μi hi tki ρi acc st hle L hr off hsrc) (fun r s₁ z => ?_) fun _ _ x => x
  cases r with
  | none =>
    obtain ⟨hv, h₄, tk₄, rfl, L₄⟩ := z
    rw [drop_end hv] at kc
    exact hend _ _ _ _ _ L₄ (compP_nil kc).2
  | some v =>
    obtain ⟨x, hv, z⟩ := z
    refine wpAny_mono z (fun _ s₀ z => wpAny_mono z (fun _ s₂ z => ?_) fun _ _ x => x) fun _ _ x => x
    obtain ⟨h₅, tk₅, rfl, st₅, L₅⟩ := z
    have hlt : i < items.length := (List.getElem?_eq_some_iff.mp hv).1
    rw [drop_at hv] at kc
    have kb := hrun _ _ _ (compP_cons kc).2
    clear kc
    refine wpAny_mono (hc A env' (bd x) μi _ { s with heap := h₅, toks := tk₅ } hA hFb ⟨L₅.e, L₅.R, B.mono L₅.F⟩ kb) (fun t s₃ z => ?_) fun _ _ x => x
    obtain ⟨μ₆, h₆, tk₆, rfl, R₆, F₆, q₆⟩ := z
    have L₆ := L₅.run R₆ F₆
    have st₆ : St (i + 1) h₆ := fr _ _ _ st₅ fun b o hb e => (F₆ b o e (mutb_none (off b hb))).1
    have off₆ : ∀ b, S b → μ₆ b = Option.none := fun b hb => by obtain ⟨o, e⟩ := th _ _ st₅ b hb; exact F₆.off e (off b hb)
    have next' := fun acc' h' tk' ρ' μ' st L len rok off kc => let ⟨m, h1, h2⟩ := C.next (acc' := acc') (μ' := μ') (h' := h') (tk' := tk') (ρ' := ρ') hlt st L len rok off kc; (⟨m, h1, (hInv _ _).mpr h2⟩ : ∃ m, m < k ∧ Inv m { s with heap := h', toks := tk' })
    cases t with
    | false => exact next' acc h₆ tk₆ _ μ₆ st₆ L₆ (Nat.le_succ_of_le hlen) (rok x) off₆ (by simpa using q₆)
    | true =>
      refine wpAny_mono (he A env' (bd x) μ₆ _ { s with heap := h₆, toks := tk₆ } hA hFb ⟨L₆.e, R₆, B.mono L₆.F⟩ q₆) (fun y s₄ z => ?_) fun _ _ x => x
      refine Pst.elim z fun v' μ₇ h₇ tk₇ hv' R₇ F₇ q₇ => ?_
      have st₇ : St (i + 1) h₇ := fr _ _ _ st₆ fun b o hb e => (F₇ b o e (mutb_none (off₆ b hb))).1
      have off₇ : ∀ b, S b → μ₇ b = Option.none := fun b hb => by obtain ⟨o, e⟩ := th _ _ st₆ b hb; exact F₇.off e (off₆ b hb)
      refine (L₆.run R₇ F₇).grow (Nat.le_trans hlen (Nat.le_trans hle hz)) hv' fun h₈ L₈ k₈ => ?_
      exact next' _ h₈ tk₇ _ μ₇ (fr _ _ _ st₇ fun b o hb e => k₈ b o (hSD b hb) e) L₈ (by rw [List.length_append]; exact Nat.succ_le_succ hlen) (rok x) off₇ q₇

theorem se_comp {elt : ME} {x : X} {it : MI} {c : MC} {elt' iter : PySem.Expr} {ifs : List PySem.Expr} (p pos : Pos) (hb : canBind inner x = true) (hs : scopeOk sc inner = true) (hx : onlyLocals inner [x.nm] = true)
    (hit : SI prog w h₀ n Φ sc it iter) (hc : SC prog w h₀ n Φ inner c ifs) (he : SE prog w h₀ n Φ inner elt elt') : SE prog w h₀ n Φ sc (.comp elt x it c) (.ListComp elt' [⟨.Name x.nm p, iter, ifs, 0⟩] inner pos) := fun A env ρ μ Q s hA hF C h => by
  obtain ⟨hno, h⟩ := h
  show wpAny _ A (comprehension (.ListComp elt' [⟨.Name x.nm p, iter, ifs, 0⟩] inner pos) inner env iter.pos (newList []) false (eval iter env) Option.none) _ _ s
  refine comp_block (Q := Q) (xs := [x]) (K := fun _ => True) hF C.env hs hx (fun y hy => by rw [List.mem_singleton.mp hy]; exact hno) (hit.1 env) (fun D L r s' z => endC_none z)
    (wpAny_mono (hit.2 A env ρ μ _ s hA hF C h) (fun v s₁ y => wpAny_mono y (fun itv s₂ z => ?_) fun _ _ x => x) fun _ _ x => x)
  obtain ⟨μ₂, h₂, tk, I, items, src, St, rfl, rfl, R₂, F₂, nI, oI, IT, st0, hz, k0⟩ := z
  refine ⟨μ₂, h₂, tk, I, rfl, rfl, R₂, F₂, fun D L h₃ eD eL hD e3 R₃ old => ⟨fun Q q => IT.self A 0 _ Q (IT.frame _ _ _ st0 fun o e => old _ _ e) q, ?_⟩⟩
  have hIlt : I < D := by obtain ⟨o, _, e, _⟩ := IT.there _ _ st0; rw [eD]; exact szLt e
  have nBig : ∀ d : Nat, D ≤ d → New μ s.heap d := fun d hd => F₂.new (fresh_none _ _ (by first | assumption | exact Nat.le_of_lt (by assumption) | exact Nat.lt_of_lt_of_le (by assumption) (by assumption) | exact Nat.lt_of_le_of_lt (by assumption) (by assumption) | exact Nat.le_trans (by assumption) (by decide) | exact Nat.lt_of_le_of_lt (by assumption) (by decide) | exact Nat.lt_of_lt_of_le (by assumption) (Nat.le_trans (by assumption) (by decide)) | exact Nat.ne_of_gt (by assumption) | exact Nat.ne_of_lt (by assumption) | omega))
  have oBig : ∀ d : Nat, D ≤ d → μ₂ d = Option.none := fun d hd => by
    cases e : μ₂ d with
    | none => rfl
    | some o => obtain ⟨ob, e'⟩ := (R₂ _ _ e).there; exact absurd (szLt e') (by first | assumption | exact Nat.le_of_lt (by assumption) | exact Nat.lt_of_lt_of_le (by assumption) (by assumption) | exact Nat.lt_of_le_of_lt (by assumption) (by assumption) | exact Nat.le_trans (by assumption) (by decide) | exact Nat.lt_of_le_of_lt (by assumption) (by decide) | exact Nat.lt_of_lt_of_le (by assumption) (Nat.le_trans (by assumption) (by decide)) | exact Nat.ne_of_gt (by assumption) | exact Nat.ne_of_lt (by assumption) | omega)
  have DL : D < L := by first | assumption | exact Nat.le_of_lt (by assumption) | exact Nat.lt_of_lt_of_le (by assumption) (by assumption) | exact Nat.lt_of_le_of_lt (by assumption) (by assumption) | exact Nat.le_trans (by assumption) (by decide) | exact Nat.lt_of_le_of_lt (by assumption) (by decide) | exact Nat.lt_of_lt_of_le (by assumption) (Nat.le_trans (by assumption) (by decide)) | exact Nat.ne_of_gt (by assumption) | exact Nat.ne_of_lt (by assumption) | omega
  clear h
  refine loop_gen (S := fun b => b = I) (St := St) (Rok := fun ρi => ∀ y, y ≠ x → ρi y = ρ y) (items := items) (src := src) (bd := bnd ρ x) (ρ0 := ρ) hA (block_fits hF hs L) rfl (Nat.ne_of_lt DL) (nBig L (Nat.le_of_lt DL)) C.bs hc he hz (fun b hb => hb ▸ Nat.ne_of_lt hIlt)
    (fun i h h' st k => IT.frame i h h' st fun o e => k I o rfl e) (fun i h st b hb => by obtain ⟨o, _, e, _⟩ := IT.there _ _ st; exact ⟨o, hb ▸ e⟩) (fun v y hy => if_neg hy) ?_
    ⟨⟨#[], 0, hD, LR.nil⟩, e3, R₃, F₂.trans (Fm.ext old), oBig D (Nat.le_refl _), nBig D (Nat.le_refl _)⟩ (IT.frame _ _ _ st0 fun o e => old _ _ e) (fun _ _ => rfl) (fun b hb => hb ▸ oI) k0
  intro i μi hi tki ρi acc st hle Ls hρ off hsrc
  refine wpAny_mono (IT.next A i { s with heap := hi, toks := tki } μi hA.handled st Ls.R hsrc) (fun r s₁ y => ?_) fun _ _ x => x
  obtain ⟨h₄, tk₄, rfl, keep₄, hr⟩ := y
  have L₄ := Ls.off (Nat.ne_of_lt hIlt) (Odd.fields (IT.there _ _ st)) nI (off I rfl) keep₄
  cases hv : items[i]? with
  | none =>
    rw [hv] at hr
    subst hr
    exact ⟨rfl, h₄, tk₄, rfl, L₄⟩
  | some v =>
    rw [hv] at hr
    obtain ⟨y, rfl, hy, st₄⟩ := hr
    refine ⟨v, rfl, wpAny_pure ?_⟩
    refine wpAny_assign_Name (store_ok (s := { s with heap := h₄, toks := tk₄ }) (block_fits hF hs L) L₄.e hb hy fun h₅ tk₅ (d : Nat) hd' e₅ keep₅ => ?_)
    rw [bnd_bnd hρ] at e₅
    have hdL : D < d := by
      rcases hd' with q0 | ⟨q1, q2⟩
      · have q0' : d = L := q0
        omega
      · have := cells_own _ _ _ _ _ (mem_of_lookup q1) q2; omega
    have odi : μi d = Option.none := by
      rcases hd' with q0 | ⟨q1, q2⟩
      · rw [q0]; exact L₄.e.offL
      · exact L₄.e.offC _ _ q2
    exact ⟨h₅, tk₅, rfl, IT.frame _ _ _ st₄ fun o e => keep₅ I o (Nat.ne_of_lt (Nat.lt_trans hIlt hdL)) e, L₄.asg (Nat.ne_of_gt hdL) e₅ (nBig d (Nat.le_of_lt hdL)) odi keep₅⟩
end
end Mine

end PartML8

section PartMLT
open PySem PySem.W PyProof.Rows
open AutoSeq1 (wpAny_loadPart')
set_option linter.unusedVariables false
set_option linter.unusedSimpArgs false
set_option maxRecDepth 100000
namespace Mine

section
variable {prog : Program} {w : World} {A : Around} {E : Value → Shared → Prop} {s : Shared}

theorem nextOf_tuple_item {it t : Addr} {i : Nat} {items} {x : Value} {Q : Value → Shared → Prop} (hit : s.heap.IsTupleIter it t i) (ht : s.heap.IsTuple t items) (hx : items[i]? = some x)
    (hQ : ∀ h', h'.IsTupleIter it t (i + 1) → Heap.SameBut it s.heap h' → Q x { s with heap := h' }) : wpAny (model prog w) A (Builtin.SmallTypes.nextOf (.ref it)) Q E s := by
  obtain ⟨o, ho, hc, hd⟩ := id hit
  obtain ⟨ol, hol, _, nl, hdl⟩ := ht
  unfold Builtin.SmallTypes.nextOf
  refine wpAny_bind (wpAny_callSpecial?_slot (name := Str.ofString "__next__") hit.typeIs PySem.F.slot_tuple_iterator_next
    (wpAny_call_entry PySem.F.slot_tuple_iterator_next hit.typeIs PySem.F.entry_tuple_iterator_next ?_ (PySem.F.args_tuple_iterator_next_1 _)))
  show wpAny _ _ (field (.ref it) 0 >>= _) _ _ s
  refine wpAny_bind (wpAny_field ho hd (x := .ref t) rfl ?_)
  show wpAny _ _ (if (Value.ref t == Value.none) = true then _ else _) _ _ s
  rw [if_neg (show ¬ ((Value.ref t == Value.none) = true) from Bool.false_ne_true)]
  show wpAny _ _ (field (.ref it) 1 >>= _) _ _ s
  refine wpAny_bind (wpAny_field ho hd (x := .int i 0) rfl ?_)
  show wpAny _ _ (seqItems? (.ref t) >>= _) _ _ s
  refine wpAny_bind (wpAny_seqItems hol hdl ?_)
  simp only [Int.toNat_natCast, hx]
  refine wpAny_bind (wpAny_setField ho hd (by simp) (wpAny_pure ⟨x, rfl, wpAny_pure (hQ _ ?_ (Heap.SameBut.update ..))⟩))
  exact ⟨_, Heap.get?_update_self _ ho (Obj.isFreed_of_fields (Obj.data_mapFields hd _)), (Obj.cls_mapFields ..).trans hc, by
    rw [Obj.data_mapFields hd]; simp [rawInt]⟩

theorem meets_enumerate_newT (l : Addr) (items : Array Value) (n : Nat) :
    Meets (Builtin.«enumerate.__new__» ⟨[.type "enumerate", .ref l], []⟩) (fun _ R s => s.heap.get? l = some { cls := .type "tuple", dict := none, data := .seq items n, slots := #[] } ∧
      R (.ok (.ret (.ref (s.heap.push { cls := .type "tuple_iterator", data := .fields #[.ref l, .int 0 0] }).objs.size)))
        { s with heap := (s.heap.push { cls := .type "tuple_iterator", data := .fields #[.ref l, .int 0 0] }).push { cls := .type "enumerate", data := .fields #[.none, .bool false, .ref s.heap.objs.size, rawInt 0, .none, .none] } }) :=
  .of_wp fun prog w A R s h => by
    obtain ⟨hp, g, d, tk, os⟩ := s; obtain ⟨hl, h⟩ := h
    have hsub := sub_enumerate
    have hL : Heap.IsTuple (Shared.heap ⟨hp, g, d, tk, os⟩) l items := ⟨_, hl, rfl, n, rfl⟩
    wp_walk using wpAny_loadPart' hl
    refine wpAny_stack_any fun st => wpAny_pure ?_
    split
    · rename_i c _ _ _ _ _
      cases (c == Value.type "enumerate")
      · wp_walk using wpAny_loadPart' hl, wpAny_pyIter_tuple hL
        exact ⟨_, rfl, h⟩
      · wp_walk using wpAny_loadPart' hl, wpAny_pyIter_tuple hL
        exact ⟨_, rfl, h⟩
    · wp_walk using wpAny_loadPart' hl, wpAny_pyIter_tuple hL
      exact ⟨_, rfl, h⟩

theorem nextOf_tuple_end {it t : Addr} {i : Nat} {items} {Q : Value → Shared → Prop} (hh : A.handled = Option.none) (hit : s.heap.IsTupleIter it t i) (ht : s.heap.IsTuple t items) (hx : items[i]? = Option.none)
    (hE : ∀ h' e, Heap.ExtBut it s.heap h' → (∃ o, h'.get? e = some o ∧ o.cls = .type "StopIteration") → E (.ref e) { s with heap := h' }) : wpAny (model prog w) A (Builtin.SmallTypes.nextOf (.ref it)) Q E s := by
  obtain ⟨o, ho, hc, hd⟩ := id hit
  obtain ⟨ol, hol, _, nl, hdl⟩ := ht
  unfold Builtin.SmallTypes.nextOf
  refine wpAny_bind (wpAny_callSpecial?_slot (name := Str.ofString "__next__") hit.typeIs PySem.F.slot_tuple_iterator_next
    (wpAny_call_entry PySem.F.slot_tuple_iterator_next hit.typeIs PySem.F.entry_tuple_iterator_next ?_ (PySem.F.args_tuple_iterator_next_1 _)))
  show wpAny _ _ (field (.ref it) 0 >>= _) _ _ s
  refine wpAny_bind (wpAny_field ho hd (x := .ref t) rfl ?_)
  show wpAny _ _ (if (Value.ref t == Value.none) = true then _ else _) _ _ s
  rw [if_neg (show ¬ ((Value.ref t == Value.none) = true) from Bool.false_ne_true)]
  show wpAny _ _ (field (.ref it) 1 >>= _) _ _ s
  refine wpAny_bind (wpAny_field ho hd (x := .int i 0) rfl ?_)
  show wpAny _ _ (seqItems? (.ref t) >>= _) _ _ s
  refine wpAny_bind (wpAny_seqItems hol hdl ?_)
  simp only [Int.toNat_natCast, hx]
  refine wpAny_bind (wpAny_rule (wpAny_bind (wpAny_setField ho hd (by simp) ?_)))
  show wpAny _ _ (newExc (.type "StopIteration") [] >>= _) _ _ _
  refine wpAny_bind ?_
  simp only [newExc, newTuple]
  refine wpAny_bind (wpAny_newObj_type ?_ (by size_fits))
  refine wpAny_bind (m := firstArgMember _ _) (wpAny_of_eq (a := Value.none) (by first | rfl | (simp only [firstArgMember]; rfl)) ?_)
  refine wpAny_newObj_type ?_ (by size_fits)
  simp only [raiseNew]
  refine wpAny_bind (wpAny_handled ?_)
  first | rw [show A.in1.handled = Option.none from hh] | rw [hh]
  refine wpAny_bind (wpAny_pure (wpAny_throw ?_))
  exact hE _ _ (((Heap.SameBut.update ..).extBut.push _).push _) ⟨_, Heap.get?_push_size _ rfl, rfl⟩

theorem call_enumerate_tuple {l : Addr} {items : Array Value} {n : Nat} {Q : Value → Shared → Prop} (hl : s.heap.get? l = some { cls := .type "tuple", dict := Option.none, data := .seq items n, slots := #[] })
    (h : ∀ h', IsEnum h' (s.heap.objs.size + 1) s.heap.objs.size 0 .none → h'.IsTupleIter s.heap.objs.size l 0 → h'.objs.size = s.heap.objs.size + 2 →
      (∀ b o, s.heap.get? b = some o → h'.get? b = some o) → Q (.ref (s.heap.objs.size + 1)) { s with heap := h' }) :
    wpAny (model prog w) A (call (.type "enumerate") [.ref l]) Q E s := by
  refine callType_new PySem.F.called_enumerate (by decide) (PySem.F.typeCall_enumerate_1 _) (PySem.F.newCall_enumerate_1 _) (fun obj => PySem.F.args_object_init_2 obj _) PySem.F.entry_enumerate_new
    (meets_enumerate_newT l items n) ⟨hl, ?_⟩
  have hz : (s.heap.push { cls := .type "tuple_iterator", data := .fields #[.ref l, .int 0 0] }).objs.size = s.heap.objs.size + 1 := Heap.size_push ..
  show _ ∧ _
  rw [hz]
  have he : IsEnum ((s.heap.push { cls := .type "tuple_iterator", data := .fields #[.ref l, .int 0 0] }).push
      { cls := .type "enumerate", data := .fields #[.none, .bool false, .ref s.heap.objs.size, rawInt 0, .none, .none] }) (s.heap.objs.size + 1) s.heap.objs.size 0 .none := by
    have := Heap.get?_push_size (s.heap.push { cls := .type "tuple_iterator", data := .fields #[.ref l, .int 0 0] })
      (o := { cls := .type "enumerate", data := .fields #[.none, .bool false, .ref s.heap.objs.size, rawInt 0, .none, .none] }) rfl
    rw [hz] at this; exact this
  refine ⟨⟨_, he, rfl⟩, h _ he ⟨_, Heap.get?_push_of_some _ (Heap.get?_push_size _ rfl), rfl, rfl⟩ (by rw [Heap.size_push, hz]) fun b o x => Heap.get?_push_of_some _ (Heap.get?_push_of_some _ x)⟩

theorem enumT_item {e it l : Addr} {i : Nat} {items : Array Value} {x old : Value} {Q : Option Value → Shared → Prop}
    (he : IsEnum s.heap e it i old) (hit : s.heap.IsTupleIter it l i) (hl : s.heap.IsTuple l items) (hx : items[i]? = some x) (hne : e ≠ it)
    (hQ : ∀ h', IsEnumOut h' e it ((i : Int) + 1) x s.heap.objs.size → h'.IsTupleIter it l (i + 1) →
      h'.get? s.heap.objs.size = some { cls := .type "tuple", data := .seq #[.int i s.toks, x] } → h'.objs.size = s.heap.objs.size + 1 →
      (∀ b o, b ≠ e → b ≠ it → s.heap.get? b = some o → h'.get? b = some o) → Q (some (.ref s.heap.objs.size)) { s with heap := h', toks := s.toks + 1 }) :
    wpAny (model prog w) A (pyNext (.ref e)) Q E s := by
  have hT : s.TypeIs (.ref e) "enumerate" := ⟨_, he, rfl⟩
  unfold pyNext
  refine wpAny_bind (wpAny_attempt (wpAny_callSpecial?_slot (name := Str.ofString "__next__") hT PySem.F.slot_enumerate_next
    (wpAny_call_entry PySem.F.slot_enumerate_next hT PySem.F.entry_enumerate_next ?_ (PySem.F.args_enumerate_next_1 _))))
  obtain ⟨hp, g, d, tk, os⟩ := s
  show wpAny _ _ (field (.ref e) 2 >>= _) _ _ _
  refine wpAny_bind (wpAny_field he rfl (x := .ref it) rfl ?_)
  refine wpAny_bind (nextOf_tuple_item hit hl hx fun h₁ hit₁ hs₁ => ?_)
  replace hs₁ : Heap.SameBut it hp h₁ := hs₁
  have he₁ : IsEnum h₁ e it i old := (hs₁.2 e hne).trans he
  show wpAny _ _ (field (.ref e) 3 >>= _) _ _ ⟨h₁, g, d, tk, os⟩
  refine wpAny_bind (wpAny_field he₁ rfl (x := rawInt i) rfl ?_)
  show wpAny _ _ (field (.ref e) 4 >>= _) _ _ ⟨h₁, g, d, tk, os⟩
  refine wpAny_bind (wpAny_field he₁ rfl (x := .none) rfl ?_)
  show wpAny _ _ (mkInt i >>= _) _ _ ⟨h₁, g, d, tk, os⟩
  refine wpAny_bind (wpAny_mkInt ?_)
  show wpAny _ _ (setField (.ref e) 3 (rawInt ((i : Int) + 1)) >>= _) _ _ ⟨h₁, g, d, tk + 1, os⟩
  refine wpAny_bind (wpAny_setField_rec he₁ (by simp) fun h₂ he₂ hs₂ => ?_)
  replace hs₂ : Heap.SameBut e h₁ h₂ := hs₂
  replace he₂ : IsEnum h₂ e it ((i : Int) + 1) old := he₂
  show wpAny _ _ (setField (.ref e) 4 .none >>= _) _ _ ⟨h₂, g, d, tk + 1, os⟩
  refine wpAny_bind (wpAny_setField_rec he₂ (by simp) fun h₃ he₃ hs₃ => ?_)
  replace hs₃ : Heap.SameBut e h₂ h₃ := hs₃
  replace he₃ : IsEnum h₃ e it ((i : Int) + 1) old := he₃
  show wpAny _ _ (newTuple [.int i tk, x] >>= _) _ _ ⟨h₃, g, d, tk + 1, os⟩
  refine wpAny_bind (wpAny_newTuple ?_)
  have he₄ : IsEnum (h₃.push { cls := .type "tuple", data := .seq #[.int i tk, x] }) e it ((i : Int) + 1) old := Heap.get?_push_of_some _ he₃
  generalize hh₄ : h₃.push { cls := .type "tuple", data := .seq #[.int i tk, x] } = h₄ at he₄
  have hsz : h₃.objs.size = hp.objs.size := by rw [hs₃.1, hs₂.1, hs₁.1]
  have hel : e < hp.objs.size := Heap.lt_size he
  have ht₄ : h₄.get? hp.objs.size = some { cls := .type "tuple", data := .seq #[.int i tk, x] } := by rw [← hh₄, ← hsz]; exact Heap.get?_push_size _ rfl
  have hz₄ : h₄.objs.size = hp.objs.size + 1 := by rw [← hh₄, Heap.size_push, hsz]
  have hk₄ : ∀ b o, b ≠ e → b ≠ it → hp.get? b = some o → h₄.get? b = some o := fun b o hbe hbi hb => by
    rw [← hh₄]; exact Heap.get?_push_of_some _ (hs₃.extBut b o hbe (hs₂.extBut b o hbe (hs₁.extBut b o hbi hb)))
  have hit₄ : h₄.IsTupleIter it l (i + 1) := by
    rw [← hh₄]; obtain ⟨o, ho, r⟩ := (hit₁.extBut hs₂.extBut (Ne.symm hne)).extBut hs₃.extBut (Ne.symm hne); exact ⟨o, Heap.get?_push_of_some _ ho, r⟩
  show wpAny _ _ (Builtin.SmallTypes.ownedTupleIsFree (.ref e) >>= _) _ _ ⟨h₄, g, d, tk + 1, os⟩
  rw [hsz]
  clear hh₄ he₃ hs₃ he₂ hs₂ he₁ hs₁ hit₁ hsz h₃ h₂ h₁
  refine wpAny_bind ?_
  · unfold Builtin.SmallTypes.ownedTupleIsFree
    refine wpAny_bind (wpAny_field he₄ rfl (x := .none) rfl (wpAny_pure ?_))
    simp only [if_true]
    refine wpAny_bind (wpAny_rule ?_)
    refine wpAny_bind (wpAny_field he₄ rfl (x := old) rfl ?_)
    refine wpAny_bind (wpAny_setField_rec he₄ (by simp) fun h₅ he₅ hs₅ => ?_)
    replace hs₅ : Heap.SameBut e h₄ h₅ := hs₅
    replace he₅ : IsEnum h₅ e it ((i : Int) + 1) x := he₅
    show wpAny _ _ (Builtin.SmallTypes.ownedTupleHandOut (.ref e) (.ref hp.objs.size) >>= _) _ _ ⟨h₅, g, d, tk + 1, os⟩
    refine wpAny_bind ?_
    · unfold Builtin.SmallTypes.ownedTupleHandOut
      refine wpAny_bind (wpAny_setField_rec he₅ (by simp) fun h₆ he₆ hs₆ => ?_)
      replace hs₆ : Heap.SameBut e h₅ h₆ := hs₆
      replace he₆ : IsEnumOut h₆ e it ((i : Int) + 1) x hp.objs.size := he₆
      refine wpAny_setField_rec he₆ (by simp) fun h₇ he₇ hs₇ => ?_
      replace hs₇ : Heap.SameBut e h₆ h₇ := hs₇
      replace he₇ : IsEnumOut h₇ e it ((i : Int) + 1) x hp.objs.size := he₇
      refine wpAny_bind (wpAny_letGo (wpAny_pure ⟨_, rfl, wpAny_pure (hQ h₇ he₇ ?_ ?_ ?_ ?_)⟩))
      · exact ((hit₄.extBut hs₅.extBut (Ne.symm hne)).extBut hs₆.extBut (Ne.symm hne)).extBut hs₇.extBut (Ne.symm hne)
      · exact hs₇.extBut _ _ (Nat.ne_of_gt hel) (hs₆.extBut _ _ (Nat.ne_of_gt hel) (hs₅.extBut _ _ (Nat.ne_of_gt hel) ht₄))
      · rw [hs₇.1, hs₆.1, hs₅.1, hz₄]
      · exact fun b o hbe hbi hb => hs₇.extBut b o hbe (hs₆.extBut b o hbe (hs₅.extBut b o hbe (hk₄ b o hbe hbi hb)))

theorem enumT_end {e it l : Addr} {i : Nat} {items : Array Value} {old : Value} {Q : Option Value → Shared → Prop} (hh : A.handled = Option.none)
    (he : IsEnum s.heap e it i old) (hit : s.heap.IsTupleIter it l i) (hl : s.heap.IsTuple l items) (hx : items[i]? = Option.none)
    (hQ : ∀ h', Heap.ExtBut it s.heap h' → Q Option.none { s with heap := h' }) : wpAny (model prog w) A (pyNext (.ref e)) Q E s := by
  have hT : s.TypeIs (.ref e) "enumerate" := ⟨_, he, rfl⟩
  unfold pyNext
  refine wpAny_bind (wpAny_attempt (wpAny_callSpecial?_slot (name := Str.ofString "__next__") hT PySem.F.slot_enumerate_next
    (wpAny_call_entry PySem.F.slot_enumerate_next hT PySem.F.entry_enumerate_next ?_ (PySem.F.args_enumerate_next_1 _))))
  show wpAny _ _ (field (.ref e) 2 >>= _) _ _ _
  refine wpAny_bind (wpAny_field he rfl (x := .ref it) rfl ?_)
  refine wpAny_bind (nextOf_tuple_end hh hit hl hx fun h' x he' hx' => ?_)
  obtain ⟨o, ho, hc⟩ := hx'
  refine wpAny_bind (wpAny_isInstance (T := "StopIteration") (b := true) ⟨o, ho, hc⟩ isSubtype_stop ?_)
  exact wpAny_pure (hQ _ he')
end
end Mine

end PartMLT

section PartML9
open PySem PySem.W PyProof.Rows
set_option linter.unusedVariables false
set_option linter.unusedSimpArgs false
set_option maxRecDepth 100000
namespace Mine

section
variable {prog : Program} {w : World} {h₀ : Heap} {n : Nat} {Φ : Phi} {sc inner : Scope} {A : Around} {mg mb : Str → Option Value} {fa : Fn → Addr}

theorem HR.butS {μ : Mu} {h h' : Heap} {S : Nat → Prop} (R : HR prog w μ h) (hS : ∀ b, S b → μ b = Option.none) (k : ∀ (b : Nat) o, ¬ S b → h.get? b = some o → h'.get? b = some o) : HR prog w μ h' := fun a o e =>
  (R a o e).keep (fun _ e' => k _ _ (fun q => by rw [hS _ q] at e; cases e) e') fun _ _ _ e' m => ⟨k _ _ (fun q => by rw [hS _ q] at m; cases m) e', rfl⟩
theorem Fm.butS {μ μ' : Mu} {h h' h'' : Heap} {S : Nat → Prop} (F : Fm μ h μ' h') (N : ∀ b, S b → New μ h b) (k : ∀ (b : Nat) o, ¬ S b → h'.get? b = some o → h''.get? b = some o) : Fm μ h μ' h'' := fun b o e m =>
  ⟨k b o (fun q => by rw [N b q o e] at m; cases m) (F b o e m).1, (F b o e m).2⟩
theorem EnvR.butS {env : Env} {ρ : Rho} {μ : Mu} {h h' : Heap} {S : Nat → Prop} (R : EnvR env ρ μ h) (hS : ∀ b, S b → Odd h b) (k : ∀ (b : Nat) o, ¬ S b → h.get? b = some o → h'.get? b = some o) : EnvR env ρ μ h' := by
  have nc : ∀ c v, h.IsCell c v → h'.IsCell c v := fun c v ⟨ob, hob, hd⟩ => ⟨ob, k c ob (fun q => by obtain ⟨o, ho, h1, h2⟩ := hS _ q; rw [ho] at hob; cases hob; exact h1 _ hd) hob, hd⟩
  refine ⟨?_, fun nn c e => ?_, fun z u c hz hk e => ?_, R.offL, R.offC, R.apart⟩
  · obtain ⟨m, hn, hm⟩ := R.ns
    exact ⟨m, hn.at' fun ob e => k _ ob (fun q => by
      obtain ⟨o, ho, h1, h2⟩ := hS _ q
      obtain ⟨o', es, ep, ho', hd', _⟩ := hn
      rw [ho] at ho'; cases ho'; exact h2 _ _ hd') e, hm⟩
  · obtain ⟨v, hc⟩ := R.cell nn c e; exact ⟨v, nc _ _ hc⟩
  · obtain ⟨w', a, b⟩ := R.val z u c hz hk e; exact ⟨w', nc _ _ a, b⟩

theorem bnd2 {ρ ρ' : Rho} {i x : X} {u v : V} (h : ∀ y, y ≠ i → y ≠ x → ρ' y = ρ y) : bnd (bnd ρ' i u) x v = bnd (bnd ρ i u) x v := by
  funext y; unfold bnd
  by_cases e : y = x
  · simp [e]
  · by_cases e' : y = i
    · simp [e, e']
    · simp [e, e', h y e' e]

theorem canBind_local {inner : Scope} {x : X} (h : kindIs inner x.nm .local = true) : canBind inner x = true := by unfold canBind; rw [h]; rfl
theorem not_cell {inner : Scope} {x : X} (h : kindIs inner x.nm .local = true) : inner.names.lookup x.nm ≠ some .cell := by
  have : inner.names.lookup x.nm = some .local := by simpa [kindIs] using h
  rw [this]; decide

theorem tupAt {h h' : Heap} {I t : Addr} {i : Nat} (x : h.IsTupleIter I t i) (k : ∀ o, h.get? I = some o → h'.get? I = some o) : h'.IsTupleIter I t i := let ⟨o, ho, r⟩ := x; ⟨o, k o ho, r⟩
theorem LS.offS {env' : Env} {s : Shared} {μ : Mu} {D : Nat} {ρi : Rho} {μi : Mu} {hi h' : Heap} {acc : List V} {S : Nat → Prop} (L : LS prog w env' s μ D ρi μi hi acc) (hD : ¬ S D) (od : ∀ b, S b → Odd hi b) (nb : ∀ b, S b → New μ s.heap b) (ob : ∀ b, S b → μi b = Option.none)
    (k : ∀ (b : Nat) o, ¬ S b → hi.get? b = some o → h'.get? b = some o) : LS prog w env' s μ D ρi μi h' acc := ⟨L.keepD fun o => k D o hD, L.e.butS od k, L.R.butS ob k, L.F.butS nb k, L.oD, L.nD⟩

theorem none_at {items : Array Value} {vs : List V} {j : Nat} (hl : LR vs items.toList) (hv : vs[j]? = Option.none) : items[j]? = Option.none := by
  rw [Array.getElem?_eq_none]
  rw [hl.size]; exact List.getElem?_eq_none_iff.mp hv
/-- what enumerate over a list, or over a tuple, answers -/
structure EIt (prog : Program) (w : World) (I J : Nat) (src : Mu → Prop) (vs : List V) (St : Nat → Heap → Prop) : Prop where
  at_ : ∀ {j h h'}, St j h → (∀ o, h.get? I = some o → h'.get? I = some o) → St j h'
  odd : ∀ {j h}, St j h → Odd h I
  item : ∀ {A : Around} {s : Shared} {μi : Mu} {j : Nat} {old : Value} {v : V} {Q : Option Value → Shared → Prop}, src μi → HR prog w μi s.heap → IsEnum s.heap J I (j : Nat) old → St j s.heap → vs[j]? = some v →
    (∀ y h', er y = some v → IsEnumOut h' J I ((j : Int) + 1) y s.heap.objs.size → St (j + 1) h' → h'.get? s.heap.objs.size = some { cls := .type "tuple", data := .seq #[.int j s.toks, y] } → h'.objs.size = s.heap.objs.size + 1 →
      (∀ b o, b ≠ J → b ≠ I → s.heap.get? b = some o → h'.get? b = some o) → Q (some (.ref s.heap.objs.size)) { s with heap := h', toks := s.toks + 1 }) → wpAny (model prog w) A (pyNext (.ref J)) Q Nv s
  end_ : ∀ {A : Around} {s : Shared} {μi : Mu} {j : Nat} {old : Value} {Q : Option Value → Shared → Prop}, A.handled = Option.none → src μi → HR prog w μi s.heap → IsEnum s.heap J I (j : Nat) old → St j s.heap → vs[j]? = Option.none →
    (∀ h', Heap.ExtBut I s.heap h' → Q Option.none { s with heap := h' }) → wpAny (model prog w) A (pyNext (.ref J)) Q Nv s
theorem eit_list {I J a : Nat} {vs : List V} (hne : J ≠ I) : EIt prog w I J (fun μ => μ a = some (.list vs)) vs (fun j h => h.IsListIter I a j) where
  at_ st k := st.at k
  odd st := Odd.fields (let ⟨o, h1, _, h3⟩ := st; ⟨o, _, h1, h3⟩)
  item hs R en st hv hq := by
    obtain ⟨items', nl', ho', hl''⟩ := R _ _ hs
    obtain ⟨y, hy, ey⟩ := hl''.getA hv
    exact wpAny_pyNext_enum_item en st (PySem.IsL.isList (n := nl') ho') hy hne fun h' x1 x2 x3 x4 x5 => hq y h' ey x1 x2 x3 x4 x5
  end_ hh hs R en st hv hq := by
    obtain ⟨items', nl', ho', hl''⟩ := R _ _ hs
    have hx := none_at hl'' hv
    exact wpAny_pyNext_enum_end hh en st (PySem.IsL.isList (n := nl') ho') hx hq
theorem eit_tuple {I J a : Nat} {vs : List V} (hne : J ≠ I) : EIt prog w I J (fun μ => μ a = some (.tuple vs)) vs (fun j h => h.IsTupleIter I a j) where
  at_ st k := tupAt st k
  odd st := Odd.fields (let ⟨o, h1, _, h3⟩ := st; ⟨o, _, h1, h3⟩)
  item hs R en st hv hq := by
    obtain ⟨items', nl', ho', hl''⟩ := R _ _ hs
    obtain ⟨y, hy, ey⟩ := hl''.getA hv
    exact enumT_item en st ⟨_, ho', rfl, nl', rfl⟩ hy hne fun h' x1 x2 x3 x4 x5 => hq y h' ey x1 x2 x3 x4 x5
  end_ hh hs R en st hv hq := by
    obtain ⟨items', nl', ho', hl''⟩ := R _ _ hs
    have hx := none_at hl'' hv
    exact enumT_end hh en st ⟨_, ho', rfl, nl', rfl⟩ hx hq

/-- the targets of a turn -/
theorem enum_targets {i x : X} {p1 p2 p3 : Pos} {kk : Nat} {env' : Env} {s : Shared} {μ μi : Mu} {ρ ρi : Rho} {D J I T Lc : Nat} {hi : Heap} {tki : Nat} {acc : List V} {j : Nat} {v : V} {y : Value} {vs : List V} {src : Mu → Prop} {St : Nat → Heap → Prop} (E : EIt prog w I J src vs St)
    (hA : AOk n A) (hFb : EnvFits inner env') (hl : env'.locals = Lc) (hIJ : I < J) (hJD : J < D) (hDL : D < Lc) (hTL : T ≠ J) (hi' : kindIs inner i.nm .local = true) (hxl : kindIs inner x.nm .local = true) (hρ : ∀ y, y ≠ i → y ≠ x → ρi y = ρ y) (nBig : ∀ d : Nat, I ≤ d → New μ s.heap d)
    (L : LS prog w env' s μ D ρi μi hi acc) (st : St (j + 1) hi) (oJ : μi J = Option.none) (hout : IsEnumOut hi J I ((j : Int) + 1) y T) (hT : hi.get? T = some { cls := .type "tuple", data := .seq #[.int j tki, y] }) (ey : er y = some v) :
    wpAny (model prog w) A (letOwnedTupleGo (.Tuple [.Name i.nm p1, .Name x.nm p2] kk p3) (.ref J) (.ref T)) (fun _ s₀ => wpAny (model prog w) A (assign (.Tuple [.Name i.nm p1, .Name x.nm p2] kk p3) env' (.ref T)) (fun _ s₂ => ∃ h₅ tk₅, s₂ = { s with heap := h₅, toks := tk₅ } ∧
      (St (j + 1) h₅ ∧ ∃ old, IsEnum h₅ J I ((j + 1 : Nat) : Int) old) ∧ LS prog w env' s μ D (bnd (bnd ρ i (.int (j : Nat))) x v) μi h₅ acc) Nv s₀) Nv { s with heap := hi, toks := tki + 1 } := by
  refine wpAny_letOwnedTupleGo_enum hout fun h₅ hen₅ hs₅ => ?_
  have keep₅ : ∀ b o, b ≠ J → hi.get? b = some o → h₅.get? b = some o := fun b o hb e => (hs₅.2 b hb).trans e
  have L₅ := L.off (Nat.ne_of_lt hJD) (Odd.fields ⟨_, _, hout, rfl⟩) (nBig J (Nat.le_of_lt hIJ)) oJ keep₅
  have T₅ := keep₅ T _ hTL hT
  have st₅ := E.at_ st fun o e => keep₅ I o (Nat.ne_of_lt hIJ) e
  refine wpAny_assign_Tuple hA.handled ⟨_, T₅, rfl, _, rfl⟩ rfl rfl fun h₆ keep₆ => ?_
  have up₆ : ∀ b o, h₅.get? b = some o → h₆.get? b = some o := fun b o e => keep₆ b o (Nat.ne_of_lt (Heap.lt_size e)) e
  have L₆ := L₅.up up₆
  have st₆ := E.at_ st₅ fun o e => up₆ I o e
  have en₆ := up₆ _ _ hen₅
  clear L₅ st₅ hen₅ T₅ up₆ keep₆ L st hout hT hs₅ keep₅
  show wpAny _ A (assignInOrder [assign (.Name i.nm p1) env', assign (.Name x.nm p2) env'] [.int j tki, y]) _ _ _
  refine assignInOrder_cons (wpAny_assign_Name (store_ok (s := { s with heap := h₆, toks := _ }) hFb L₆.e (canBind_local hi') (v := .int (j : Nat)) rfl fun h₇ tk₇ (d : Nat) hd' e₇ keep₇ => ?_))
  have hdL : d = Lc := by
    rcases hd' with q0 | ⟨q1, q2⟩
    · exact q0.trans hl
    · exact absurd q1 (not_cell hi')
  subst hdL
  have hDd := Nat.ne_of_gt hDL
  have L₇ := L₆.asg hDd e₇ (nBig d (by first | assumption | exact Nat.le_of_lt (by assumption) | exact Nat.lt_of_lt_of_le (by assumption) (by assumption) | exact Nat.lt_of_le_of_lt (by assumption) (by assumption) | exact Nat.le_trans (by assumption) (by decide) | exact Nat.lt_of_le_of_lt (by assumption) (by decide) | exact Nat.lt_of_lt_of_le (by assumption) (Nat.le_trans (by assumption) (by decide)) | exact Nat.ne_of_gt (by assumption) | exact Nat.ne_of_lt (by assumption) | omega)) (hl ▸ L₆.e.offL) keep₇
  have st₇ := E.at_ st₆ fun o e => keep₇ I o (show (I : Nat) ≠ d by first | assumption | exact Nat.le_of_lt (by assumption) | exact Nat.lt_of_lt_of_le (by assumption) (by assumption) | exact Nat.lt_of_le_of_lt (by assumption) (by assumption) | exact Nat.le_trans (by assumption) (by decide) | exact Nat.lt_of_le_of_lt (by assumption) (by decide) | exact Nat.lt_of_lt_of_le (by assumption) (Nat.le_trans (by assumption) (by decide)) | exact Nat.ne_of_gt (by assumption) | exact Nat.ne_of_lt (by assumption) | omega) e
  have en₇ := keep₇ J _ (show (J : Nat) ≠ d by first | assumption | exact Nat.le_of_lt (by assumption) | exact Nat.lt_of_lt_of_le (by assumption) (by assumption) | exact Nat.lt_of_le_of_lt (by assumption) (by assumption) | exact Nat.le_trans (by assumption) (by decide) | exact Nat.lt_of_le_of_lt (by assumption) (by decide) | exact Nat.lt_of_lt_of_le (by assumption) (Nat.le_trans (by assumption) (by decide)) | exact Nat.ne_of_gt (by assumption) | exact Nat.ne_of_lt (by assumption) | omega) en₆
  clear L₆ st₆ en₆ hd'
  refine assignInOrder_cons (wpAny_assign_Name (store_ok (s := { s with heap := h₇, toks := tk₇ }) hFb L₇.e (canBind_local hxl) ey fun h₈ tk₈ (d' : Nat) hd'' e₈ keep₈ => ?_))
  have hdL' : d' = d := by
    rcases hd'' with q0 | ⟨q1, q2⟩
    · exact q0.trans hl
    · exact absurd q1 (not_cell hxl)
  subst hdL'
  rw [bnd2 hρ] at e₈
  have L₈ := L₇.asg hDd e₈ (nBig d' (by first | assumption | exact Nat.le_of_lt (by assumption) | exact Nat.lt_of_lt_of_le (by assumption) (by assumption) | exact Nat.lt_of_le_of_lt (by assumption) (by assumption) | exact Nat.le_trans (by assumption) (by decide) | exact Nat.lt_of_le_of_lt (by assumption) (by decide) | exact Nat.lt_of_lt_of_le (by assumption) (Nat.le_trans (by assumption) (by decide)) | exact Nat.ne_of_gt (by assumption) | exact Nat.ne_of_lt (by assumption) | omega)) (hl ▸ L₇.e.offL) keep₈
  exact assignInOrder_nil ⟨h₈, tk₈, rfl, ⟨E.at_ st₇ fun o e => keep₈ I o (show (I : Nat) ≠ d' by first | assumption | exact Nat.le_of_lt (by assumption) | exact Nat.lt_of_lt_of_le (by assumption) (by assumption) | exact Nat.lt_of_le_of_lt (by assumption) (by assumption) | exact Nat.le_trans (by assumption) (by decide) | exact Nat.lt_of_le_of_lt (by assumption) (by decide) | exact Nat.lt_of_lt_of_le (by assumption) (Nat.le_trans (by assumption) (by decide)) | exact Nat.ne_of_gt (by assumption) | exact Nat.ne_of_lt (by assumption) | omega) e, _, keep₈ J _ (show (J : Nat) ≠ d' by first | assumption | exact Nat.le_of_lt (by assumption) | exact Nat.lt_of_lt_of_le (by assumption) (by assumption) | exact Nat.lt_of_le_of_lt (by assumption) (by assumption) | exact Nat.le_trans (by assumption) (by decide) | exact Nat.lt_of_le_of_lt (by assumption) (by decide) | exact Nat.lt_of_lt_of_le (by assumption) (Nat.le_trans (by assumption) (by decide)) | exact Nat.ne_of_gt (by assumption) | exact Nat.ne_of_lt (by assumption) | omega) en₇⟩, L₈⟩

theorem enum_loop {elt : ME} {i x : X} {c : MC} {elt' e' : PySem.Expr} {ifs : List PySem.Expr} {p1 p2 p3 pos : Pos} {kk : Nat} {ρ : Rho} {μ μ₂ : Mu} {s : Shared} {Q : QV} {env : Env} {I J D L tk : Nat} {h₃ : Heap} {vs : List V} {src : Mu → Prop} {St : Nat → Heap → Prop} (E : EIt prog w I J src vs St)
    (hA : AOk n A) (hF : EnvFits sc env) (hs : scopeOk sc inner = true) (hi : kindIs inner i.nm .local = true) (hxl : kindIs inner x.nm .local = true) (B : Bs h₀ μ s.heap) (hc : SC prog w h₀ n Φ inner c ifs) (he : SE prog w h₀ n Φ inner elt elt') (hz : vs.length ≤ sizeLine)
    (hIJ : I < J) (hJD : J < D) (eL : L = D + 1) (nBig : ∀ d : Nat, I ≤ d → New μ s.heap d) (oBig : ∀ d : Nat, I ≤ d → μ₂ d = Option.none) (hen : IsEnum h₃ J I 0 .none) (st0 : St 0 h₃) (hD : h₃.get? D = some (listO #[] 0)) (e3 : EnvR (blockEnv inner L env) ρ μ₂ h₃) (R₃ : HR prog w μ₂ h₃) (F₃ : Fm μ s.heap μ₂ h₃)
    (k0 : compP src (fun (vi : V × Nat) μ₂ k => wpC Φ c (bnd (bnd ρ i (.int vi.2)) x vi.1) μ₂ fun t μ₃ => if t then wpE Φ elt (bnd (bnd ρ i (.int vi.2)) x vi.1) μ₃ fun y μ₄ => k [y] μ₄ else k [] μ₃) vs.zipIdx [] μ₂ (fun acc μ₅ => ∀ c, μ₅ c = Option.none → Q (.ref c) (upd μ₅ c (.list acc)))) :
    codeAny (model prog w) A (.compLoop (.ListComp elt' [⟨.Tuple [.Name i.nm p1, .Name x.nm p2] kk p3, e', ifs, 0⟩] inner pos) 0 (.ref J) (.ref D) (blockEnv inner L env)) (EndC prog w s μ Q D L) { s with heap := h₃, toks := tk } := by
  have DL : D < L := by first | assumption | exact Nat.le_of_lt (by assumption) | exact Nat.lt_of_lt_of_le (by assumption) (by assumption) | exact Nat.lt_of_le_of_lt (by assumption) (by assumption) | exact Nat.le_trans (by assumption) (by decide) | exact Nat.lt_of_le_of_lt (by assumption) (by decide) | exact Nat.lt_of_lt_of_le (by assumption) (Nat.le_trans (by assumption) (by decide)) | exact Nat.ne_of_gt (by assumption) | exact Nat.ne_of_lt (by assumption) | omega
  have hID : I < D := Nat.lt_trans hIJ hJD
  have nL := nBig L (by first | assumption | exact Nat.le_of_lt (by assumption) | exact Nat.lt_of_lt_of_le (by assumption) (by assumption) | exact Nat.lt_of_le_of_lt (by assumption) (by assumption) | exact Nat.le_trans (by assumption) (by decide) | exact Nat.lt_of_le_of_lt (by assumption) (by decide) | exact Nat.lt_of_lt_of_le (by assumption) (Nat.le_trans (by assumption) (by decide)) | exact Nat.ne_of_gt (by assumption) | exact Nat.ne_of_lt (by assumption) | omega)
  have LS0 : LS prog w (blockEnv inner L env) s μ D ρ μ₂ h₃ [] := ⟨⟨#[], 0, hD, LR.nil⟩, e3, R₃, F₃, oBig D (Nat.le_of_lt hID), nBig D (Nat.le_of_lt hID)⟩
  refine loop_gen (S := fun b => b = J ∨ b = I) (St := fun j h => St j h ∧ ∃ old, IsEnum h J I (j : Nat) old) (Rok := fun ρi => ∀ y, y ≠ i → y ≠ x → ρi y = ρ y) (items := vs.zipIdx) (src := src) (bd := fun vi => bnd (bnd ρ i (.int vi.2)) x vi.1) (ρ0 := ρ) hA (block_fits hF hs L) rfl (Nat.ne_of_lt DL) nL B hc he
    (by rw [List.length_zipIdx]; exact hz) (fun b hb => by rcases hb with rfl | rfl; exact Nat.ne_of_lt hJD; exact Nat.ne_of_lt hID)
    (fun j h h' st k => ⟨E.at_ st.1 fun o e => k I o (.inr rfl) e, let ⟨old, e⟩ := st.2; ⟨old, k J _ (.inl rfl) e⟩⟩) (fun j h st b hb => by
      rcases hb with rfl | rfl
      · obtain ⟨old, e⟩ := st.2; exact ⟨_, e⟩
      · obtain ⟨o, e, _⟩ := E.odd st.1; exact ⟨o, e⟩) (fun vi y h1 h2 => (if_neg h2).trans (if_neg h1)) ?_ LS0 ⟨st0, _, hen⟩ (fun _ _ _ => rfl) (fun b hb => by rcases hb with rfl | rfl; exact oBig _ (Nat.le_of_lt hIJ); exact oBig _ (Nat.le_refl _)) k0
  clear k0 LS0 st0 hen hD e3 R₃ F₃
  intro j μi hi' tki ρi acc st hle Ls hρ off hsrc
  obtain ⟨st, oldv, hen'⟩ := st
  have hzi : ∀ {r : Option V}, vs[j]? = r → vs.zipIdx[j]? = r.map fun v => (v, j) := fun h => by rw [List.getElem?_zipIdx, h]; simp
  cases hv : vs[j]? with
  | none =>
    refine E.end_ (s := { s with heap := hi', toks := tki }) hA.handled hsrc Ls.R hen' st hv fun h₄ keep => ⟨hzi hv, h₄, tki, rfl, ?_⟩
    exact Ls.off (Nat.ne_of_lt hID) (E.odd st) (nBig I (Nat.le_refl _)) (off I (.inr rfl)) fun b o hb e => keep b o hb e
  | some v =>
    refine E.item (s := { s with heap := hi', toks := tki }) hsrc Ls.R hen' st hv fun y h₄ hy hout st₄ hT hsz₄ keep => ⟨(v, j), hzi hv, ?_⟩
    have L₄ := Ls.offS (S := fun b => b = J ∨ b = I) (fun q => by rcases q with q | q; exact Nat.ne_of_gt hJD q; exact Nat.ne_of_gt hID q) (fun b q => by rcases q with rfl | rfl; exact Odd.fields ⟨_, _, hen', rfl⟩; exact E.odd st)
      (fun b q => by rcases q with rfl | rfl; exact nBig _ (Nat.le_of_lt hIJ); exact nBig _ (Nat.le_refl _)) off fun b o hb e => keep b o (fun q => hb (.inl q)) (fun q => hb (.inr q)) e
    exact enum_targets E hA (block_fits hF hs L) rfl hIJ hJD DL (Nat.ne_of_gt (szLt hen')) hi hxl hρ nBig L₄ st₄ (off J (.inl rfl)) hout hT hy

theorem se_compE {elt : ME} {i x : X} {e : ME} {c : MC} {elt' e' : PySem.Expr} {ifs : List PySem.Expr} (p1 p2 p3 p4 p5 pos : Pos) (kk : Nat) (G : Gl h₀ mg mb fa) (hk : kindIs sc "enumerate" .globalImplicit = true) (hst : ∀ env, starEach [e'] env = [(false, eval e' env)])
    (hi : kindIs inner i.nm .local = true) (hxl : kindIs inner x.nm .local = true) (hix : i ≠ x) (hs : scopeOk sc inner = true) (hx : onlyLocals inner [i.nm, x.nm] = true)
    (hit : SE prog w h₀ n Φ sc e e') (hc : SC prog w h₀ n Φ inner c ifs) (he : SE prog w h₀ n Φ inner elt elt') :
    SE prog w h₀ n Φ sc (.compE elt i x e c) (.ListComp elt' [⟨.Tuple [.Name i.nm p1, .Name x.nm p2] kk p3, .Call (.Name "enumerate" p4) [e'] [] p5, ifs, 0⟩] inner pos) := fun A env ρ μ Q s hA hF C h => by
  obtain ⟨hno1, hno2, h⟩ := h
  show wpAny _ A (comprehension (.ListComp elt' [⟨.Tuple [.Name i.nm p1, .Name x.nm p2] kk p3, .Call (.Name "enumerate" p4) [e'] [] p5, ifs, 0⟩] inner pos) inner env p5 (newList []) false (eval (.Call (.Name "enumerate" p4) [e'] [] p5) env) Option.none) _ _ s
  refine comp_block (Q := Q) (xs := [i, x]) (K := fun _ => True) hF C.env hs hx (fun y hy => ?_) (fun _ => rfl) (fun D L r s' z => endC_none z)
    (call_t1 G hA hF C hk (in_names 5 rfl) boot_enumerate hst hit h fun v v' μ₂ h₂' tk hv R₂ F₂ z => ?_)
  · rcases List.mem_cons.mp hy with rfl | hy
    · exact hno1
    · rw [List.mem_singleton.mp hy]; exact hno2
  obtain ⟨a, ob, vs, rfl, ea, hsv, hz, k0⟩ := z
  have up_ : ∀ h₂ : Heap, (∀ b o, h₂'.get? b = some o → h₂.get? b = some o) → h₂.objs.size = h₂'.objs.size + 2 → HR prog w μ₂ h₂ ∧ Fm μ s.heap μ₂ h₂ ∧ (∀ d : Nat, h₂'.objs.size ≤ d → New μ s.heap d) ∧ ∀ d : Nat, h₂'.objs.size ≤ d → μ₂ d = Option.none := fun h₂ up _ =>
    ⟨R₂.ext up, F₂.trans (Fm.ext up), fun d hd => F₂.new (fresh_none _ _ hd), fun d hd => by
      cases e : μ₂ d with
      | none => rfl
      | some o => obtain ⟨ob, e'⟩ := (R₂ _ _ e).there; exact absurd (szLt e') (Nat.not_lt.mpr hd)⟩
  rw [er_ref hv]
  cases ob with
  | dict _ => cases hsv
  | ro _ => cases hsv
  | list vs' =>
    cases hsv
    obtain ⟨items, nl, ho, hl⟩ := R₂ _ _ ea
    refine call_enumerate_list (PySem.IsL.isList (n := nl) ho) fun h₂ hen hli hsz up => wpAny_pyIter_enum hen ?_
    obtain ⟨R₂', F₂', nBig, oBig⟩ := up_ h₂ up hsz
    have hsz : h₂.objs.size = h₂'.objs.size + 2 := hsz
    refine ⟨μ₂, h₂, _, h₂'.objs.size + 1, rfl, rfl, R₂', F₂', fun D L h₃ eD eL hD e3 R₃ old => ⟨fun Q q => wpAny_pyIter_enum (old _ _ hen) q, ?_⟩⟩
    exact enum_loop (eit_list (I := h₂'.objs.size) (J := h₂'.objs.size + 1) (a := a) (Nat.ne_of_gt (Nat.lt_succ_self _))) hA hF hs hi hxl C.bs hc he hz (Nat.lt_succ_self _) (by first | assumption | exact Nat.le_of_lt (by assumption) | exact Nat.lt_of_lt_of_le (by assumption) (by assumption) | exact Nat.lt_of_le_of_lt (by assumption) (by assumption) | exact Nat.le_trans (by assumption) (by decide) | exact Nat.lt_of_le_of_lt (by assumption) (by decide) | exact Nat.lt_of_lt_of_le (by assumption) (Nat.le_trans (by assumption) (by decide)) | exact Nat.ne_of_gt (by assumption) | exact Nat.ne_of_lt (by assumption) | omega) eL nBig oBig (old _ _ hen) (hli.at fun o e => old _ _ e) hD e3 R₃ (F₂'.trans (Fm.ext old)) k0
  | tuple vs' =>
    cases hsv
    obtain ⟨items, nl, ho, hl⟩ := R₂ _ _ ea
    refine call_enumerate_tuple (n := nl) ho fun h₂ hen hli hsz up => wpAny_pyIter_enum hen ?_
    obtain ⟨R₂', F₂', nBig, oBig⟩ := up_ h₂ up hsz
    have hsz : h₂.objs.size = h₂'.objs.size + 2 := hsz
    refine ⟨μ₂, h₂, _, h₂'.objs.size + 1, rfl, rfl, R₂', F₂', fun D L h₃ eD eL hD e3 R₃ old => ⟨fun Q q => wpAny_pyIter_enum (old _ _ hen) q, ?_⟩⟩
    exact enum_loop (eit_tuple (I := h₂'.objs.size) (J := h₂'.objs.size + 1) (a := a) (Nat.ne_of_gt (Nat.lt_succ_self _))) hA hF hs hi hxl C.bs hc he hz (Nat.lt_succ_self _) (by first | assumption | exact Nat.le_of_lt (by assumption) | exact Nat.lt_of_lt_of_le (by assumption) (by assumption) | exact Nat.lt_of_le_of_lt (by assumption) (by assumption) | exact Nat.le_trans (by assumption) (by decide) | exact Nat.lt_of_le_of_lt (by assumption) (by decide) | exact Nat.lt_of_lt_of_le (by assumption) (Nat.le_trans (by assumption) (by decide)) | exact Nat.ne_of_gt (by assumption) | exact Nat.ne_of_lt (by assumption) | omega) eL nBig oBig (old _ _ hen) (tupAt hli fun o e => old _ _ e) hD e3 R₃ (F₂'.trans (Fm.ext old)) k0
end
end Mine

end PartML9

section PartML10
open PySem PySem.W PyProof.Rows
set_option linter.unusedVariables false
set_option linter.unusedSimpArgs false
set_option maxRecDepth 100000
namespace Mine

theorem compTurn2_0 (elt t1 t2 iter iter2 : PySem.Expr) (scope : Scope) (pos : Pos) (it acc : Value) (env : Env) :
    compTurn (.ListComp elt [⟨t1, iter, [], 0⟩, ⟨t2, iter2, [], 0⟩] scope pos) 0 it acc env = (do
      standAt iter.pos
      match ← pyNext it with
      | none => pure (.done .next)
      | some v =>
        letOwnedTupleGo t1 it v
        assign t1 env v
        let x ← eval iter2 env
        standAt iter2.pos
        let x ← foldedSetIterable iter2 env x
        let _ ← runOwn (.compStart (.ListComp elt [⟨t1, iter, [], 0⟩, ⟨t2, iter2, [], 0⟩] scope pos) 1 (← holding [x] (pyIter x)) acc env) env
        again (.compLoop (.ListComp elt [⟨t1, iter, [], 0⟩, ⟨t2, iter2, [], 0⟩] scope pos) 0 it acc env)) := by rfl
theorem compTurn2_1 (elt t1 t2 iter iter2 : PySem.Expr) (scope : Scope) (pos : Pos) (it acc : Value) (env : Env) :
    compTurn (.ListComp elt [⟨t1, iter, [], 0⟩, ⟨t2, iter2, [], 0⟩] scope pos) 1 it acc env = (do
      standAt iter2.pos
      match ← pyNext it with
      | none => pure (.done .next)
      | some v =>
        letOwnedTupleGo t2 it v
        assign t2 env v
        (do let _ ← call (.builtin "list.append") [acc, ← eval elt env])
        again (.compLoop (.ListComp elt [⟨t1, iter, [], 0⟩, ⟨t2, iter2, [], 0⟩] scope pos) 1 it acc env)) := by rfl

section
variable {prog : Program} {w : World} {h₀ : Heap} {n : Nat} {Φ : Phi} {sc inner : Scope} {A : Around} {mg mb : Str → Option Value} {fa : Fn → Addr}

theorem loop2_0 {elt t1 t2 iter iter2 : PySem.Expr} {scope : Scope} {pos : Pos} {it acc : Value} {env : Env} {R : Result → Shared → Prop} {s : Shared} (I : Nat → Shared → Prop) (ht : ∀ v, letOwnedTupleGo t1 it v = pure ()) (hset : ∀ v, foldedSetIterable iter2 env v = pure v)
    (turn : ∀ n s, I n s → wpAny (model prog w) A (pyNext it) (fun r s₁ => match r with
      | none => R (.ok .next) s₁
      | some v => wpAny (model prog w) A (assign t1 env v) (fun _ s₂ => wpAny (model prog w) A (eval iter2 env) (fun x s₃ => wpAny (model prog w) A (pyIter x) (fun it2 s₄ =>
          codeAny (model prog w) A (.compStart (.ListComp elt [⟨t1, iter, [], 0⟩, ⟨t2, iter2, [], 0⟩] scope pos) 1 it2 acc env) (fun r s₅ => match r with | .ok _ => ∃ m, m < n ∧ I m s₅ | .error _ => False) s₄) Nv s₃) Nv s₂) Nv s₁) Nv s)
    (n : Nat) (h : I n s) : codeAny (model prog w) A (.compLoop (.ListComp elt [⟨t1, iter, [], 0⟩, ⟨t2, iter2, [], 0⟩] scope pos) 0 it acc env) R s := by
  refine codeAny_loop rfl I (fun n s hI => ?_) n h
  show wpAny _ A ((compTurn (.ListComp elt [⟨t1, iter, [], 0⟩, ⟨t2, iter2, [], 0⟩] scope pos) 0 it acc env).onRaise (fun x => do noteFrame x env; theTreesLotGoes x)) _ _ s
  refine wpAny_noted (anyE ?_)
  rw [compTurn2_0]
  refine wpAny_bind (wpAny_standAt (wpAny_bind (wpAny_mono (turn n s hI) (fun r s₁ h₁ => ?_) fun _ _ h' => h')))
  cases r with
  | none => exact wpAny_pure h₁
  | some v =>
    refine wpAny_bind (wpAny_of_eq (ht v) ?_)
    refine wpAny_bind (wpAny_mono h₁ (fun _ s₂ h₂ => wpAny_bind (wpAny_mono h₂ (fun x s₃ h₃ => wpAny_bind (wpAny_standAt (wpAny_bind (wpAny_of_eq (hset x) ?_)))) fun _ _ h' => h')) fun _ _ h' => h')
    refine wpAny_bind (wpAny_holding (wpAny_mono h₃ (fun it2 s₄ h₄ => ?_) fun _ _ h' => h'))
    refine wpAny_bind (wpAny_runOwn (codeAny_mono h₄ fun r s₅ z => ?_))
    cases r with
    | error _ => exact z.elim
    | ok f => exact wpAny_pure ⟨rfl, z⟩

theorem loop2_1 {elt t1 t2 iter iter2 : PySem.Expr} {scope : Scope} {pos : Pos} {it acc : Value} {env : Env} {R : Result → Shared → Prop} {s : Shared} (I : Nat → Shared → Prop) (ht : ∀ v, letOwnedTupleGo t2 it v = pure ())
    (turn : ∀ n s, I n s → wpAny (model prog w) A (pyNext it) (fun r s₁ => match r with
      | none => R (.ok .next) s₁
      | some v => wpAny (model prog w) A (assign t2 env v) (fun _ s₂ => wpAny (model prog w) A (eval elt env) (fun x s₃ =>
          wpAny (model prog w) A (call (.builtin "list.append") [acc, x]) (fun _ s₄ => ∃ m, m < n ∧ I m s₄) Nv s₃) Nv s₂) Nv s₁) Nv s)
    (n : Nat) (h : I n s) : codeAny (model prog w) A (.compLoop (.ListComp elt [⟨t1, iter, [], 0⟩, ⟨t2, iter2, [], 0⟩] scope pos) 1 it acc env) R s := by
  refine codeAny_loop rfl I (fun n s hI => ?_) n h
  show wpAny _ A ((compTurn (.ListComp elt [⟨t1, iter, [], 0⟩, ⟨t2, iter2, [], 0⟩] scope pos) 1 it acc env).onRaise (fun x => do noteFrame x env; theTreesLotGoes x)) _ _ s
  refine wpAny_noted (anyE ?_)
  rw [compTurn2_1]
  refine wpAny_bind (wpAny_standAt (wpAny_bind (wpAny_mono (turn n s hI) (fun r s₁ h₁ => ?_) fun _ _ h' => h')))
  cases r with
  | none => exact wpAny_pure h₁
  | some v =>
    refine wpAny_bind (wpAny_of_eq (ht v) ?_)
    exact wpAny_bind (wpAny_mono h₁ (fun _ s₂ h₂ => wpAny_bind (wpAny_bind (wpAny_mono h₂ (fun x s₃ h₃ => wpAny_bind (wpAny_mono h₃ (fun _ s₄ h₄ => wpAny_pure (wpAny_pure ⟨rfl, h₄⟩)) fun _ _ h' => h')) fun _ _ h' => h'))) fun _ _ h' => h')

theorem start2_1 {elt t1 t2 iter iter2 : PySem.Expr} {scope : Scope} {pos : Pos} {it acc : Value} {env : Env} {R : Result → Shared → Prop} {s : Shared}
    (h0 : codeAny (model prog w) A (.compLoop (.ListComp elt [⟨t1, iter, [], 0⟩, ⟨t2, iter2, [], 0⟩] scope pos) 1 it acc env) R s)
    (h : ∀ Q : Value → Shared → Prop, Q it s → wpAny (model prog w) A (pyIter it) Q Nv s) :
    codeAny (model prog w) A (.compStart (.ListComp elt [⟨t1, iter, [], 0⟩, ⟨t2, iter2, [], 0⟩] scope pos) 1 it acc env) R s := by
  refine codeAny_of_tree ?_
  show wpAny _ A ((compStart (.ListComp elt [⟨t1, iter, [], 0⟩, ⟨t2, iter2, [], 0⟩] scope pos) 1 it acc env).onRaise (fun x => do noteFrame x env; standAt theWindowsPlace)) _ _ s
  refine wpAny_notedAt (anyE ?_)
  unfold compStart
  show wpAny _ A (ask >>= _) _ _ s
  refine wpAny_bind (wpAny_askSetting (wpAny_ite ?_))
  split
  · first
      | exact wpAny_bind (wpAny_pure (wpAny_pure (And.intro rfl h0)))
      | exact wpAny_pure (And.intro rfl h0)
  · first
      | exact wpAny_bind (wpAny_rule (wpAny_bind (wpAny_standAt (wpAny_bind (h _ (wpAny_pure (And.intro rfl h0)))))))
      | (refine wpAny_bind (wpAny_rule ?_); show wpAny _ _ (standAt iter2.pos >>= _) _ _ s; exact wpAny_bind (wpAny_standAt (wpAny_bind (h _ (wpAny_pure (And.intro rfl h0))))))

/-- the inner loop of a comprehension of two -/
theorem comp2_inner {elt : ME} {y : X} {elt' t1 iter iter2 : PySem.Expr} {p2 pos : Pos} {env' : Env} {s : Shared} {μ μ₆ : Mu} {D I I2 L : Nat} {h₆ : Heap} {tk₆ : Nat} {acc : List V} {ρ1 : Rho} {items2 : List V} {src2 : Mu → Prop} {St2 : Nat → Heap → Prop} {Kp : Heap → Prop} {K : List V → Mu → Prop} {R : Result → Shared → Prop}
    (IT2 : It prog w I2 items2 src2 St2) (hA : AOk n A) (hFb : EnvFits inner env') (hl : env'.locals = L) (hyl : kindIs inner y.nm .local = true) (he : SE prog w h₀ n Φ inner elt elt') (hI2 : I ≠ I2) (hID : I ≠ D) (hIL : I ≠ L) (hD2 : D ≠ I2) (hDL : D ≠ L) (hL2 : L ≠ I2) (nI2 : New μ s.heap I2) (nL : New μ s.heap L) (B : Bs h₀ μ s.heap)
    (fr : ∀ h h', Kp h → (∀ o, h.get? I = some o → h'.get? I = some o) → Kp h') (th : ∀ h, Kp h → ∃ o, h.get? I = some o) (hz : acc.length + items2.length ≤ sizeLine) (L0 : LS prog w env' s μ D ρ1 μ₆ h₆ acc) (kp0 : Kp h₆) (st0 : St2 0 h₆) (oI : μ₆ I = Option.none) (oI2 : μ₆ I2 = Option.none)
    (k2 : compP src2 (fun w μ₄ k2 => wpE Φ elt (bnd ρ1 y w) μ₄ fun z μ₅ => k2 [z] μ₅) items2 [] μ₆ K)
    (hend : ∀ acc2 μj hj tkj ρj, acc2.length ≤ items2.length → LS prog w env' s μ D ρj μj hj (acc ++ acc2) → (∀ z, z ≠ y → ρj z = ρ1 z) → Kp hj → μj I = Option.none → K acc2 μj → R (.ok .next) { s with heap := hj, toks := tkj }) :
    codeAny (model prog w) A (.compLoop (.ListComp elt' [⟨t1, iter, [], 0⟩, ⟨.Name y.nm p2, iter2, [], 0⟩] inner pos) 1 (.ref I2) (.ref D) env') R { s with heap := h₆, toks := tk₆ } := by
  obtain ⟨Inv, hInv⟩ : ∃ Inv : Nat → Shared → Prop, ∀ k s', Inv k s' ↔ ∃ i acc' μi hi tk ρi, CI prog w env' s μ D (fun b => b = I2 ∨ b = I) (fun j h => St2 j h ∧ Kp h) (fun ρj => ∀ z, z ≠ y → ρj z = ρ1 z) items2.length (fun j => acc.length + j)
      (fun i acc' μi => ∃ acc2, acc' = acc ++ acc2 ∧ compP src2 (fun w μ₄ k2 => wpE Φ elt (bnd ρ1 y w) μ₄ fun z μ₅ => k2 [z] μ₅) (items2.drop i) acc2 μi K) k s' i acc' μi hi tk ρi := ⟨_, fun _ _ => Iff.rfl⟩
  refine loop2_1 Inv (fun _ => rfl) ?_ (items2.length + 1) ((hInv _ _).mpr ⟨0, acc, μ₆, h₆, tk₆, ρ1, rfl, rfl, Nat.zero_le _, ⟨st0, kp0⟩, L0, Nat.le_refl _, fun _ _ => rfl, fun b hb => by rcases hb with rfl | rfl; exact oI2; exact oI, [], (List.append_nil _).symm, k2⟩)
  clear k2 L0 kp0 st0 oI oI2
  intro k s' hI
  obtain ⟨i, acc', μi, hi, tki, ρi, C⟩ := (hInv _ _).mp hI
  obtain ⟨es, -, hle, st, Ls, hlen, hρ, off, acc2, rfl, kc⟩ := id C
  rw [es]
  refine wpAny_mono (IT2.next A i { s with heap := hi, toks := tki } μi hA.handled st.1 Ls.R (compP_src kc)) (fun r s₁ yy => ?_) fun _ _ x => x
  obtain ⟨h₇, tk₇, rfl, keep₇, hr⟩ := yy
  have L₇ := Ls.off hD2.symm (Odd.fields (IT2.there _ _ st.1)) nI2 (off I2 (.inl rfl)) keep₇
  have kp₇ := fr _ _ st.2 fun o e => keep₇ I o hI2 e
  have hl2 : acc2.length ≤ i := by rw [List.length_append] at hlen; exact Nat.le_of_add_le_add_left hlen
  cases hv : items2[i]? with
  | none =>
    rw [hv] at hr
    subst hr
    rw [drop_end hv] at kc
    exact hend acc2 μi h₇ tk₇ ρi (Nat.le_trans hl2 hle) L₇ hρ kp₇ (off I (.inr rfl)) (compP_nil kc).2
  | some v2 =>
    rw [hv] at hr
    obtain ⟨y2, rfl, hy2, st2⟩ := hr
    have hlt := (List.getElem?_eq_some_iff.mp hv).1
    rw [drop_at hv] at kc
    have kb := (compP_cons kc).2
    clear kc
    refine wpAny_assign_Name (store_ok (s := { s with heap := h₇, toks := tk₇ }) hFb L₇.e (canBind_local hyl) hy2 fun h₈ tk₈ (d : Nat) hd' e₈ keep₈ => ?_)
    have hdL : d = L := by
      rcases hd' with q0 | ⟨q1, q2⟩
      · exact q0.trans hl
      · exact absurd q1 (not_cell hyl)
    subst hdL
    rw [bnd_bnd hρ] at e₈
    have L₈ := L₇.asg hDL.symm e₈ nL (hl ▸ L₇.e.offL) keep₈
    have kp₈ := fr _ _ kp₇ fun o e => keep₈ I o hIL e
    have st₈ := IT2.frame _ _ _ st2 fun o e => keep₈ I2 o hL2.symm e
    clear L₇ kp₇ st2 keep₈ keep₇ Ls e₈ hd'
    refine wpAny_mono (he A env' (bnd ρ1 y v2) μi _ { s with heap := h₈, toks := tk₈ } hA hFb ⟨L₈.e, L₈.R, B.mono L₈.F⟩ kb) (fun y' s₃ z => ?_) fun _ _ x => x
    refine Pst.elim z fun v' μ₉ h₉ tk₉ hv' R₉ F₉ q₉ => ?_
    have st₉ := IT2.frame _ _ _ st₈ fun o e => (F₉ I2 o e (mutb_none (off I2 (.inl rfl)))).1
    have kp₉ := fr _ _ kp₈ fun o e => (F₉ I o e (mutb_none (off I (.inr rfl)))).1
    have off₉ : ∀ b, (b = I2 ∨ b = I) → μ₉ b = Option.none := fun b hb => by
      rcases hb with rfl | rfl
      · obtain ⟨o, _, e, _⟩ := IT2.there _ _ st₈; exact F₉.off e (off _ (.inl rfl))
      · obtain ⟨o, e⟩ := th _ kp₈; exact F₉.off e (off _ (.inr rfl))
    refine (L₈.run R₉ F₉).grow (Nat.le_trans hlen (Nat.le_trans (Nat.add_le_add_left hle _) hz)) hv' fun h'' L'' keep'' => ?_
    obtain ⟨m, h1, h2⟩ := C.next hlt (tk' := tk₉) ⟨IT2.frame _ _ _ st₉ fun o e => keep'' I2 o hD2.symm e, fr _ _ kp₉ fun o e => keep'' I o hID e⟩ L'' (by rw [List.length_append]; exact Nat.succ_le_succ hlen) (fun z hz => if_neg hz) off₉ ⟨acc2 ++ [v'], by rw [List.append_assoc], q₉⟩
    exact ⟨m, h1, (hInv _ _).mpr h2⟩

/-- y may hold what the turn before left: it is not asked -/
theorem forget_y {env' : Env} {ρ ρi : Rho} {x y : X} {v : V} {μi : Mu} {h₅ : Heap} (hno2 : ρ y = Option.none) (hρ : ∀ z, z ≠ x → z ≠ y → ρi z = ρ z) (e₅ : EnvR env' (bnd ρi x v) μi h₅) : EnvR env' (bnd ρ x v) μi h₅ := by
  have key : ∀ z u, bnd ρ x v z = some u → bnd ρi x v z = some u := fun z u hz => by
    by_cases hzx : z = x
    · subst hzx; simpa [bnd] using hz
    · by_cases hzy : z = y
      · subst hzy; simp [bnd, hzx] at hz; rw [hno2] at hz; cases hz
      · simp [bnd, hzx] at hz ⊢; rw [hρ z hzx hzy]; exact hz
  refine ⟨?_, e₅.cell, fun z u c hz hk e => e₅.val z u c (key z u hz) hk e, e₅.offL, e₅.offC, e₅.apart⟩
  obtain ⟨m, hn, hm⟩ := e₅.ns
  exact ⟨m, hn, fun z u hz hk => hm z u (key z u hz) hk⟩

theorem comp2_outer {elt : ME} {x y : X} {it2 : MI} {elt' iter iter2 : PySem.Expr} {p p2 pos : Pos} {env' : Env} {s : Shared} {μ μ₂ : Mu} {D I L : Nat} {h₃ : Heap} {tk : Nat} {ρ : Rho} {items : List V} {src : Mu → Prop} {St : Nat → Heap → Prop} {Q : QV}
    (IT : It prog w I items src St) (hA : AOk n A) (hFb : EnvFits inner env') (hl : env'.locals = L) (hxl : kindIs inner x.nm .local = true) (hyl : kindIs inner y.nm .local = true) (hit2 : SI prog w h₀ n Φ inner it2 iter2) (he : SE prog w h₀ n Φ inner elt elt') (hID : I < D) (hDL : D < L) (nI : New μ s.heap I) (nL : New μ s.heap L) (B : Bs h₀ μ s.heap)
    (hno2 : ρ y = Option.none) (hz : items.length ≤ 1000) (L0 : LS prog w env' s μ D ρ μ₂ h₃ []) (st0 : St 0 h₃) (oI : μ₂ I = Option.none)
    (k0 : compP src (fun v μ₂ k => wpI Φ it2 (bnd ρ x v) μ₂ fun items2 src2 μ₃ => items2.length ≤ 1000 ∧ compP src2 (fun w μ₄ k2 => wpE Φ elt (bnd (bnd ρ x v) y w) μ₄ fun z μ₅ => k2 [z] μ₅) items2 [] μ₃ k) items [] μ₂ (fun acc μ₅ => ∀ c, μ₅ c = Option.none → Q (.ref c) (upd μ₅ c (.list acc)))) :
    codeAny (model prog w) A (.compLoop (.ListComp elt' [⟨.Name x.nm p, iter, [], 0⟩, ⟨.Name y.nm p2, iter2, [], 0⟩] inner pos) 0 (.ref I) (.ref D) env') (EndC prog w s μ Q D L) { s with heap := h₃, toks := tk } := by
  obtain ⟨QQ, hQQ⟩ : ∃ QQ : List V → Mu → Prop, QQ = fun acc μ₅ => ∀ c, μ₅ c = Option.none → Q (.ref c) (upd μ₅ c (.list acc)) := ⟨_, rfl⟩
  obtain ⟨body, hbody⟩ : ∃ body : V → Mu → (List V → Mu → Prop) → Prop, body = fun v μ₂ k => wpI Φ it2 (bnd ρ x v) μ₂ fun items2 src2 μ₃ => items2.length ≤ 1000 ∧ compP src2 (fun w μ₄ k2 => wpE Φ elt (bnd (bnd ρ x v) y w) μ₄ fun z μ₅ => k2 [z] μ₅) items2 [] μ₃ k := ⟨_, rfl⟩
  rw [← hQQ, ← hbody] at k0
  have hend : ∀ ρi μi hi acc tk, LS prog w env' s μ D ρi μi hi acc → QQ acc μi → EndC prog w s μ Q D L (.ok .next) { s with heap := hi, toks := tk } := fun ρi μi hi acc tk Ls q => Ls.end_ hl (Nat.ne_of_lt hDL) nL (by rw [hQQ] at q; exact q) tk _
  have hrun : ∀ v μi k, body v μi k → wpI Φ it2 (bnd ρ x v) μi fun items2 src2 μ₃ => items2.length ≤ 1000 ∧ compP src2 (fun w μ₄ k2 => wpE Φ elt (bnd (bnd ρ x v) y w) μ₄ fun z μ₅ => k2 [z] μ₅) items2 [] μ₃ k := fun x μi k h => by rw [hbody] at h; exact h
  clear hQQ hbody
  obtain ⟨Inv, hInv⟩ : ∃ Inv : Nat → Shared → Prop, ∀ k s', Inv k s' ↔ ∃ i acc μi hi tk ρi, CI prog w env' s μ D (fun b => b = I) St (fun ρi => ∀ z, z ≠ x → z ≠ y → ρi z = ρ z) items.length (fun i => i * 1000) (fun i acc μi => compP src body (items.drop i) acc μi QQ) k s' i acc μi hi tk ρi := ⟨_, fun _ _ => Iff.rfl⟩
  refine loop2_0 Inv (fun _ => rfl) (hit2.1 _) ?_ (items.length + 1) ((hInv _ _).mpr ⟨0, [], μ₂, h₃, tk, ρ, rfl, rfl, Nat.zero_le _, st0, L0, Nat.le_refl _, fun _ _ _ => rfl, fun b hb => hb ▸ oI, k0⟩)
  clear k0 L0 st0 oI
  intro k s' hI
  obtain ⟨i, acc, μi, hi, tki, ρi, C⟩ := (hInv _ _).mp hI
  obtain ⟨es, -, hle, st, Ls, hlen, hρ, off, kc⟩ := id C
  rw [es]
  refine wpAny_mono (IT.next A i { s with heap := hi, toks := tki } μi hA.handled st Ls.R (compP_src kc)) (fun r s₁ yy => ?_) fun _ _ x => x
  obtain ⟨h₄, tk₄, rfl, keep₄, hr⟩ := yy
  have oIi := off I rfl
  have L₄ := Ls.off (Nat.ne_of_lt hID) (Odd.fields (IT.there _ _ st)) nI oIi keep₄
  cases hv : items[i]? with
  | none =>
    rw [hv] at hr
    subst hr
    rw [drop_end hv] at kc
    exact hend _ _ _ _ _ L₄ (compP_nil kc).2
  | some v =>
    rw [hv] at hr
    obtain ⟨y', rfl, hy, st₄⟩ := hr
    have hlt := (List.getElem?_eq_some_iff.mp hv).1
    rw [drop_at hv] at kc
    have kb := hrun _ _ _ (compP_cons kc).2
    clear kc
    refine wpAny_assign_Name (store_ok (s := { s with heap := h₄, toks := tk₄ }) hFb L₄.e (canBind_local hxl) hy fun h₅ tk₅ (d : Nat) hd' e₅ keep₅ => ?_)
    have hdL : d = L := by
      rcases hd' with q0 | ⟨q1, q2⟩
      · exact q0.trans hl
      · exact absurd q1 (not_cell hxl)
    subst hdL
    have hId := Nat.ne_of_lt (Nat.lt_trans hID hDL)
    have L₅ := L₄.asg (Nat.ne_of_gt hDL) (forget_y hno2 hρ e₅) nL (hl ▸ L₄.e.offL) keep₅
    have st₅ := IT.frame _ _ _ st₄ fun o e => keep₅ I o hId e
    clear L₄ st₄ keep₅ keep₄ Ls e₅ hd'
    refine wpAny_mono (hit2.2 A env' (bnd ρ x v) μi _ { s with heap := h₅, toks := tk₅ } hA hFb ⟨L₅.e, L₅.R, B.mono L₅.F⟩ kb) (fun xv s₂ z => wpAny_mono z (fun it2v s₃ z => ?_) fun _ _ x => x) fun _ _ x => x
    obtain ⟨μ₆, h₆, tk₆, I2, items2, src2, St2, rfl, rfl, R₆, F₆, nI2', oI2, IT2, st2, hz2, k2⟩ := z
    have L₆ := L₅.run R₆ F₆
    have nI2 : New μ s.heap I2 := fun o eo => by
      cases m : mutb μ I2 with
      | true => rfl
      | false =>
        obtain ⟨e1, e2⟩ := L₅.F _ _ eo m
        have := nI2' _ e1
        rw [mutb_congr e2, m] at this; cases this
    have neI2 : ∀ (b : Nat) o, h₅.get? b = some o → μi b = Option.none → b ≠ I2 := fun b o e ob q => by
      subst q
      have := nI2' _ e
      rw [mutb_none ob] at this; cases this
    have hI12 : I ≠ I2 := by obtain ⟨o, _, e, _⟩ := IT.there _ _ st₅; exact neI2 I _ e oIi
    have hD2 : D ≠ I2 := by obtain ⟨_, _, e, _⟩ := L₅.dd; exact neI2 D _ e L₅.oD
    have hL2 : d ≠ I2 := by
      obtain ⟨m, ⟨o, _, _, ho, _⟩, _⟩ := L₅.e.ns
      exact hl ▸ neI2 _ _ ho L₅.e.offL
    have st₆ := IT.frame _ _ _ st₅ fun o e => (F₆ I o e (mutb_none oIi)).1
    have oI₆ : μ₆ I = Option.none := by obtain ⟨o, _, e, _⟩ := IT.there _ _ st₅; exact F₆.off e oIi
    have hb : acc.length + items2.length ≤ (i + 1) * 1000 := by
      have : acc.length ≤ i * 1000 := hlen
      clear C L₅ L₆ hInv hend hrun IT IT2
      omega
    have hzz : (i + 1) * 1000 ≤ sizeLine := by
      clear C L₅ L₆ hInv hend hrun IT IT2
      rw [sizeLine_eq]; omega
    clear L₅ st₅ F₆ R₆ nI2' neI2 hI
    refine start2_1 ?_ fun Q q => IT2.self A 0 _ Q st2 q
    refine comp2_inner (s := s) (μ := μ) IT2 hA hFb hl hyl he hI12 (Nat.ne_of_lt hID) hId hD2 (Nat.ne_of_lt hDL) hL2 nI2 nL B (Kp := St (i + 1)) (fun h h' k e => IT.frame _ _ _ k e) (fun h k => by obtain ⟨o, _, e, _⟩ := IT.there _ _ k; exact ⟨o, e⟩) (Nat.le_trans hb hzz) L₆ st₆ st2 oI₆ oI2 k2 ?_
    intro acc2 μj hj tkj ρj hl2 Lj hρj kpj oIj kj
    obtain ⟨m, h1, h2⟩ := C.next hlt (tk' := tkj) kpj Lj (by rw [List.length_append]; exact Nat.le_trans (Nat.add_le_add_left hl2 _) hb) (fun z h1 h2 => (hρj z h2).trans (if_neg h1)) (fun b hb => hb ▸ oIj) kj
    exact ⟨m, h1, (hInv _ _).mpr h2⟩

theorem comp2_gen {elt : ME} {x y : X} {it it2 : MI} {elt' iter iter2 : PySem.Expr} (p p2 pos : Pos) (hxl : kindIs inner x.nm .local = true) (hyl : kindIs inner y.nm .local = true) (hs : scopeOk sc inner = true) (hx : onlyLocals inner [x.nm, y.nm] = true)
    (hit : SI prog w h₀ n Φ sc it iter) (hit2 : SI prog w h₀ n Φ inner it2 iter2) (he : SE prog w h₀ n Φ inner elt elt') {env : Env} {ρ : Rho} {μ : Mu} {s : Shared} {Q : QV} {use : Option (Value → Sem Unit)} {QQ : Value → Shared → Prop}
    (hend : ∀ D L r s', EndC prog w s μ Q D L r s' → compPost (model prog w) A Nv use QQ (.ref D) L r s') (hA : AOk n A) (hF : EnvFits sc env) (C : Cx prog w h₀ env ρ μ s.heap) (h : wpE Φ (.comp2 elt x it y it2) ρ μ Q) :
    wpAny (model prog w) A (comprehension (.ListComp elt' [⟨.Name x.nm p, iter, [], 0⟩, ⟨.Name y.nm p2, iter2, [], 0⟩] inner pos) inner env iter.pos (newList []) false (eval iter env) use) QQ Nv s := by
  obtain ⟨hno1, hno2, hxy, h⟩ := h
  refine comp_block (Q := Q) (xs := [x, y]) (K := fun _ => True) hF C.env hs hx (fun z hz => ?_) (hit.1 env) hend
    (wpAny_mono (hit.2 A env ρ μ _ s hA hF C h) (fun v s₁ yy => wpAny_mono yy (fun itv s₂ z => ?_) fun _ _ x => x) fun _ _ x => x)
  · rcases List.mem_cons.mp hz with rfl | hz
    · exact hno1
    · rw [List.mem_singleton.mp hz]; exact hno2
  obtain ⟨μ₂, h₂, tk, I, items, src, St, rfl, rfl, R₂, F₂, nI, oI, IT, st0, hz, k0⟩ := z
  refine ⟨μ₂, h₂, tk, I, rfl, rfl, R₂, F₂, fun D L h₃ eD eL hD e3 R₃ old => ⟨fun Q q => IT.self A 0 _ Q (IT.frame _ _ _ st0 fun o e => old _ _ e) q, ?_⟩⟩
  have hIlt : I < D := by obtain ⟨o, _, e, _⟩ := IT.there _ _ st0; rw [eD]; exact szLt e
  have nBig : ∀ d : Nat, D ≤ d → New μ s.heap d := fun d hd => F₂.new (fresh_none _ _ (by first | assumption | exact Nat.le_of_lt (by assumption) | exact Nat.lt_of_lt_of_le (by assumption) (by assumption) | exact Nat.lt_of_le_of_lt (by assumption) (by assumption) | exact Nat.le_trans (by assumption) (by decide) | exact Nat.lt_of_le_of_lt (by assumption) (by decide) | exact Nat.lt_of_lt_of_le (by assumption) (Nat.le_trans (by assumption) (by decide)) | exact Nat.ne_of_gt (by assumption) | exact Nat.ne_of_lt (by assumption) | omega))
  have nD : New μ s.heap D := nBig D (Nat.le_refl _)
  have oBig : ∀ d : Nat, D ≤ d → μ₂ d = Option.none := fun d hd => by
    cases e : μ₂ d with
    | none => rfl
    | some o => obtain ⟨ob, e'⟩ := (R₂ _ _ e).there; exact absurd (szLt e') (by first | assumption | exact Nat.le_of_lt (by assumption) | exact Nat.lt_of_lt_of_le (by assumption) (by assumption) | exact Nat.lt_of_le_of_lt (by assumption) (by assumption) | exact Nat.le_trans (by assumption) (by decide) | exact Nat.lt_of_le_of_lt (by assumption) (by decide) | exact Nat.lt_of_lt_of_le (by assumption) (Nat.le_trans (by assumption) (by decide)) | exact Nat.ne_of_gt (by assumption) | exact Nat.ne_of_lt (by assumption) | omega)
  have DL : D < L := by first | assumption | exact Nat.le_of_lt (by assumption) | exact Nat.lt_of_lt_of_le (by assumption) (by assumption) | exact Nat.lt_of_le_of_lt (by assumption) (by assumption) | exact Nat.le_trans (by assumption) (by decide) | exact Nat.lt_of_le_of_lt (by assumption) (by decide) | exact Nat.lt_of_lt_of_le (by assumption) (Nat.le_trans (by assumption) (by decide)) | exact Nat.ne_of_gt (by assumption) | exact Nat.ne_of_lt (by assumption) | omega
  have nL := nBig L (Nat.le_of_lt DL)
  have oD := oBig D (Nat.le_refl _)
  clear nBig oBig h
  exact comp2_outer IT hA (block_fits hF hs L) rfl hxl hyl hit2 he hIlt DL nI nL C.bs hno2 hz ⟨⟨#[], 0, hD, LR.nil⟩, e3, R₃, F₂.trans (Fm.ext old), oD, nD⟩ (IT.frame _ _ _ st0 fun o e => old _ _ e) oI k0
theorem se_comp2 {elt : ME} {x y : X} {it it2 : MI} {elt' iter iter2 : PySem.Expr} (p p2 pos : Pos) (hxl : kindIs inner x.nm .local = true) (hyl : kindIs inner y.nm .local = true) (hs : scopeOk sc inner = true) (hx : onlyLocals inner [x.nm, y.nm] = true)
    (hit : SI prog w h₀ n Φ sc it iter) (hit2 : SI prog w h₀ n Φ inner it2 iter2) (he : SE prog w h₀ n Φ inner elt elt') :
    SE prog w h₀ n Φ sc (.comp2 elt x it y it2) (.ListComp elt' [⟨.Name x.nm p, iter, [], 0⟩, ⟨.Name y.nm p2, iter2, [], 0⟩] inner pos) := fun A env ρ μ Q s hA hF C h => by
  show wpAny _ A (comprehension (.ListComp elt' [⟨.Name x.nm p, iter, [], 0⟩, ⟨.Name y.nm p2, iter2, [], 0⟩] inner pos) inner env iter.pos (newList []) false (eval iter env) Option.none) _ _ s
  exact comp2_gen p p2 pos hxl hyl hs hx hit hit2 he (fun D L r s' z => endC_none z) hA hF C h
end
end Mine

end PartML10

section PartML11
open PySem PySem.W PyProof.Rows
set_option linter.unusedVariables false
set_option linter.unusedSimpArgs false
set_option maxRecDepth 100000
namespace Mine

section
variable {prog : Program} {w : World} {h₀ : Heap} {n : Nat} {Φ : Phi} {sc inner : Scope} {A : Around} {mg mb : Str → Option Value} {fa : Fn → Addr}

theorem st_cmp {op : Cm} {op' : CmpOp} {l r : ME} {l' r' : PySem.Expr} (p : Pos) (ho : cmEq op op' = true) (hm : behindInMarks op' r' = false) (hl : SE prog w h₀ n Φ sc l l') (hr : SE prog w h₀ n Φ sc r r') : ST prog w h₀ n Φ sc (.cmp op l r) (.Compare l' [op'] [r'] p) := fun A env ρ μ Q s hA hF C h => by
  refine wpAny_isTrue_Compare1 ?_ hm
  refine wpAny_mono (cmp_ok ho hl hr hA hF C h) (fun a s₁ z => wpAny_mono z (fun b s₂ z => wpAny_mono z (fun c s₃ z => ?_) fun _ _ x => x) fun _ _ x => x) fun _ _ x => x
  obtain ⟨t, rfl, z⟩ := z
  exact wpAny_truthy_bool z
theorem PstT.trans {s : Shared} {μ μ' : Mu} {Q : Bool → Mu → Prop} {b : Bool} {s'' : Shared} {h' : Heap} {tk : Nat} (F : Fm μ s.heap μ' h') (x : PstT prog w { s with heap := h', toks := tk } μ' Q b s'') : PstT prog w s μ Q b s'' := PstU.trans F x
theorem st_and {l r : MT} {l' r' : PySem.Expr} (p : Pos) (hl : ST prog w h₀ n Φ sc l l') (hr : ST prog w h₀ n Φ sc r r') : ST prog w h₀ n Φ sc (.and l r) (.BoolOp .And [l', r'] p) := fun A env ρ μ Q s hA hF C h => by
  show wpAny _ A (isTrue l' env (eval l' env) >>= fun t => match BoolOp.And, t with | .And, false => pure false | .Or, true => pure true | _, _ => allTrue .And [r'] env) _ _ s
  refine wpAny_bind (wpAny_mono (hl A env ρ μ _ s hA hF C h) (fun t s' x => ?_) fun _ _ x => x)
  refine PstU.elim x fun μ' h' tk R F q => ?_
  cases t with
  | false => exact wpAny_pure ⟨μ', h', tk, rfl, R, F, q⟩
  | true =>
    show wpAny _ A (isTrue r' env (eval r' env) >>= fun t => match BoolOp.And, t with | .And, false => pure false | .Or, true => pure true | _, _ => allTrue .And [] env) _ _ _
    refine wpAny_bind (wpAny_mono (hr A env ρ μ' _ _ hA hF (C.mono F R) q) (fun t s' x => ?_) fun _ _ x => x)
    cases t with
    | false => exact wpAny_pure (PstT.trans F x)
    | true => exact wpAny_pure (PstT.trans F x)
theorem st_or {l r : MT} {l' r' : PySem.Expr} (p : Pos) (hl : ST prog w h₀ n Φ sc l l') (hr : ST prog w h₀ n Φ sc r r') : ST prog w h₀ n Φ sc (.or l r) (.BoolOp .Or [l', r'] p) := fun A env ρ μ Q s hA hF C h => by
  show wpAny _ A (isTrue l' env (eval l' env) >>= fun t => match BoolOp.Or, t with | .And, false => pure false | .Or, true => pure true | _, _ => allTrue .Or [r'] env) _ _ s
  refine wpAny_bind (wpAny_mono (hl A env ρ μ _ s hA hF C h) (fun t s' x => ?_) fun _ _ x => x)
  refine PstU.elim x fun μ' h' tk R F q => ?_
  cases t with
  | true => exact wpAny_pure ⟨μ', h', tk, rfl, R, F, q⟩
  | false =>
    show wpAny _ A (isTrue r' env (eval r' env) >>= fun t => match BoolOp.Or, t with | .And, false => pure false | .Or, true => pure true | _, _ => allTrue .Or [] env) _ _ _
    refine wpAny_bind (wpAny_mono (hr A env ρ μ' _ _ hA hF (C.mono F R) q) (fun t s' x => ?_) fun _ _ x => x)
    cases t with
    | false => exact wpAny_pure (PstT.trans F x)
    | true => exact wpAny_pure (PstT.trans F x)
theorem st_not {t : MT} {t' : PySem.Expr} (p : Pos) (ht : ST prog w h₀ n Φ sc t t') : ST prog w h₀ n Φ sc (.not t) (.UnaryOp .Not t' p) := fun A env ρ μ Q s hA hF C h => by
  show wpAny _ A (do return !(← isTrue t' env (eval t' env))) _ _ s
  exact wpAny_bind (wpAny_mono (ht A env ρ μ _ s hA hF C h) (fun t s' x => wpAny_pure x) fun _ _ x => x)
theorem st_truth {e : ME} {f : PySem.Expr} {as : List PySem.Expr} {ks : List Keyword} {pos : Pos} (he : SE prog w h₀ n Φ sc e (.Call f as ks pos)) : ST prog w h₀ n Φ sc (.truth e) (.Call f as ks pos) := fun A env ρ μ Q s hA hF C h => by
  show wpAny _ A (do let v ← eval (.Call f as ks pos) env; standAt (PySem.Expr.Call f as ks pos).pos; holding [v] (truthy v)) _ _ s
  refine wpAny_bind (wpAny_mono (he A env ρ μ _ s hA hF C h) (fun v s' x => ?_) fun _ _ x => x)
  refine Pst.elim x fun v' μ' h' tk hv R F q => ?_
  refine wpAny_bind (wpAny_standAt (wpAny_holding ?_))
  obtain ⟨b, rfl, q⟩ := truthP_elim q
  rw [er_bool hv]; exact wpAny_truthy_bool ⟨μ', h', tk, rfl, R, F, q⟩

theorem sc_no : SC prog w h₀ n Φ sc .no [] := fun A env ρ μ Q s hA hF C h => wpAny_tests_nil ⟨μ, s.heap, s.toks, rfl, C.hr, Fm.refl _ _, h⟩
theorem sc_yes {t : MT} {t' : PySem.Expr} (ht : ST prog w h₀ n Φ sc t t') : SC prog w h₀ n Φ sc (.yes t) [t'] := fun A env ρ μ Q s hA hF C h => wpAny_tests_one (ht A env ρ μ Q s hA hF C h)

theorem star1 {sc : Scope} {e : ME} {x : PySem.Expr} (h : ckE sc e x = true) : ∀ env, starEach [x] env = [(false, eval x env)] := fun env => ck_star h [] env

theorem ck_foldset {sc : Scope} {e : ME} {x : PySem.Expr} (h : ckE sc e x = true) : ∀ (env : Env) (v : Value), foldedSetIterable x env v = pure v := fun env v => ck_set h env v

theorem toSE {e : ME} {sc : Scope} {x y : EX} (h : x = y) (s : SE prog w h₀ n Φ sc e y) : SE prog w h₀ n Φ sc e x := h ▸ s
theorem toST {e : MT} {sc : Scope} {x y : EX} (h : x = y) (s : ST prog w h₀ n Φ sc e y) : ST prog w h₀ n Φ sc e x := h ▸ s
theorem toSI {e : MI} {sc : Scope} {x y : EX} (h : x = y) (s : SI prog w h₀ n Φ sc e y) : SI prog w h₀ n Φ sc e x := h ▸ s
theorem toSC {e : MC} {sc : Scope} {x y : List EX} (h : x = y) (s : SC prog w h₀ n Φ sc e y) : SC prog w h₀ n Φ sc e x := h ▸ s
theorem se_callN {f : Fn} {es : MEs} {es' : List EX} (p p' : Pos) (G : Gl h₀ mg mb fa) (P : PhiOk prog w h₀ fa n Φ) {sc : Scope} (hk : kindIs sc f.nm .globalImplicit = true) (hs : ckEs sc es es' = true) (he : (!es'.isEmpty) = true) (S : SEs prog w h₀ n Φ sc es es') :
    SE prog w h₀ n Φ sc (.call f es) (.Call (.Name f.nm p') es' [] p) := by
  cases es' with
  | nil => cases he
  | cons e' es' =>
    cases es with
    | nil => cases hs
    | cons e es => exact se_call _ _ G P hk (ck_star (b1 hs) _) S

mutual
theorem sndE (G : Gl h₀ mg mb fa) (P : PhiOk prog w h₀ fa n Φ) : ∀ (e : ME) (sc : Scope) (x : PySem.Expr), ckE sc e x = true → SE prog w h₀ n Φ sc e x
  | .int i, sc, x, h => anyC (o := dInt x i) h fun q _ => toSE q.2 (se_int _ _ _)
  | .none, sc, x, h => anyC (o := dNone x) h fun q _ => toSE q.2 (se_none _ _)
  | .bool b, sc, x, h => anyC (o := dBoo x b) h fun q _ => toSE q.2 (se_bool _ _ _)
  | .var y, sc, x, h => anyC (o := dName x y.nm) h fun q h => toSE q.2 (se_var _ _ h)
  | .bin op l r, sc, x, h => anyC (o := dBin x) h fun q h => toSE q.2 (se_bin _ (b1 h) (sndE G P l sc _ (b1 (b2 h))) (sndE G P r sc _ (b2 (b2 h))))
  | .neg e, sc, x, h => anyC (o := dNeg x) h fun q h => toSE q.2 (se_neg _ (sndE G P e sc _ h))
  | .ite c b o, sc, x, h => anyC (o := dIf x) h fun q h => toSE q.2 (se_ite _ (sndT G P c sc _ (b1 h)) (sndE G P b sc _ (b1 (b2 h))) (sndE G P o sc _ (b2 (b2 h))))
  | .andc e op l r, sc, x, h => anyC (o := dAndc x) h fun q h => toSE q.2 (se_andc _ _ (b1 h) (ck_behind (b2 (b2 (b2 h))) _) (sndE G P e sc _ (b1 (b2 h))) (sndE G P l sc _ (b1 (b2 (b2 h)))) (sndE G P r sc _ (b2 (b2 (b2 h)))))
  | .sub e i, sc, x, h => anyC (o := dSub x) h fun q h => toSE q.2 (se_sub _ (ck_slice (b2 h)) (sndE G P e sc _ (b1 h)) (sndE G P i sc _ (b2 h)))
  | .slice e m, sc, x, h => anyC (o := dSubSl x m) h fun q h => toSE q.2 (se_slice _ _ _ _ _ (sndE G P e sc _ h))
  | .list es, sc, x, h => anyC (o := dList x) h fun q h => toSE q.2 (se_list _ (sndEs G P es sc _ h))
  | .tuple es, sc, x, h => anyC (o := dTuple x) h fun q h => toSE q.2 (se_tuple _ _ (sndEs G P es sc _ h))
  | .dict, sc, x, h => anyC (o := dDict x) h fun q h => toSE q.2 (se_dict G _)
  | .call f es, sc, x, h => anyC (o := dCallN x f.nm) h fun q h => toSE q.2 (se_callN _ _ G P (b1 h) (b1 (b2 h)) (b2 (b2 h)) (sndEs G P es sc _ (b1 (b2 h))))
  | .len e, sc, x, h => anyC (o := dCall1 x "len") h fun q h => toSE q.2 (se_len _ _ G (b1 h) (star1 (b2 h)) (sndE G P e sc _ (b2 h)))
  | .abs e, sc, x, h => anyC (o := dCall1 x "abs") h fun q h => toSE q.2 (se_abs _ _ G (b1 h) (star1 (b2 h)) (sndE G P e sc _ (b2 h)))
  | .min l r, sc, x, h => anyC (o := dCall2 x "min") h fun q h => toSE q.2 (se_min _ _ G (b1 h) (ck_star (b1 (b2 h)) _) (star1 (b2 (b2 h))) (sndE G P l sc _ (b1 (b2 h))) (sndE G P r sc _ (b2 (b2 h))))
  | .toInt e, sc, x, h => anyC (o := dCall1 x "int") h fun q h => toSE q.2 (se_toInt _ _ G (b1 h) (star1 (b2 h)) (sndE G P e sc _ (b2 h)))
  | .sum e, sc, x, h => anyC (o := dCall1 x "sum") h fun q h => toSE q.2 (se_sum _ _ G (b1 h) (star1 (b2 h)) (sndE G P e sc _ (b2 h)))
  | .toList e, sc, x, h => anyC (o := dCall1 x "list") h fun q h => toSE q.2 (se_toList _ _ G (b1 h) (star1 (b2 h)) (sndE G P e sc _ (b2 h)))
  | .toTuple e, sc, x, h => anyC (o := dCall1 x "tuple") h fun q h => toSE q.2 (se_toTuple _ _ G (b1 h) (star1 (b2 h)) (sndE G P e sc _ (b2 h)))
  | .pop0 e, sc, x, h => anyC (o := dPop x) h fun q h => toSE q.2 (se_pop0 _ _ _ _ (b1 h) (sndE G P e sc _ (b2 h)))
  | .get d k i, sc, x, h => anyC (o := dGet x) h fun q h => toSE q.2 (se_get _ _ (b1 h) (ck_star (b1 (b2 (b2 h))) _) (star1 (b2 (b2 (b2 h)))) (sndE G P d sc _ (b1 (b2 h))) (sndE G P k sc _ (b1 (b2 (b2 h)))) (sndE G P i sc _ (b2 (b2 (b2 h)))))
  | .comp elt y it c, sc, x, h => anyC (o := dComp x y.nm) h fun q h => toSE q.2 (se_comp _ _ (b1 h) (b1 (b2 h)) (b1 (b2 (b2 h))) (sndI G P it sc _ (b1 (b2 (b2 (b2 h))))) (sndC G P c _ _ (b1 (b2 (b2 (b2 (b2 h)))))) (sndE G P elt _ _ (b2 (b2 (b2 (b2 (b2 h)))))))
  | .compE elt i y e c, sc, x, h => anyC (o := dCompE x i.nm y.nm) h fun q h => toSE q.2 (se_compE _ _ _ _ _ _ _ G (b1 (b1 h)) (star1 (b1 (b2 (b2 h)))) (b1 (b2 (b2 (b1 h)))) (b2 (b2 (b2 (b1 h)))) (bne_iff_ne.mp (b1 (b2 (b1 h)))) (b1 (b1 (b2 h))) (b2 (b1 (b2 h)))
      (sndE G P e sc _ (b1 (b2 (b2 h)))) (sndC G P c _ _ (b1 (b2 (b2 (b2 h))))) (sndE G P elt _ _ (b2 (b2 (b2 (b2 h))))))
  | .comp2 elt y it z it2, sc, x, h => anyC (o := dComp2 x y.nm z.nm) h fun q h => toSE q.2 (se_comp2 _ _ _ (b1 (b1 h)) (b2 (b1 h)) (b1 (b1 (b2 h))) (b2 (b1 (b2 h))) (sndI G P it sc _ (b1 (b2 (b2 h)))) (sndI G P it2 _ _ (b1 (b2 (b2 (b2 h))))) (sndE G P elt _ _ (b2 (b2 (b2 (b2 h))))))
theorem sndT (G : Gl h₀ mg mb fa) (P : PhiOk prog w h₀ fa n Φ) : ∀ (e : MT) (sc : Scope) (x : PySem.Expr), ckT sc e x = true → ST prog w h₀ n Φ sc e x
  | .cmp op l r, sc, x, h => anyC (o := dCmp x) h fun q h => toST q.2 (st_cmp _ (b1 h) (ck_behind (b2 (b2 h)) _) (sndE G P l sc _ (b1 (b2 h))) (sndE G P r sc _ (b2 (b2 h))))
  | .and l r, sc, x, h => anyC (o := dAnd x) h fun q h => toST q.2 (st_and _ (sndT G P l sc _ (b1 h)) (sndT G P r sc _ (b2 h)))
  | .or l r, sc, x, h => anyC (o := dOr x) h fun q h => toST q.2 (st_or _ (sndT G P l sc _ (b1 h)) (sndT G P r sc _ (b2 h)))
  | .not t, sc, x, h => anyC (o := dNot x) h fun q h => toST q.2 (st_not _ (sndT G P t sc _ h))
  | .truth e, sc, x, h => anyC (o := dCall x) h fun q h => toST q.2 (st_truth (q.2 ▸ sndE G P e sc x h))
theorem sndI (G : Gl h₀ mg mb fa) (P : PhiOk prog w h₀ fa n Φ) : ∀ (e : MI) (sc : Scope) (x : PySem.Expr), ckI sc e x = true → SI prog w h₀ n Φ sc e x
  | .range1 e, sc, x, h => anyC (o := dCall1 x "range") h fun q h => toSI q.2 (si_range1 _ _ G (b1 h) (star1 (b2 h)) (sndE G P e sc _ (b2 h)))
  | .range2 l r, sc, x, h => anyC (o := dCall2 x "range") h fun q h => toSI q.2 (si_range2 _ _ G (b1 h) (ck_star (b1 (b2 h)) _) (star1 (b2 (b2 h))) (sndE G P l sc _ (b1 (b2 h))) (sndE G P r sc _ (b2 (b2 h))))
  | .val e, sc, x, h => si_val (ck_foldset h) (sndE G P e sc x h)
theorem sndEs (G : Gl h₀ mg mb fa) (P : PhiOk prog w h₀ fa n Φ) : ∀ (es : MEs) (sc : Scope) (xs : List PySem.Expr), ckEs sc es xs = true → SEs prog w h₀ n Φ sc es xs
  | .nil, sc, xs, h => by
    cases xs with
    | nil => exact ses_nil
    | cons _ _ => cases h
  | .cons e es, sc, xs, h => by
    cases xs with
    | nil => cases h
    | cons x xs => exact ses_cons (ck_star (b1 h) _) (sndE G P e sc x (b1 h)) (sndEs G P es sc xs (b2 h))
theorem sndC (G : Gl h₀ mg mb fa) (P : PhiOk prog w h₀ fa n Φ) : ∀ (c : MC) (sc : Scope) (xs : List PySem.Expr), ckC sc c xs = true → SC prog w h₀ n Φ sc c xs
  | .no, sc, xs, h => by
    cases xs with
    | nil => exact sc_no
    | cons _ _ => cases h
  | .yes t, sc, xs, h => anyC (o := d1 xs) h fun q h => toSC q.2 (sc_yes (sndT G P t sc _ h))
end
end
end Mine

end PartML11

section PartML12
open PySem PySem.W PyProof.Rows
set_option linter.unusedVariables false
set_option linter.unusedSimpArgs false
set_option maxRecDepth 100000
namespace Mine

noncomputable def Own (env : Env) (b : Nat) : Prop := b = env.locals ∨ ∃ n, env.cells.lookup n = some b
noncomputable def FmE (env : Env) (μ : Mu) (h : Heap) (μ' : Mu) (h' : Heap) : Prop := ∀ (b : Nat) o, ¬ Own env b → h.get? b = some o → mutb μ b = false → h'.get? b = some o ∧ μ' b = μ b
theorem FmE.refl (env : Env) (μ : Mu) (h : Heap) : FmE env μ h μ h := fun _ _ _ e _ => ⟨e, rfl⟩
theorem Fm.e {env : Env} {μ μ' : Mu} {h h' : Heap} (F : Fm μ h μ' h') : FmE env μ h μ' h' := fun b o _ e m => F b o e m
theorem FmE.trans {env : Env} {μ μ' μ'' : Mu} {h h' h'' : Heap} (x : FmE env μ h μ' h') (y : FmE env μ' h' μ'' h'') : FmE env μ h μ'' h'' := fun b o q e m =>
  let ⟨e1, m1⟩ := x b o q e m
  let ⟨e2, m2⟩ := y b o q e1 ((mutb_congr m1).trans m)
  ⟨e2, m2.trans m1⟩
theorem EnvR.atOwn {env : Env} {ρ : Rho} {μ μ' : Mu} {h h' : Heap} (R : EnvR env ρ μ h) (k : ∀ b o, Own env b → h.get? b = some o → h'.get? b = some o) (km : ∀ b, Own env b → μ' b = Option.none) : EnvR env ρ μ' h' := by
  have kc : ∀ n c v, env.cells.lookup n = some c → h.IsCell c v → h'.IsCell c v := fun n c v e ⟨ob, ho, hd⟩ => ⟨ob, k _ _ (.inr ⟨n, e⟩) ho, hd⟩
  refine ⟨?_, fun nn c e => ?_, fun z u c hz hk e => ?_, km _ (.inl rfl), fun nn c e => km _ (.inr ⟨nn, e⟩), R.apart⟩
  · obtain ⟨m, hn, hm⟩ := R.ns
    exact ⟨m, hn.at' fun o e => k _ _ (.inl rfl) e, hm⟩
  · obtain ⟨v, hc⟩ := R.cell nn c e; exact ⟨v, kc _ _ _ e hc⟩
  · obtain ⟨w', h1, h2⟩ := R.val z u c hz hk e; exact ⟨w', kc _ _ _ e h1, h2⟩
theorem EnvR.own {env : Env} {ρ : Rho} {μ : Mu} {h : Heap} (R : EnvR env ρ μ h) {b : Nat} (o : Own env b) : μ b = Option.none ∧ ∃ ob, h.get? b = some ob := by
  rcases o with rfl | ⟨n, e⟩
  · obtain ⟨m, ⟨o, _, _, ho, _⟩, _⟩ := R.ns; exact ⟨R.offL, o, ho⟩
  · obtain ⟨v, o, ho, _⟩ := R.cell n _ e; exact ⟨R.offC n _ e, o, ho⟩

structure Cs (prog : Program) (w : World) (h₀ : Heap) (env : Env) (ρ : Rho) (μ : Mu) (h : Heap) : Prop where
  cx : Cx prog w h₀ env ρ μ h
  off : ∀ (b : Nat) o, h₀.get? b = some o → ¬ Own env b
theorem Cs.mono {prog : Program} {w : World} {h₀ h h' : Heap} {env : Env} {ρ : Rho} {μ μ' : Mu} (C : Cs prog w h₀ env ρ μ h) (F : Fm μ h μ' h') (R : HR prog w μ' h') : Cs prog w h₀ env ρ μ' h' := ⟨C.cx.mono F R, C.off⟩
theorem Cs.monoE {prog : Program} {w : World} {h₀ h h' : Heap} {env : Env} {ρ ρ' : Rho} {μ μ' : Mu} (C : Cs prog w h₀ env ρ μ h) (F : FmE env μ h μ' h') (E : EnvR env ρ' μ' h') (R : HR prog w μ' h') : Cs prog w h₀ env ρ' μ' h' :=
  ⟨⟨E, R, fun b o e => let ⟨e1, m1⟩ := C.cx.bs b o e; let ⟨e2, m2⟩ := F b o (C.off b o e) e1 m1; ⟨e2, (mutb_congr m2).trans m1⟩⟩, C.off⟩

noncomputable def FRel : Flow → MF → Prop
  | .next, .next => True
  | .cont, .cont => True
  | .ret v, .ret v' => er v = some v'
  | _, _ => False

theorem frel {fl : Flow} {f : MF} (h : FRel fl f) : (fl = .next ∧ f = .next) ∨ (fl = .cont ∧ f = .cont) ∨ ∃ y u, fl = .ret y ∧ f = .ret u ∧ er y = some u := by
  cases f with
  | next => cases fl with
    | next => exact .inl ⟨rfl, rfl⟩
    | _ => exact False.elim h
  | cont => cases fl with
    | cont => exact .inr (.inl ⟨rfl, rfl⟩)
    | _ => exact False.elim h
  | ret u => cases fl with
    | ret y => exact .inr (.inr ⟨y, u, rfl, rfl, h⟩)
    | _ => exact False.elim h
section
variable (prog : Program) (w : World) (h₀ : Heap) (n : Nat) (Φ : Phi)
noncomputable def PstS (env : Env) (s : Shared) (μ : Mu) (Q : QS) (fl : Flow) (s' : Shared) : Prop :=
  ∃ f ρ' μ' h' tk, s' = { s with heap := h', toks := tk } ∧ FRel fl f ∧ HR prog w μ' h' ∧ FmE env μ s.heap μ' h' ∧ EnvR env ρ' μ' h' ∧ Q f ρ' μ'
noncomputable def SS (sc : Scope) (st : MS) (x : Stmt) : Prop := ∀ A env ρ μ Q s, AOk n A → EnvFits sc env → Cs prog w h₀ env ρ μ s.heap → wpS Φ st ρ μ Q →
  wpAny (model prog w) A (exec x env) (PstS prog w env s μ Q) Nv s
noncomputable def SSs (sc : Scope) (st : MSs) (xs : List Stmt) : Prop := ∀ A env ρ μ Q s, AOk n A → EnvFits sc env → Cs prog w h₀ env ρ μ s.heap → wpSs Φ st ρ μ Q →
  wpAny (model prog w) A (execs xs env) (PstS prog w env s μ Q) Nv s
end

section
variable {prog : Program} {w : World} {h₀ : Heap} {n : Nat} {Φ : Phi} {sc inner : Scope}
theorem PstS.elim {env : Env} {s : Shared} {μ : Mu} {Q : QS} {fl : Flow} {s' : Shared} {C : Shared → Prop} (h : PstS prog w env s μ Q fl s') (k : ∀ f ρ' μ' h' tk, FRel fl f → HR prog w μ' h' → FmE env μ s.heap μ' h' → EnvR env ρ' μ' h' → Q f ρ' μ' → C { s with heap := h', toks := tk }) : C s' := by
  obtain ⟨f, ρ', μ', h', tk, rfl, a, b, c, d, e⟩ := h; exact k f ρ' μ' h' tk a b c d e
theorem PstS.elim3 {env : Env} {s : Shared} {μ : Mu} {Q : QS} {fl : Flow} {s' : Shared} {C : Flow → Shared → Prop} (h : PstS prog w env s μ Q fl s') (kn : ∀ f ρ' μ' h' tk, (f = .next ∨ f = .cont) → HR prog w μ' h' → FmE env μ s.heap μ' h' → EnvR env ρ' μ' h' → Q f ρ' μ' → (f = .next → C .next { s with heap := h', toks := tk }) ∧ (f = .cont → C .cont { s with heap := h', toks := tk }))
    (kr : ∀ y u ρ' μ' h' tk, er y = some u → HR prog w μ' h' → FmE env μ s.heap μ' h' → EnvR env ρ' μ' h' → Q (.ret u) ρ' μ' → C (.ret y) { s with heap := h', toks := tk }) : C fl s' := by
  obtain ⟨f, ρ', μ', h', tk, rfl, a, b, c, d, e⟩ := h
  rcases frel a with ⟨rfl, rfl⟩ | ⟨rfl, rfl⟩ | ⟨y, u, rfl, rfl, r⟩
  · exact (kn _ ρ' μ' h' tk (.inl rfl) b c d e).1 rfl
  · exact (kn _ ρ' μ' h' tk (.inr rfl) b c d e).2 rfl
  · exact kr y u ρ' μ' h' tk r b c d e
theorem wp_elim {A : Around} {t : Sem Flow} {env : Env} {s s₀ : Shared} {μ : Mu} {QF : QS} {Q : Flow → Shared → Prop} {E : Value → Shared → Prop} (h : wpAny (model prog w) A t (PstS prog w env s μ QF) Nv s₀) (kn : ∀ f ρ' μ' h' tk, (f = .next ∨ f = .cont) → HR prog w μ' h' → FmE env μ s.heap μ' h' → EnvR env ρ' μ' h' → QF f ρ' μ' → (f = .next → Q .next { s with heap := h', toks := tk }) ∧ (f = .cont → Q .cont { s with heap := h', toks := tk }))
    (kr : ∀ y u ρ' μ' h' tk, er y = some u → HR prog w μ' h' → FmE env μ s.heap μ' h' → EnvR env ρ' μ' h' → QF (.ret u) ρ' μ' → Q (.ret y) { s with heap := h', toks := tk }) : wpAny (model prog w) A t Q E s₀ :=
  anyE (wpAny_mono h (fun fl s₃ z => PstS.elim3 (C := Q) z kn kr) fun _ _ x => x)
theorem PstS.trans {env : Env} {s : Shared} {μ μ' : Mu} {Q : QS} {fl : Flow} {s'' : Shared} {h' : Heap} {tk : Nat} (F : FmE env μ s.heap μ' h') (x : PstS prog w env { s with heap := h', toks := tk } μ' Q fl s'') : PstS prog w env s μ Q fl s'' :=
  PstS.elim (C := fun s'' => PstS prog w env s μ Q fl s'') x fun f ρ' μ'' h'' tk' r R F' E q => ⟨f, ρ', μ'', h'', tk', rfl, r, R, F.trans F', E, q⟩

theorem store_s {A : Around} {env : Env} {ρ : Rho} {μ : Mu} {s : Shared} {x : X} {v : V} {y : Value} {Q : Unit → Shared → Prop} (hF : EnvFits sc env) (C : Cs prog w h₀ env ρ μ s.heap) (hb : canBind sc x = true) (hy : er y = some v)
    (hQ : ∀ h' tk, Cs prog w h₀ env (bnd ρ x v) μ h' → FmE env μ s.heap μ h' → Q () { s with heap := h', toks := tk }) : wpAny (model prog w) A (storeName env x.nm y) Q Nv s := by
  refine store_ok hF C.cx.env hb hy fun h' tk d hd E k => ?_
  have od : Own env d := by
    rcases hd with rfl | ⟨_, e⟩
    · exact .inl rfl
    · exact .inr ⟨_, e⟩
  have F : FmE env μ s.heap μ h' := fun b o q e m => ⟨k b o (fun r => q (r ▸ od)) e, rfl⟩
  exact hQ h' tk (C.monoE F E (C.cx.hr.but (C.cx.env.own od).1 k)) F

theorem ss_nil : SSs prog w h₀ n Φ sc .nil [] := fun A env ρ μ Q s hA hF C h => wpAny_execs_nil ⟨.next, ρ, μ, s.heap, s.toks, rfl, trivial, C.cx.hr, FmE.refl _ _ _, C.cx.env, h⟩
theorem ss_cons {st : MS} {r : MSs} {x : Stmt} {xs : List Stmt} (hs : SS prog w h₀ n Φ sc st x) (hr : SSs prog w h₀ n Φ sc r xs) : SSs prog w h₀ n Φ sc (.cons st r) (x :: xs) := fun A env ρ μ Q s hA hF C h => by
  refine wpAny_execs_cons (wp_elim (hs A env ρ μ _ s hA hF C h) (fun f ρ' μ' h' tk hf R F E q => ⟨fun e => ?_, fun e => ?_⟩) (fun y v ρ' μ' h' tk r R F E q => ⟨.ret v, ρ', μ', h', tk, rfl, r, R, F, E, q⟩))
  · subst e; exact wpAny_mono (hr A env ρ' μ' Q _ hA hF (C.monoE F E R) q) (fun _ _ z => PstS.trans F z) fun _ _ x => x
  · subst e; exact ⟨.cont, ρ', μ', h', tk, rfl, trivial, R, F, E, q⟩

noncomputable def notComp : PySem.Expr → Bool
  | .ListComp .. => false
  | .SetComp .. => false
  | .DictComp .. => false
  | _ => true
theorem swaps_no {value : PySem.Expr} {t : Option PySem.Expr} {l : Nat} {env : Env} (h : notComp value = true) : swapsWith value t l env = pure false := by
  cases value <;> first | rfl | (cases h; done)
theorem swaps_cell {value : PySem.Expr} {x : X} {p : Pos} {l : Nat} {env : Env} (h : env.kindOf x.nm = some .cell) : swapsWith value (some (.Name x.nm p)) l env = pure false := by
  by_cases hc : notComp value = true
  · exact swaps_no hc
  · have e : (env.kindOf x.nm == some NameKind.local) = false := by rw [h]; rfl
    cases value <;> first | (exact absurd rfl hc) | (show (pure _ : Sem Bool) = _; simp [e])
theorem swaps_sub {value o i : PySem.Expr} {p : Pos} {l : Nat} {env : Env} : swapsWith value (some (.Subscript o i p)) l env = pure false := by cases value <;> rfl

theorem ss_assign {x : X} {e : ME} {v : PySem.Expr} (p pos : Pos) (hb : canBind sc x = true) (hsw : notComp v = true ∨ kindIs sc x.nm .cell = true) (he : SE prog w h₀ n Φ sc e v) : SS prog w h₀ n Φ sc (.assign x e) (.Assign [.Name x.nm p] v pos) := fun A env ρ μ Q s hA hF C h => by
  have hs : swapsWith v (some (.Name x.nm p)) pos.line env = pure false := by
    rcases hsw with h | h
    · exact swaps_no h
    · exact swaps_cell (hF.cel _ (by simpa [kindIs] using h)).1
  refine wpAny_Assign_Name (wpAny_mono (he A env ρ μ _ s hA hF C.cx h) (fun y s' z => ?_) fun _ _ x => x) hs
  refine Pst.elim z fun v' μ' h' tk hy R F q => ?_
  refine store_s (s := { s with heap := h', toks := tk }) hF (C.mono F R) hb hy fun h'' tk' C' F' => ?_
  exact ⟨.next, _, μ', h'', tk', rfl, trivial, C'.cx.hr, F.e.trans F', C'.cx.env, q⟩

theorem ss_expr {e : ME} {f : PySem.Expr} {as ks} {p : Pos} (pos : Pos) (he : SE prog w h₀ n Φ sc e (.Call f as ks p)) : SS prog w h₀ n Φ sc (.expr e) (.Expr (.Call f as ks p) pos) := fun A env ρ μ Q s hA hF C h => by
  refine wpAny_Expr (wpAny_mono (he A env ρ μ _ s hA hF C.cx h) (fun y s' z => ?_) fun _ _ x => x) (by unfold interactive; rw [hF.kind]; rfl)
  obtain ⟨v', μ', h', tk, rfl, hy, R, F, rfl, q⟩ := z
  rw [er_none hy]
  exact ⟨.next, ρ, μ', h', tk, rfl, trivial, R, F.e, C.cx.env.mono F, q⟩

theorem ss_append {o e : ME} {o' e' : PySem.Expr} (apos p pos : Pos) (hm : methodAt o' apos p = true) (hst : ∀ env, starEach [e'] env = [(false, eval e' env)]) (ho : SE prog w h₀ n Φ sc o o') (he : SE prog w h₀ n Φ sc e e') :
    SS prog w h₀ n Φ sc (.append o e) (.Expr (.Call (.Attribute o' "append" apos) [e'] [] p) pos) := fun A env ρ μ Q s hA hF C h => by
  refine wpAny_Expr (methE hm (by simp) (by rw [hst env]; rfl) (wpAny_mono (ho A env ρ μ _ s hA hF C.cx h) (fun v s' x pl => ?_) fun _ _ x => x)) (by unfold interactive; rw [hF.kind]; rfl)
  refine Pst.elim x fun v' μ' h' tk hv R F qS => ?_
  obtain ⟨a, vs₀, rfl, e1, q⟩ := qS
  rw [er_ref hv]
  obtain ⟨items, c, hob, hl⟩ := R _ _ e1
  refine getMethod_builtin (T := "list") ⟨_, hob, rfl⟩ PySem.F.plainAttrs_list PySem.slot_list_append PySem.F.type_list_append (fun b e => by cases e; exact ⟨_, hob, rfl⟩) ?_
  refine callWith_method1 (args_cons (wpAny_mono (he A env ρ μ' _ _ hA hF (C.mono F R).cx q) (fun u s'' x => args_nil ?_) fun _ _ x => x) (hst env)) (hst env)
  refine Pst.elim x fun u' μ'' h'' tk' hu R' F' qS => ?_
  obtain ⟨vs, e2, hz, q'⟩ := qS
  obtain ⟨items', c', hob', hl'⟩ := R' _ _ e2
  have hsz := hl'.size
  refine wpAny_list_append_plain (s := { s with heap := h'', toks := tk' }) (hsz := by first | assumption | exact Nat.le_of_lt (by assumption) | exact Nat.lt_of_lt_of_le (by assumption) (by assumption) | exact Nat.lt_of_le_of_lt (by assumption) (by assumption) | exact Nat.le_trans (by assumption) (by decide) | exact Nat.lt_of_le_of_lt (by assumption) (by decide) | exact Nat.lt_of_lt_of_le (by assumption) (Nat.le_trans (by assumption) (by decide)) | exact Nat.ne_of_gt (by assumption) | exact Nat.ne_of_lt (by assumption) | omega) ⟨c', hob'⟩ fun h₃ hp hs' => ?_
  obtain ⟨c₃, e₃⟩ := hp
  have R₃ : HR prog w (upd μ'' a (.list (vs ++ [u']))) h₃ := R'.change e2 rfl hs' fun _ => ⟨_, c₃, e₃, by rw [Array.toList_push]; exact hl'.append (LR.cons hu LR.nil)⟩
  have F₃ : Fm μ s.heap (upd μ'' a (.list (vs ++ [u']))) h₃ := F.trans (F'.trans (Fm.change e2 rfl hs'))
  exact ⟨.next, ρ, _, h₃, tk', rfl, trivial, R₃, F₃.e, C.cx.env.mono F₃, q'⟩

theorem ss_ret {e : ME} {e' : PySem.Expr} (pos : Pos) (he : SE prog w h₀ n Φ sc e e') : SS prog w h₀ n Φ sc (.ret e) (.Return (some e') pos) := fun A env ρ μ Q s hA hF C h => by
  refine wpAny_Return_some (wpAny_mono (he A env ρ μ _ s hA hF C.cx h) (fun y s' z => ?_) fun _ _ x => x)
  refine Pst.elim z fun v' μ' h' tk hy R F q => ?_
  exact ⟨.ret v', ρ, μ', h', tk, rfl, hy, R, F.e, C.cx.env.mono F, q⟩
theorem ss_cont (pos : Pos) : SS prog w h₀ n Φ sc .cont (.Continue pos) := fun A env ρ μ Q s hA hF C h =>
  wpAny_Continue ⟨.cont, ρ, μ, s.heap, s.toks, rfl, trivial, C.cx.hr, FmE.refl _ _ _, C.cx.env, h⟩
theorem ss_ite {c : MT} {b o : MSs} {c' : PySem.Expr} {b' o' : List Stmt} (pos : Pos) (hc : ST prog w h₀ n Φ sc c c') (hb : SSs prog w h₀ n Φ sc b b') (ho : SSs prog w h₀ n Φ sc o o') : SS prog w h₀ n Φ sc (.ite c b o) (.If c' b' o' pos) := fun A env ρ μ Q s hA hF C h => by
  refine wpAny_If (wpAny_mono (hc A env ρ μ _ s hA hF C.cx h) (fun t s' z => ?_) fun _ _ x => x)
  obtain ⟨μ', h', tk, rfl, R, F, q⟩ := z
  cases t with
  | true => exact wpAny_mono (hb A env ρ μ' Q _ hA hF (C.mono F R) q) (fun _ _ z => PstS.trans F.e z) fun _ _ x => x
  | false => exact wpAny_mono (ho A env ρ μ' Q _ hA hF (C.mono F R) q) (fun _ _ z => PstS.trans F.e z) fun _ _ x => x

theorem store_at {o i : ME} {o' i' : PySem.Expr} {A : Around} {env : Env} {ρ : Rho} {μ : Mu} {s : Shared} {v : V} {y : Value} {P : Mu → Prop} (p : Pos) (hA : AOk n A) (hF : EnvFits sc env) (C : Cs prog w h₀ env ρ μ s.heap) (hy : er y = some v) (ho : SE prog w h₀ n Φ sc o o') (hi : SE prog w h₀ n Φ sc i i')
    (h : wpE Φ o ρ μ fun x μ₂ => wpE Φ i ρ μ₂ fun z μ₃ => storeP x z v μ₃ P) :
    wpAny (model prog w) A (eval o' env) (fun ov s₂ => wpAny (model prog w) A (eval i' env) (fun iv s₃ => wpAny (model prog w) A (setItem ov iv y) (fun _ s' => PstU prog w s μ P s') Nv s₃) Nv s₂) Nv s := by
  refine wpAny_mono (ho A env ρ μ _ s hA hF C.cx h) (fun ov s₂ z => ?_) fun _ _ x => x
  refine Pst.elim z fun v' μ' h' tk hv R F q => ?_
  refine wpAny_mono (hi A env ρ μ' _ _ hA hF (C.mono F R).cx q) (fun iv s₃ z => ?_) fun _ _ x => x
  refine Pst.elim z fun v'' μ'' h'' tk' hv' R' F' q' => ?_
  refine wpAny_mono (storeP_ok (s := { s with heap := h'', toks := tk' }) (by have := hA.units; show A.units + 1 < 9900; omega) R' hv hv' hy q') (fun _ _ z => ?_) fun _ _ x => x
  exact PstU.trans F (PstU.trans F' z)

theorem ss_store {o i e : ME} {o' i' e' : PySem.Expr} (p pos : Pos) (ho : SE prog w h₀ n Φ sc o o') (hi : SE prog w h₀ n Φ sc i i') (he : SE prog w h₀ n Φ sc e e') : SS prog w h₀ n Φ sc (.store o i e) (.Assign [.Subscript o' i' p] e' pos) := fun A env ρ μ Q s hA hF C h => by
  refine wpAny_Assign_Subscript (wpAny_mono (he A env ρ μ _ s hA hF C.cx h) (fun y s' z => ?_) fun _ _ x => x) swaps_sub
  refine Pst.elim z fun v' μ' h' tk hy R F q => ?_
  refine wpAny_mono (store_at (s := { s with heap := h', toks := tk }) p hA hF (C.mono F R) hy ho hi q) (fun _ _ z => wpAny_mono z (fun _ _ z => wpAny_mono z (fun _ _ z => ?_) fun _ _ x => x) fun _ _ x => x) fun _ _ x => x
  refine PstU.elim z fun μ'' h'' tk' R' F' q' => ?_
  exact ⟨.next, ρ, μ'', h'', tk', rfl, trivial, R', (F.trans F').e, C.cx.env.mono (F.trans F'), q'⟩
end
end Mine

end PartML12

section PartML13
open PySem PySem.W PyProof.Rows
set_option linter.unusedVariables false
set_option linter.unusedSimpArgs false
set_option maxRecDepth 100000
namespace Mine

section
variable {prog : Program} {w : World} {h₀ : Heap} {n : Nat} {Φ : Phi} {sc inner : Scope}

/-- the targets are these names -/
noncomputable def tsAre (sc : Scope) : List X → List EX → Bool
  | [], ts => ts.isEmpty
  | x :: xs, ts => match ts with
    | [] => false
    | t :: ts => (dName t x.nm).any fun _ => canBind sc x && tsAre sc xs ts
noncomputable def tsLoc (sc : Scope) (line : Nat) : List X → List EX → Bool
  | [], ts => ts.isEmpty
  | x :: xs, ts => match ts with
    | [] => false
    | t :: ts => (dName t x.nm).any fun q => kindIs sc x.nm .local && (q.1.line == line && tsLoc sc line xs ts)

theorem names_in {A : Around} {env : Env} {Q : Unit → Shared → Prop} (hF : EnvFits sc env) (xs : List X) : ∀ (ts : List PySem.Expr) (vs : List V) (ws : List Value) (ρ : Rho) (μ : Mu) (s : Shared), tsAre sc xs ts = true → LR vs ws → xs.length = vs.length → Cs prog w h₀ env ρ μ s.heap →
    (∀ h' tk, Cs prog w h₀ env (bndL ρ xs vs) μ h' → FmE env μ s.heap μ h' → Q () { s with heap := h', toks := tk }) → wpAny (model prog w) A (assignInOrder ((assignEach ts env).map (·.2)) ws) Q Nv s := by
  induction xs with
  | nil =>
    intro ts vs ws ρ μ s ht hl hn C hQ
    cases ts with
    | cons _ _ => cases ht
    | nil =>
      cases vs with
      | cons _ _ => cases hn
      | nil => exact assignInOrder_nil (hQ s.heap s.toks C (FmE.refl _ _ _))
  | cons x xs ih =>
    intro ts vs ws ρ μ s ht hl hn C hQ
    cases ts with
    | nil => cases ht
    | cons t ts =>
      refine anyC (o := dName t x.nm) ht fun q hq => ?_
      cases vs with
      | nil => cases hn
      | cons v vs =>
        obtain ⟨p, rfl⟩ := q
        obtain ⟨y, r, rfl, hy, hr⟩ := hl.cons_inv
        refine assignInOrder_cons (PySem.wpAny_assign_Name (store_s hF C (b1 hq) hy fun h' tk C' F => ?_))
        exact ih _ vs r _ μ { s with heap := h', toks := tk } (b2 hq) hr (by simpa using hn) C' fun h'' tk' C'' F' => hQ h'' tk' C'' (F.trans F')
theorem tsAre_each {env : Env} (xs : List X) : ∀ (ts : List EX), tsAre sc xs ts = true → (assignEach ts env).length = xs.length ∧ (assignEach ts env).findIdx? (·.1) = Option.none := by
  induction xs with
  | nil =>
    intro ts ht
    cases ts with
    | nil => exact ⟨rfl, rfl⟩
    | cons _ _ => cases ht
  | cons x xs ih =>
    intro ts ht
    cases ts with
    | nil => cases ht
    | cons t ts =>
      refine anyC (o := dName t x.nm) ht fun q hq => ?_
      obtain ⟨p, rfl⟩ := q
      obtain ⟨h1, h2⟩ := ih ts (b2 hq)
      refine ⟨by show (assignEach ts env).length + 1 = _; rw [h1]; rfl, ?_⟩
      show List.findIdx? _ ((false, assign (.Name x.nm p) env) :: assignEach ts env) = _
      rw [List.findIdx?_cons, h2]; rfl

theorem OR_tuple {μ : Mu} {h : Heap} {p : Nat} {vs : List V} (R : HR prog w μ h) (e : μ p = some (.tuple vs)) : ∃ items, h.IsTuple p items ∧ LR vs items.toList := by
  obtain ⟨items, c, ho, hl⟩ := R _ _ e
  exact ⟨items, ⟨_, ho, rfl, c, rfl⟩, hl⟩

theorem ExtBut.ext {h h' : Heap} (k : Heap.ExtBut h.objs.size h h') : ∀ b o, h.get? b = some o → h'.get? b = some o := fun b o e => k b o (Nat.ne_of_lt (Heap.lt_size e)) e

theorem sole_no {ts : List PySem.Expr} {k : Nat} {p : Pos} {v : PySem.Expr} {l : Nat} {env : Env} (hc : notComp v = true) : swapsWithSole [.Tuple ts k p] v l env = pure false :=
  (show swapsWithSole [.Tuple ts k p] v l env = swapsWith v (some (.Tuple ts k p)) l env from rfl).trans (swaps_no hc)
theorem ss_unpack {xs : List X} {e : ME} {ts : List PySem.Expr} {v : PySem.Expr} (k : Nat) (p pos : Pos) (ht : tsAre sc xs ts = true) (hc : notComp v = true) (hnt : ∀ env, swappedStores [.Tuple ts k p] v env = pure Option.none) (he : SE prog w h₀ n Φ sc e v) :
    SS prog w h₀ n Φ sc (.unpack xs e) (.Assign [.Tuple ts k p] v pos) := fun A env ρ μ Q s hA hF C h => by
  obtain ⟨hnd, h⟩ := h
  refine Assign_Tuple (wpAny_mono (he A env ρ μ _ s hA hF C.cx h) (fun y s' z => ?_) fun _ _ x => x) (sole_no hc) (hnt env)
  refine Pst.elim z fun v' μ' h' tk hy R F qS => ?_
  obtain ⟨a, vs, rfl, e1, hlen, q⟩ := qS
  rw [er_ref hy]
  obtain ⟨items, hT, hl⟩ := OR_tuple R e1
  obtain ⟨t1, t2⟩ := tsAre_each (env := env) xs ts ht
  refine wpAny_assign_Tuple (s := { s with heap := h', toks := tk }) hA.handled hT (by rw [t1, hlen, ← hl.length]; simp) t2 fun h'' hs => ?_
  have kk := ExtBut.ext hs
  have C' : Cs prog w h₀ env ρ μ' h'' := (C.mono F R).mono (Fm.ext kk) (R.ext kk)
  refine names_in hF xs ts vs items.toList ρ μ' { s with heap := h'', toks := tk } ht hl hlen C' fun h₃ tk₃ C₃ F₃ => ?_
  exact ⟨.next, _, μ', h₃, tk₃, rfl, trivial, C₃.cx.hr, (F.trans (Fm.ext kk)).e.trans F₃, C₃.cx.env, q⟩

theorem ckEs_plain {sc : Scope} {vs : List EX} : ∀ {es : MEs}, ckEs sc es vs = true → ∀ x ∈ vs, plainX x = true := by
  induction vs with
  | nil => intro es _ x hx; cases hx
  | cons v vs ih =>
    intro es h x hx
    cases es with
    | nil => cases h
    | cons e es =>
      cases hx with
      | head => exact ck_plain (b1 h)
      | tail _ hx => exact ih (b2 h) x hx
theorem noStar {sc : Scope} {es : MEs} {vs : List EX} (h : ckEs sc es vs = true) : ∀ x ∈ vs, ∀ a b, x ≠ .Starred a b := fun x hx a b q => by
  have := ckEs_plain h x hx
  rw [q] at this; cases this

theorem filter_loc {env : Env} {line : Nat} {f : EX → Option Str} (hF : EnvFits sc env) (hf : ∀ id pos, f (.Name id pos) = if env.kindOf id == some .local && pos.line == line then some id else Option.none) (xs : List X) : ∀ (ts : List EX), tsLoc sc line xs ts = true →
    ts.filterMap f = xs.map X.nm ∧ ts.length = xs.length := by
  induction xs with
  | nil =>
    intro ts ht
    cases ts with
    | nil => exact ⟨rfl, rfl⟩
    | cons _ _ => cases ht
  | cons x xs ih =>
    intro ts ht
    cases ts with
    | nil => cases ht
    | cons t ts =>
      refine anyC (o := dName t x.nm) ht fun q hq => ?_
      obtain ⟨p, rfl⟩ := q
      obtain ⟨h1, h2⟩ := ih ts (b2 (b2 hq))
      have hk' := hF.loc _ (eq_of_beq (b1 hq))
      have hl : (p.line == line) = true := b1 (b2 hq)
      refine ⟨?_, congrArg Nat.succ h2⟩
      rw [List.filterMap_cons, hf, hk', hl]
      show x.nm :: _ = _
      rw [h1]; rfl

theorem ite_cases {α : Sort _} {c : Prop} [Decidable c] {a b r : α} (h1 : c → a = r) (h2 : b = r) : ite c a b = r := by
  by_cases h : c
  · rw [if_pos h]; exact h1 h
  · rw [if_neg h]; exact h2

theorem swapped_tup {env : Env} {xs : List X} {ts vs : List PySem.Expr} {es : MEs} {k k' : Nat} {p p' : Pos} (hF : EnvFits sc env) (hl : tsLoc sc ((ts.head?.map (·.pos.line)).getD 0) xs ts = true) (hlen : (xs.length == 2 || xs.length == 3) = true) (hv : vs.length = xs.length)
    (hst : ckEs sc es vs = true) (hnd : ((xs.map X.nm).eraseDups.length == xs.length) = true) (hf : vs.all (foldedForSure 8) = false) (hc : vs.all (constantsAlone 8) = false) : swappedStores [.Tuple ts k p] (.Tuple vs k' p') env = pure (some (xs.map X.nm)) := by
  have hbk : env.blockKind = .function := by unfold Env.blockKind; rw [hF.kind]; rfl
  have hns := noStar hst
  unfold swappedStores
  have key : ∀ f : PySem.Expr → Option Str, (∀ id pos, f (.Name id pos) = if env.kindOf id == some .local && pos.line == (ts.head?.map (·.pos.line)).getD 0 then some id else Option.none) → ts.filterMap f = xs.map X.nm := fun f hf => (filter_loc hF hf xs ts hl).1
  have h2 : ts.length = xs.length := (filter_loc (f := fun
    | .Name id pos => if env.kindOf id == some .local && pos.line == ((ts.head?.map (·.pos.line)).getD 0) then some id else none
    | _ => none) hF (fun _ _ => rfl) xs ts hl).2
  have hlen' : (!(ts.length == 2 || ts.length == 3) || vs.length != ts.length || env.blockKind != .function) = false := by
    rw [h2, hlen, hv, hbk]; simp
  dsimp only
  rw [hlen', if_neg Bool.false_ne_true]
  refine ite_cases (fun hq => ?_) ?_
  · rw [List.any_eq_true] at hq
    obtain ⟨x, hx, hq⟩ := hq
    cases x <;> first | (cases hq; done) | (exact (hns _ hx _ _ rfl).elim)
  rw [key]
  · rw [h2]
    simp only [List.length_map, bne_self_eq_false, Bool.false_or]
    rw [show ((xs.map X.nm).eraseDups.length != xs.length) = false by simpa using hnd]
    simp [hf, hc]
  · exact fun _ _ => rfl
end
end Mine

end PartML13

section PartML14
open PySem PySem.W PyProof.Rows
set_option linter.unusedVariables false
set_option linter.unusedSimpArgs false
set_option maxRecDepth 100000
namespace Mine

section
variable {prog : Program} {w : World} {h₀ : Heap} {n : Nat} {Φ : Phi} {sc inner : Scope}

theorem LR.reverse {vs : List V} {ws : List Value} (h : LR vs ws) : LR vs.reverse ws.reverse := by
  show ws.reverse.map er = vs.reverse.map some
  rw [List.map_reverse, List.map_reverse, h]
theorem bnd_comm {ρ : Rho} {x y : X} {a b : V} (h : x ≠ y) : bnd (bnd ρ x a) y b = bnd (bnd ρ y b) x a := by
  funext z; unfold bnd
  by_cases h1 : z = y
  · by_cases h2 : z = x
    · exact absurd (h2.symm.trans h1) h
    · simp [h1, Ne.symm h]
  · by_cases h2 : z = x
    · simp [h2, h]
    · simp [h1, h2]
theorem bndL_rev {ρ : Rho} {xs : List X} {vs : List V} (hn : xs.Nodup) (hl : xs.length = vs.length) (h23 : (xs.length == 2 || xs.length == 3) = true) : bndL ρ xs.reverse vs.reverse = bndL ρ xs vs := by
  match xs, vs, hn, hl, h23 with
  | [x, y], [a, b], hn, _, _ =>
    simp at hn
    show bnd (bnd ρ y b) x a = bnd (bnd ρ x a) y b
    exact (bnd_comm hn).symm
  | [x, y, z], [a, b, c], hn, _, _ =>
    simp at hn
    obtain ⟨⟨h1, h2⟩, h3⟩ := hn
    show bnd (bnd (bnd ρ z c) y b) x a = bnd (bnd (bnd ρ x a) y b) z c
    rw [bnd_comm (ρ := bnd ρ x a) h3, bnd_comm (ρ := ρ) h2, bnd_comm (ρ := bnd ρ z c) h1]
  | [], _, _, _, h => simp at h
  | [_], _, _, _, h => simp at h
  | _ :: _ :: _ :: _ :: _, _, _, _, h => simp at h
  | [_, _], [], _, h, _ => simp at h
  | [_, _], [_], _, h, _ => simp at h
  | [_, _], _ :: _ :: _ :: _, _, h, _ => simp at h
  | [_, _, _], [], _, h, _ => simp at h
  | [_, _, _], [_], _, h, _ => simp at h
  | [_, _, _], [_, _], _, h, _ => simp at h
  | [_, _, _], _ :: _ :: _ :: _ :: _, _, h, _ => simp at h

theorem names_bind {A : Around} {env : Env} {Q : Unit → Shared → Prop} (hF : EnvFits sc env) (xs : List X) : ∀ (vs : List V) (ws : List Value) (ρ : Rho) (μ : Mu) (s : Shared), (∀ x ∈ xs, canBind sc x = true) → LR vs ws → xs.length = vs.length → Cs prog w h₀ env ρ μ s.heap →
    (∀ h' tk, Cs prog w h₀ env (bndL ρ xs vs) μ h' → FmE env μ s.heap μ h' → Q () { s with heap := h', toks := tk }) → wpAny (model prog w) A (assignInOrder (xs.map fun x => bindName env x.nm) ws) Q Nv s := by
  induction xs with
  | nil =>
    intro vs ws ρ μ s ht hl hn C hQ
    cases vs with
    | cons _ _ => cases hn
    | nil => exact assignInOrder_nil (hQ s.heap s.toks C (FmE.refl _ _ _))
  | cons x xs ih =>
    intro vs ws ρ μ s ht hl hn C hQ
    cases vs with
    | nil => cases hn
    | cons v vs =>
      obtain ⟨y, r, rfl, hy, hr⟩ := hl.cons_inv
      rw [List.map_cons]
      refine assignInOrder_cons (bindName_ (store_s hF C (ht x List.mem_cons_self) hy fun h' tk C' F => ?_))
      exact ih vs r _ μ { s with heap := h', toks := tk } (fun z hz => ht z (List.mem_cons_of_mem _ hz)) hr (by simpa using hn) C' fun h'' tk' C'' F' => hQ h'' tk' C'' (F.trans F')

theorem tsLoc_can {line : Nat} (xs : List X) : ∀ (ts : List EX), tsLoc sc line xs ts = true → ∀ x ∈ xs, canBind sc x = true := by
  induction xs with
  | nil => intro ts _ x hx; cases hx
  | cons x xs ih =>
    intro ts ht z hz
    cases ts with
    | nil => cases ht
    | cons t ts =>
      refine anyC (o := dName t x.nm) ht fun q hq => ?_
      cases hz with
      | head => unfold canBind; rw [b1 hq]; rfl
      | tail _ hz => exact ih ts (b2 (b2 hq)) z hz

theorem tup_made {A : Around} {env : Env} {ρ : Rho} {μ : Mu} {s : Shared} {es : MEs} {vs : List EX} {k' : Nat} {p' : Pos} {K : List V → Mu → Prop} {Qs : Value → Shared → Prop} (hA : AOk n A) (hF : EnvFits sc env) (C : Cx prog w h₀ env ρ μ s.heap) (hs : SEs prog w h₀ n Φ sc es vs) (h : wpEs Φ es ρ μ K) (hlen : ∀ us μ', K us μ' → us.length ≤ 3)
    (k : ∀ us μ' h'' tk (T : Nat) items, K us μ' → μ' T = Option.none → h''.IsTuple T items → LR us items.toList → HR prog w (upd μ' T (.tuple us)) h'' → Fm μ s.heap (upd μ' T (.tuple us)) h'' → Qs (.ref T) { s with heap := h'', toks := tk }) : wpAny (model prog w) A (eval (.Tuple vs k' p') env) Qs Nv s := by
  refine Tuple_ (wpAny_mono (hs A env ρ μ K s _ hA hF C h) (fun ws s' z => ?_) fun _ _ x => x)
  obtain ⟨us, hr, μ', h', tk, rfl, R, F, q⟩ := z
  have h3 := hlen us μ' q
  refine wpAny_newObj_type ?_ (by show ws.toArray.size ≤ sizeLine; rw [List.size_toArray, hr.length, sizeLine_eq]; omega)
  have hl : LR us ws.toArray.toList := by rw [List.toList_toArray]; exact hr
  exact k us μ' _ tk _ ws.toArray q (HR.fresh R) ⟨_, Heap.get?_push_size _ rfl, rfl, 0, rfl⟩ hl (HR.push R _ (.tuple us) fun _ => ⟨ws.toArray, 0, Heap.get?_push_size _ rfl, hl⟩) (F.trans (Fm.push _ _ _ _))

theorem ss_tup {xs : List X} {es : MEs} {ts vs : List PySem.Expr} {k k' : Nat} {p p' : Pos} (pos : Pos) (hl : tsLoc sc ((ts.head?.map (·.pos.line)).getD 0) xs ts = true) (hlen : (xs.length == 2 || xs.length == 3) = true) (hv : vs.length = xs.length)
    (hst : ckEs sc es vs = true) (hnd : ((xs.map X.nm).eraseDups.length == xs.length) = true) (hf : vs.all (foldedForSure 8) = false) (hc : vs.all (constantsAlone 8) = false) (hs : SEs prog w h₀ n Φ sc es vs) :
    SS prog w h₀ n Φ sc (.tup xs es) (.Assign [.Tuple ts k p] (.Tuple vs k' p') pos) := fun A env ρ μ Q s hA hF C h => by
  obtain ⟨hn, h⟩ := h
  have h3 : xs.length ≤ 3 := by
    rcases Bool.or_eq_true _ _ ▸ hlen with h | h <;> simp at h <;> omega
  refine Assign_Tuple_swapped (names := xs.map X.nm) (tup_made hA hF C.cx hs h (fun us μ' q => q.1 ▸ h3) fun us μ' h'' tk T items q oT hT hli R'' F'' => ?_) (sole_no rfl) (swapped_tup hF hl hlen hv hst hnd hf hc)
  obtain ⟨hlu, q⟩ := q
  have q'' := q T oT
  generalize upd μ' T (.tuple us) = μ'' at R'' F'' q''
  have hnm : (xs.map X.nm).length = items.size := by rw [List.length_map, hlu, ← hli.length]; simp
  rw [hnm]
  refine wpAny_unpackItems_tuple hA.handled hT fun h₃ hs₃ => ?_
  have kk := ExtBut.ext hs₃
  rw [← List.map_reverse, List.map_map]
  have C' : Cs prog w h₀ env ρ μ'' h₃ := (C.mono F'' R'').mono (Fm.ext kk) (R''.ext kk)
  have hF₃ : FmE env μ s.heap μ'' h₃ := (F''.trans (Fm.ext kk)).e
  refine names_bind (s := { s with heap := h₃, toks := tk }) hF xs.reverse us.reverse items.toList.reverse ρ μ'' (fun x hx => tsLoc_can xs ts hl x (List.mem_reverse.mp hx)) hli.reverse (by simp [hlu]) C' fun h₄ tk₄ C₄ F₄ => ?_
  rw [bndL_rev hn hlu hlen] at C₄
  exact ⟨.next, _, μ'', h₄, tk₄, rfl, trivial, C₄.cx.hr, hF₃.trans F₄, C₄.cx.env, q''⟩

theorem assign_sub {M : Model} {A : Around} {E : Value → Shared → Prop} {s : Shared} {env : Env} {o i : PySem.Expr} {p : Pos} {v : Value} {Q : Unit → Shared → Prop}
    (h : wpAny M A (eval o env) (fun ov s₂ => wpAny M A (eval i env) (fun iv s₃ => wpAny M A (setItem ov iv v) Q E s₃) E s₂) E s) : wpAny M A (assign (.Subscript o i p) env v) Q E s := by
  rw [assign_Subscript]
  refine wpAny_bind (wpAny_holding (wpAny_mono h (fun ov s₂ h₂ => wpAny_bind (wpAny_holding (wpAny_mono h₂ (fun iv s₃ h₃ => wpAny_bind (wpAny_standAt (wpAny_bind (wpAny_holding (wpAny_mono h₃ (fun _ _ z => ?_) fun _ _ x => x))))) fun _ _ x => x))) fun _ _ x => x))
  intro Γ pp hΓ
  rw [Sem.wp_release]
  exact z

theorem no_swapped_sub {env : Env} {o i o2 i2 : PySem.Expr} {p q : Pos} {k k' : Nat} {pp p' : Pos} {vs : List PySem.Expr} : swappedStores [.Tuple [.Subscript o i p, .Subscript o2 i2 q] k pp] (.Tuple vs k' p') env = pure Option.none := by
  unfold swappedStores
  dsimp only
  exact ite_cases (fun _ => rfl) (ite_cases (fun _ => rfl) rfl)

theorem ss_swap {o i o2 i2 : ME} {o' i' o2' i2' : PySem.Expr} {es : MEs} {vs : List PySem.Expr} {p q : Pos} {k k' : Nat} {pp p' : Pos} (pos : Pos) (ho : SE prog w h₀ n Φ sc o o') (hi : SE prog w h₀ n Φ sc i i') (ho2 : SE prog w h₀ n Φ sc o2 o2') (hi2 : SE prog w h₀ n Φ sc i2 i2')
    (hs : SEs prog w h₀ n Φ sc es vs) : SS prog w h₀ n Φ sc (.swap o i o2 i2 es) (.Assign [.Tuple [.Subscript o' i' p, .Subscript o2' i2' q] k pp] (.Tuple vs k' p') pos) := fun A env ρ μ Q s hA hF C h => by
  refine Assign_Tuple (tup_made hA hF C.cx hs h (fun us μ' q => by obtain ⟨a, b, rfl, _⟩ := q; exact Nat.le_succ 2) fun us μ' h'' tk T items q oT hT hli R'' F'' => ?_) (sole_no rfl) no_swapped_sub
  obtain ⟨a, b, rfl, kq⟩ := q
  have q'' := kq T oT
  generalize upd μ' T (.tuple [a, b]) = μ'' at R'' F'' q''
  refine wpAny_assign_Tuple hA.handled hT ?_ rfl fun h₃ hs₃ => ?_
  · show 2 = items.size
    have := hli.length
    simpa using this.symm
  have kk := ExtBut.ext hs₃
  have C' : Cs prog w h₀ env ρ μ'' h₃ := (C.mono F'' R'').mono (Fm.ext kk) (R''.ext kk)
  have hF₃ : Fm μ s.heap μ'' h₃ := F''.trans (Fm.ext kk)
  obtain ⟨y1, r, e4, hy1, hr1⟩ := hli.cons_inv
  obtain ⟨y2, r2, rfl, hy2, hr2⟩ := hr1.cons_inv
  cases hr2.nil_inv
  rw [e4]
  show wpAny _ _ (assignInOrder [assign (.Subscript o' i' p) env, assign (.Subscript o2' i2' q) env] [y1, y2]) _ _ _
  refine assignInOrder_cons (assign_sub (wpAny_mono (store_at (s := { s with heap := h₃, toks := tk }) p hA hF C' hy1 ho hi q'') (fun _ _ z => wpAny_mono z (fun _ _ z => wpAny_mono z (fun _ _ z => ?_) fun _ _ x => x) fun _ _ x => x) fun _ _ x => x))
  refine PstU.elim z fun μ₄ h₄ tk₄ R₄ F₄ q₄ => ?_
  refine assignInOrder_cons (assign_sub (wpAny_mono (store_at (s := { s with heap := h₄, toks := tk₄ }) p hA hF (C'.mono F₄ R₄) hy2 ho2 hi2 q₄) (fun _ _ z => wpAny_mono z (fun _ _ z => wpAny_mono z (fun _ _ z => ?_) fun _ _ x => x) fun _ _ x => x) fun _ _ x => x))
  refine PstU.elim z fun μ₅ h₅ tk₅ R₅ F₅ q₅ => ?_
  exact assignInOrder_nil ⟨.next, ρ, μ₅, h₅, tk₅, rfl, trivial, R₅, (hF₃.trans (F₄.trans F₅)).e, C.cx.env.mono (hF₃.trans (F₄.trans F₅)), q₅⟩
end
end Mine

end PartML14

section PartML15
open PySem PySem.W PyProof.Rows
set_option linter.unusedVariables false
set_option linter.unusedSimpArgs false
set_option maxRecDepth 100000
namespace Mine

section
variable {prog : Program} {w : World} {h₀ : Heap} {n : Nat} {Φ : Phi} {sc inner : Scope}

theorem not_own {env : Env} {ρ : Rho} {μ : Mu} {h : Heap} {b : Nat} (R : EnvR env ρ μ h) (N : New μ h b) : ¬ Own env b := fun o => by
  obtain ⟨m, ob, e⟩ := R.own o
  have := N _ e
  rw [mutb_none m] at this; cases this

theorem forP_nil {src : Mu → Prop} {body} {ρ : Rho} {μ : Mu} {Q : QS} (h : forP src body [] ρ μ Q) : src μ ∧ Q .next ρ μ := h
theorem forP_cons {src : Mu → Prop} {body} {v : V} {r : List V} {ρ : Rho} {μ : Mu} {Q : QS} (h : forP src body (v :: r) ρ μ Q) : src μ ∧ body v ρ μ (fun f ρ' μ' => match f with
      | .ret w => Q (.ret w) ρ' μ'
      | _ => forP src body r ρ' μ' Q) := h

theorem EnvR.unb {env : Env} {ρ : Rho} {μ : Mu} {h : Heap} (R : EnvR env ρ μ h) (x : X) : EnvR env (unb ρ x) μ h := by
  have k : ∀ z u, Mine.unb ρ x z = some u → ρ z = some u := fun z u e => by
    unfold Mine.unb at e
    split at e
    · cases e
    · exact e
  refine ⟨?_, R.cell, fun z u c hz hk e => R.val z u c (k z u hz) hk e, R.offL, R.offC, R.apart⟩
  obtain ⟨m, hn, hm⟩ := R.ns
  exact ⟨m, hn, fun z u hz hk => hm z u (k z u hz) hk⟩
theorem forP_src {src : Mu → Prop} {body} {r : List V} {ρ : Rho} {μ : Mu} {Q : QS} (h : forP src body r ρ μ Q) : src μ := by
  cases r with
  | nil => exact (forP_nil h).1
  | cons v r => exact (forP_cons h).1
structure FI (prog : Program) (w : World) (env : Env) (s : Shared) (μ : Mu) (I : Nat) (St : Nat → Heap → Prop) (N : Nat) (P : Nat → Rho → Mu → Prop) (k : Nat) (s' : Shared) (i : Nat) (ρi : Rho) (μi : Mu) (hi : Heap) (tk : Nat) : Prop where
  eq : s' = { s with heap := hi, toks := tk }
  hk : k + i = N
  st : St i hi
  e : EnvR env ρi μi hi
  R : HR prog w μi hi
  F : FmE env μ s.heap μi hi
  oI : μi I = Option.none
  kc : P i ρi μi
theorem FI.next {env : Env} {s : Shared} {μ : Mu} {I : Nat} {St : Nat → Heap → Prop} {N : Nat} {P : Nat → Rho → Mu → Prop} {k : Nat} {s' : Shared} {i tk : Nat} {ρi : Rho} {μi : Mu} {hi : Heap} (C : FI prog w env s μ I St N P k s' i ρi μi hi tk) (hlt : i < N) {ρ' : Rho} {μ' : Mu} {h' : Heap} {tk' : Nat}
    (st : St (i + 1) h') (e : EnvR env ρ' μ' h') (R : HR prog w μ' h') (F : FmE env μ s.heap μ' h') (oI : μ' I = Option.none) (kc : P (i + 1) ρ' μ') : ∃ m, m < k ∧ ∃ i ρi μi hi tk, FI prog w env s μ I St N P m { s with heap := h', toks := tk' } i ρi μi hi tk :=
  have h1 := dec_ok C.hk hlt
  ⟨k - 1, h1.1, i + 1, ρ', μ', h', tk', rfl, h1.2, st, e, R, F, oI, kc⟩
theorem for_step {env : Env} {s : Shared} {μ μi : Mu} {ρ ρi : Rho} {I i tki : Nat} {hi : Heap} {items : List V} {src : Mu → Prop} {St : Nat → Heap → Prop} {r : Option Value} {s₁ : Shared} {G : Option Value → Shared → Prop} (C : Cs prog w h₀ env ρ μ s.heap) (IT : It prog w I items src St) (nI : New μ s.heap I)
    (st : St i hi) (ei : EnvR env ρi μi hi) (Ri : HR prog w μi hi) (Fi : FmE env μ s.heap μi hi) (oIi : μi I = Option.none)
    (yy : ∃ h' tk, s₁ = { ({ s with heap := hi, toks := tki } : Shared) with heap := h', toks := tk } ∧ (∀ b o, b ≠ I → hi.get? b = some o → h'.get? b = some o) ∧ match items[i]? with
      | some v => ∃ x, r = some x ∧ er x = some v ∧ St (i + 1) h'
      | Option.none => r = Option.none)
    (k1 : ∀ h₄ tk₄, HR prog w μi h₄ → EnvR env ρi μi h₄ → FmE env μ s.heap μi h₄ → items[i]? = Option.none → G Option.none { s with heap := h₄, toks := tk₄ })
    (k2 : ∀ h₄ tk₄ v y, HR prog w μi h₄ → EnvR env ρi μi h₄ → FmE env μ s.heap μi h₄ → items[i]? = some v → er y = some v → St (i + 1) h₄ → G (some y) { s with heap := h₄, toks := tk₄ }) : G r s₁ := by
  obtain ⟨h₄, tk₄, rfl, keep₄, hr⟩ := yy
  have R₄ := Ri.but oIi keep₄
  have e₄ := ei.but (Odd.fields (IT.there _ _ st)) keep₄
  have F₄ : FmE env μ s.heap μi h₄ := fun b o q e m => ⟨keep₄ b o (fun r => by subst r; have := nI _ e; rw [m] at this; cases this) (Fi b o q e m).1, (Fi b o q e m).2⟩
  cases hv : items[i]? with
  | none => rw [hv] at hr; subst hr; exact k1 h₄ tk₄ R₄ e₄ F₄ hv
  | some v => rw [hv] at hr; obtain ⟨y, rfl, e2, e3⟩ := hr; exact k2 h₄ tk₄ v y R₄ e₄ F₄ hv e2 e3
theorem for_pyNext {A : Around} {env : Env} {s : Shared} {μ μi : Mu} {ρ ρi : Rho} {I i tki : Nat} {hi : Heap} {items : List V} {src : Mu → Prop} {St : Nat → Heap → Prop} {Q : Option Value → Shared → Prop} {E : Value → Shared → Prop} (C : Cs prog w h₀ env ρ μ s.heap) (IT : It prog w I items src St) (nI : New μ s.heap I) (hh : A.handled = Option.none) (hsrc : src μi)
    (st : St i hi) (ei : EnvR env ρi μi hi) (Ri : HR prog w μi hi) (Fi : FmE env μ s.heap μi hi) (oIi : μi I = Option.none)
    (k1 : ∀ h₄ tk₄, HR prog w μi h₄ → EnvR env ρi μi h₄ → FmE env μ s.heap μi h₄ → items[i]? = Option.none → Q Option.none { s with heap := h₄, toks := tk₄ })
    (k2 : ∀ h₄ tk₄ v y, HR prog w μi h₄ → EnvR env ρi μi h₄ → FmE env μ s.heap μi h₄ → items[i]? = some v → er y = some v → St (i + 1) h₄ → Q (some y) { s with heap := h₄, toks := tk₄ }) : wpAny (model prog w) A (pyNext (.ref I)) Q E { s with heap := hi, toks := tki } :=
  anyE (wpAny_mono (IT.next A i { s with heap := hi, toks := tki } μi hh st Ri hsrc) (fun r s₁ yy => for_step (G := Q) C IT nI st ei Ri Fi oIi yy k1 k2) fun _ _ x => x)
theorem for_next {env : Env} {s s' : Shared} {μ μi μ₆ : Mu} {ρ ρi ρ₆ : Rho} {I i k : Nat} {hi h₄ h₅ h₆ : Heap} {tki : Nat} {items : List V} {src : Mu → Prop} {St : Nat → Heap → Prop} {P : Nat → Rho → Mu → Prop} {Inv : Nat → Shared → Prop} {v : V} (hInv : ∀ k s', Inv k s' ↔ ∃ i ρi μi hi tk, FI prog w env s μ I St items.length P k s' i ρi μi hi tk)
    (C : Cs prog w h₀ env ρ μ s.heap) (IT : It prog w I items src St) (nI : New μ s.heap I) (FC : FI prog w env s μ I St items.length P k s' i ρi μi hi tki) (hv : items[i]? = some v) (oIi : μi I = Option.none) (st₄ : St (i + 1) h₄) (F₄ : FmE env μ s.heap μi h₄) (F₅ : FmE env μi h₄ μi h₅) (F₆ : FmE env μi h₅ μ₆ h₆) (E₆ : EnvR env ρ₆ μ₆ h₆) (R₆ : HR prog w μ₆ h₆)
    (q : P (i + 1) ρ₆ μ₆) (tk₆ : Nat) : ∃ m, m < k ∧ Inv m { s with heap := h₆, toks := tk₆ } := by
  have nO : ¬ Own env I := not_own C.cx.env nI
  have st₅ : St (i + 1) h₅ := IT.frame _ _ _ st₄ fun o e => (F₅ I o nO e (mutb_none oIi)).1
  have st₆ : St (i + 1) h₆ := IT.frame _ _ _ st₅ fun o e => (F₆ I o nO e (mutb_none oIi)).1
  have oI₆ : μ₆ I = Option.none := by obtain ⟨o, _, e, _⟩ := IT.there _ _ st₅; exact (F₆ I o nO e (mutb_none oIi)).2.trans oIi
  obtain ⟨m, h1, h2⟩ := FC.next (List.getElem?_eq_some_iff.mp hv).1 (tk' := tk₆) st₆ E₆ R₆ (F₄.trans (F₅.trans F₆)) oI₆ q
  exact ⟨m, h1, (hInv _ _).mpr h2⟩
theorem ss_for {x : X} {it : MI} {b : MSs} {it' : PySem.Expr} {b' : List Stmt} (p pos : Pos) (hb : canBind sc x = true) (hit : SI prog w h₀ n Φ sc it it') (hbody : SSs prog w h₀ n Φ sc b b') : SS prog w h₀ n Φ sc (.for_ x it b) (.For (.Name x.nm p) it' b' [] pos) := fun A env ρ μ Q s hA hF C h => by
  refine wpAny_For (wpAny_mono (hit.2 A env ρ μ _ s hA hF C.cx h) (fun v s₁ yy => wpAny_mono yy (fun itv s₂ z => ?_) fun _ _ x => x) fun _ _ x => x) (hit.1 env)
  obtain ⟨μ₂, h₂, tk, I, items, src, St, rfl, rfl, R₂, F₂, nI, oI, IT, st0, k0⟩ := z
  have nO : ¬ Own env I := not_own C.cx.env nI
  obtain ⟨QF, k0, hend, hret⟩ : ∃ QF : QS, forP src (fun v ρ μ k => wpSs Φ b (bnd ρ x v) μ k) items ρ μ₂ QF ∧ (∀ ρi μi, QF .next ρi μi → Q .next (Mine.unb ρi x) μi) ∧ (∀ u ρi μi, QF (.ret u) ρi μi → Q (.ret u) ρi μi) := ⟨_, k0, fun _ _ q => q, fun _ _ _ q => q⟩
  obtain ⟨Inv, hInv⟩ : ∃ Inv : Nat → Shared → Prop, ∀ k s', Inv k s' ↔ ∃ i ρi μi hi tk, FI prog w env s μ I St items.length (fun i ρi μi => forP src (fun v ρ μ k => wpSs Φ b (bnd ρ x v) μ k) (items.drop i) ρi μi QF) k s' i ρi μi hi tk := ⟨_, fun _ _ => Iff.rfl⟩
  refine codeAny_forLoop Inv ?_ items.length ((hInv _ _).mpr ⟨0, ρ, μ₂, h₂, tk, rfl, rfl, st0, C.cx.env.mono F₂, R₂, F₂.e, oI, k0⟩) (fun _ => rfl)
  clear k0 st0 oI R₂ F₂ h
  intro k s' hI
  obtain ⟨i, ρi, μi, hi, tki, FC⟩ := (hInv _ _).mp hI
  obtain ⟨es, -, st, ei, Ri, Fi, oIi, kc⟩ := id FC
  rw [es]
  refine for_pyNext C IT nI hA.handled (forP_src kc) st ei Ri Fi oIi (fun h₄ tk₄ R₄ e₄ F₄ hv => ?_) (fun h₄ tk₄ v y R₄ e₄ F₄ hv hy st₄ => ?_)
  · rw [drop_end hv] at kc
    exact wpAny_execs_nil ⟨.next, _, μi, h₄, tk₄, rfl, trivial, R₄, F₄, e₄.unb x, hend _ _ (forP_nil kc).2⟩
  · rw [drop_at hv] at kc
    refine anyE (PySem.wpAny_assign_Name (store_s (s := { s with heap := h₄, toks := tk₄ }) hF (C.monoE F₄ e₄ R₄) hb hy fun h₅ tk₅ C₅ F₅ => wp_elim (hbody A env _ μi _ { s with heap := h₅, toks := tk₅ } hA hF C₅ (forP_cons kc).2) (fun f ρ₆ μ₆ h₆ tk₆ hf R₆ F₆ E₆ q₆ => ?_) (fun y' u ρ₆ μ₆ h₆ tk₆ rel R₆ F₆ E₆ q₆ => ⟨.ret u, ρ₆, μ₆, h₆, tk₆, rfl, rel, R₆, F₄.trans (F₅.trans F₆), E₆, hret _ _ _ q₆⟩)))
    have nx := for_next hInv C IT nI FC hv oIi st₄ F₄ F₅ F₆ E₆ R₆ (by rcases hf with rfl | rfl <;> exact q₆) tk₆
    exact ⟨fun _ => nx, fun _ => nx⟩

theorem ss_while {c : MT} {b : MSs} {c' : PySem.Expr} {b' : List Stmt} (pos : Pos) (hc : ST prog w h₀ n Φ sc c c') (hbody : SSs prog w h₀ n Φ sc b b') : SS prog w h₀ n Φ sc (.while_ c b) (.While c' b' [] pos) := fun A env ρ μ Q s hA hF C h => by
  obtain ⟨J, m, hJ, turn⟩ := h
  obtain ⟨Inv, hInv⟩ : ∃ Inv : Nat → Shared → Prop, ∀ k s', Inv k s' ↔ ∃ ρi μi hi tki, s' = { s with heap := hi, toks := tki } ∧ EnvR env ρi μi hi ∧ HR prog w μi hi ∧ FmE env μ s.heap μi hi ∧ J k ρi μi := ⟨_, fun _ _ => Iff.rfl⟩
  refine wpAny_While (codeAny_whileLoop Inv ?_ m ((hInv _ _).mpr ⟨ρ, μ, s.heap, s.toks, rfl, C.cx.env, C.cx.hr, FmE.refl _ _ _, hJ⟩))
  intro k s' hI
  obtain ⟨ρi, μi, hi, tki, es, ei, Ri, Fi, hj⟩ := (hInv _ _).mp hI
  rw [es]
  have Ci : Cs prog w h₀ env ρi μi hi := C.monoE Fi ei Ri
  refine anyE (wpAny_mono (hc A env ρi μi _ { s with heap := hi, toks := tki } hA hF Ci.cx (turn _ _ _ hj)) (fun t s₂ z => ?_) fun _ _ x => x)
  obtain ⟨μ₃, h₃, tk₃, rfl, R₃, F₃, q₃⟩ := z
  cases t with
  | false =>
    exact wpAny_execs_nil ⟨.next, ρi, μ₃, h₃, tk₃, rfl, trivial, R₃, Fi.trans F₃.e, ei.mono F₃, q₃⟩
  | true =>
    refine wp_elim (hbody A env ρi μ₃ _ { s with heap := h₃, toks := tk₃ } hA hF (Ci.mono F₃ R₃) q₃) (fun f ρ₆ μ₆ h₆ tk₆ hf R₆ F₆ E₆ q₆ => ?_) (fun y' u ρ₆ μ₆ h₆ tk₆ rel R₆ F₆ E₆ q₆ => ⟨.ret u, ρ₆, μ₆, h₆, tk₆, rfl, rel, R₆, Fi.trans (F₃.e.trans F₆), E₆, q₆⟩)
    have nx : ∃ n', n' < k ∧ Inv n' { s with heap := h₆, toks := tk₆ } := by
      obtain ⟨n', hn', hj'⟩ : ∃ n', n' < k ∧ J n' ρ₆ μ₆ := by rcases hf with rfl | rfl <;> exact q₆
      exact ⟨n', hn', (hInv _ _).mpr ⟨ρ₆, μ₆, h₆, tk₆, rfl, E₆, R₆, Fi.trans (F₃.e.trans F₆), hj'⟩⟩
    exact ⟨fun _ => nx, fun _ => nx⟩

theorem endC_use {A : Around} {env : Env} {ρ : Rho} {μ : Mu} {s : Shared} {Q : QS} {x : X} {p : Pos} {D L : Nat} {r : Result} {s' : Shared} (hF : EnvFits sc env) (C : Cs prog w h₀ env ρ μ s.heap) (hb : canBind sc x = true)
    (z : EndC prog w s μ (fun v μ₁ => Q .next (bnd ρ x v) μ₁) D L r s') : compPost (model prog w) A Nv (some (assign (.Name x.nm p) env)) (fun _ s' => PstS prog w env s μ Q .next s') (.ref D) L r s' := by
  cases r with
  | error _ => exact z.elim
  | ok f =>
    obtain ⟨acc, its, nn, μ₅, h₅, tk, m, rfl, hD, hl, R, F, oD, nD, hn, nL, oL, hne, q⟩ := z
    have R₆ : HR prog w (upd μ₅ D (.list acc)) h₅ := R.add oD ⟨its, nn, hD, hl⟩
    have F₆ : Fm μ s.heap (upd μ₅ D (.list acc)) h₅ := F.add nD
    have nO : ¬ Own env L := not_own C.cx.env nL
    have oL₆ : upd μ₅ D (.list acc) L = Option.none := (upd_ne _ _ (Ne.symm hne)).trans oL
    refine PySem.wpAny_assign_Name (store_s (s := { s with heap := h₅, toks := tk }) (v := .ref D) hF (C.mono F₆ R₆) hb rfl fun h' tk' C' F' => ⟨m, hn.at' fun o e => (F' L o nO e (mutb_none oL₆)).1, fun h'' hs'' => ?_⟩)
    have F₇ := F₆.e.trans F'
    refine ⟨.next, _, _, h'', tk', rfl, trivial, C'.cx.hr.but oL₆ fun b o hb e => (hs''.2 b hb).trans e, fun b o nb e m => ?_, C'.cx.env.atOwn (fun b o ob e => (hs''.2 b fun r => nO (r ▸ ob)).trans e) (fun b ob => (C'.cx.env.own ob).1), q D oD⟩
    have hbL : b ≠ L := fun r => by subst r; have := nL _ e; rw [m] at this; cases this
    exact ⟨(hs''.2 b hbL).trans (F₇ b o nb e m).1, (F₇ b o nb e m).2⟩

theorem ss_assignC {x : X} {elt : ME} {y z : X} {it it2 : MI} {elt' iter iter2 : PySem.Expr} (p p1 p2 cpos pos : Pos) (hk : kindIs sc x.nm .local = true) (hline : (p.line == cpos.line) = true) (hno : (inner.names.any fun (n, k) => n == x.nm && (k == .local || k == .cell)) = false)
    (hxl : kindIs inner y.nm .local = true) (hyl : kindIs inner z.nm .local = true) (hs : scopeOk sc inner = true) (hx : onlyLocals inner [y.nm, z.nm] = true)
    (hit : SI prog w h₀ n Φ sc it iter) (hit2 : SI prog w h₀ n Φ inner it2 iter2) (he : SE prog w h₀ n Φ inner elt elt') :
    SS prog w h₀ n Φ sc (.assignC x (.comp2 elt y it z it2)) (.Assign [.Name x.nm p] (.ListComp elt' [⟨.Name y.nm p1, iter, [], 0⟩, ⟨.Name z.nm p2, iter2, [], 0⟩] inner cpos) pos) := fun A env ρ μ Q s hA hF C h => by
  have hsw : swapsWith (.ListComp elt' [⟨.Name y.nm p1, iter, [], 0⟩, ⟨.Name z.nm p2, iter2, [], 0⟩] inner cpos) (some (.Name x.nm p)) pos.line env = pure true := by
    have hbk : env.blockKind = .function := by unfold Env.blockKind; rw [hF.kind]; rfl
    have hkl := hF.loc _ (show sc.names.lookup x.nm = some .local by simpa [kindIs] using hk)
    show (pure (env.blockKind == .function && env.kindOf x.nm == some .local && p.line == cpos.line && !(inner.names.any fun (n, k) => n == x.nm && (k == .local || k == .cell))) : Sem Bool) = pure true
    rw [hbk, hkl, hline, hno]; rfl
  rw [exec_Assign_Name_used _ _ _ _ hsw]
  refine wpAny_bind (wpAny_standAt (wpAny_bind ?_))
  show wpAny _ A (do let _ ← comprehension (.ListComp elt' [⟨.Name y.nm p1, iter, [], 0⟩, ⟨.Name z.nm p2, iter2, [], 0⟩] inner cpos) inner env iter.pos (newList []) false (eval iter env) (some (assign (.Name x.nm p) env))) _ _ s
  refine wpAny_bind (wpAny_mono (comp2_gen (QQ := fun _ s' => PstS prog w env s μ Q .next s') p1 p2 cpos hxl hyl hs hx hit hit2 he (fun D L r s' z => endC_use hF C (by simp [canBind, hk]) z) hA hF C.cx h) (fun _ s' hq => wpAny_pure (wpAny_pure hq)) fun _ _ e => e)
end
end Mine

end PartML15

section PartML16
open PySem PySem.W PyProof.Rows
set_option linter.unusedVariables false
set_option linter.unusedSimpArgs false
set_option maxRecDepth 100000
namespace Mine

noncomputable def plainV : PySem.Expr → Bool
  | .Name .. => true
  | .Call .. => true
  | _ => false
theorem plain_unswapped {ts : List PySem.Expr} {k : Nat} {p : Pos} {v : PySem.Expr} (h : plainV v = true) (env : Env) : swappedStores [.Tuple ts k p] v env = pure Option.none := by
  cases v <;> first | rfl | (cases h; done)
theorem plain_notComp {v : PySem.Expr} (h : plainV v = true) : notComp v = true := by
  cases v <;> first | rfl | (cases h; done)

noncomputable abbrev SX := PySem.Stmt
abbrev KS := (List EX × EX × Pos) ⊕ (EX × Pos) ⊕ (EX × List SX × List SX × Pos) ⊕ (EX × EX × List SX × List SX × Pos) ⊕ (EX × List SX × List SX × Pos) ⊕ (Option EX × Pos) ⊕ (Pos)
noncomputable def bS : KS → SX := (Sum.elim (fun q => PySem.Stmt.Assign q.1 q.2.1 q.2.2) (Sum.elim (fun q => PySem.Stmt.Expr q.1 q.2) (Sum.elim (fun q => PySem.Stmt.If q.1 q.2.1 q.2.2.1 q.2.2.2) (Sum.elim (fun q => PySem.Stmt.For q.1 q.2.1 q.2.2.1 q.2.2.2.1 q.2.2.2.2) (Sum.elim (fun q => PySem.Stmt.While q.1 q.2.1 q.2.2.1 q.2.2.2) (Sum.elim (fun q => PySem.Stmt.Return q.1 q.2) (fun q => PySem.Stmt.Continue q)))))))
noncomputable def viewS (x : SX) : Option {q : KS // x = bS q} := match x with
  | .Assign a b c => some ⟨(.inl (a, b, c)), rfl⟩
  | .Expr a b => some ⟨(.inr (.inl (a, b))), rfl⟩
  | .If a b c d => some ⟨(.inr (.inr (.inl (a, b, c, d)))), rfl⟩
  | .For a b c d e => some ⟨(.inr (.inr (.inr (.inl (a, b, c, d, e))))), rfl⟩
  | .While a b c d => some ⟨(.inr (.inr (.inr (.inr (.inl (a, b, c, d)))))), rfl⟩
  | .Return a b => some ⟨(.inr (.inr (.inr (.inr (.inr (.inl (a, b))))))), rfl⟩
  | .Continue a => some ⟨(.inr (.inr (.inr (.inr (.inr (.inr a)))))), rfl⟩
  | _ => Option.none
noncomputable def dAsg0 (x : SX) : Option {q : List EX × EX × Pos // x = .Assign q.1 q.2.1 q.2.2} := (getL (viewS x))
noncomputable def dAsg (x : SX) : Option {q : EX × EX × Pos // x = .Assign [q.1] q.2.1 q.2.2} := dBind (dAsg0 x) fun a ha => dBind (d1 a.1) fun c hc => some ⟨(c, a.2), by rw [ha, hc]⟩
noncomputable def dExpr (x : SX) : Option {q : EX × Pos // x = .Expr q.1 q.2} := (getL (getR (viewS x)))
noncomputable def dIte (x : SX) : Option {q : EX × List SX × List SX × Pos // x = .If q.1 q.2.1 q.2.2.1 q.2.2.2} := (getL (getR (getR (viewS x))))
noncomputable def dFor0 (x : SX) : Option {q : EX × EX × List SX × List SX × Pos // x = .For q.1 q.2.1 q.2.2.1 q.2.2.2.1 q.2.2.2.2} := (getL (getR (getR (getR (viewS x)))))
noncomputable def dFor (x : SX) : Option {q : EX × EX × List SX × Pos // x = .For q.1 q.2.1 q.2.2.1 [] q.2.2.2} := dBind (dFor0 x) fun a ha => match a, ha with | (t, i, b, [], p), ha => some ⟨(t, i, b, p), ha⟩ | _, _ => Option.none
noncomputable def dWhile0 (x : SX) : Option {q : EX × List SX × List SX × Pos // x = .While q.1 q.2.1 q.2.2.1 q.2.2.2} := (getL (getR (getR (getR (getR (viewS x))))))
noncomputable def dWhile (x : SX) : Option {q : EX × List SX × Pos // x = .While q.1 q.2.1 [] q.2.2} := dBind (dWhile0 x) fun a ha => match a, ha with | (c, b, [], p), ha => some ⟨(c, b, p), ha⟩ | _, _ => Option.none
noncomputable def dRet0 (x : SX) : Option {q : Option EX × Pos // x = .Return q.1 q.2} := (getL (getR (getR (getR (getR (getR (viewS x)))))))
noncomputable def dRet (x : SX) : Option {q : EX × Pos // x = .Return (some q.1) q.2} := dBind (dRet0 x) fun a ha => match a, ha with | (some e, p), ha => some ⟨(e, p), ha⟩ | _, _ => Option.none
noncomputable def dCont (x : SX) : Option {q : Pos // x = .Continue q} := (getR (getR (getR (getR (getR (getR (viewS x)))))))
noncomputable def dAsgN (x : SX) (n : Str) : Option {q : Pos × EX × Pos // x = .Assign [.Name n q.1] q.2.1 q.2.2} :=
  dBind (dAsg x) fun a ha => dBind (dName a.1 n) fun c hc => some ⟨(c, a.2.1, a.2.2), ha.trans (congrArg (fun y => PySem.Stmt.Assign [y] a.2.1 a.2.2) hc)⟩
noncomputable def dAsgC (x : SX) (n m1 m2 : Str) : Option {q : Pos × (EX × (Pos × EX) × (Pos × EX) × Scope × Pos) × Pos // x = .Assign [.Name n q.1] (.ListComp q.2.1.1 [⟨.Name m1 q.2.1.2.1.1, q.2.1.2.1.2, [], 0⟩, ⟨.Name m2 q.2.1.2.2.1.1, q.2.1.2.2.1.2, [], 0⟩] q.2.1.2.2.2.1 q.2.1.2.2.2.2) q.2.2} :=
  dBind (dAsgN x n) fun a ha => dBind (dComp2 a.2.1 m1 m2) fun c hc => some ⟨(a.1, c, a.2.2), ha.trans (congrArg (fun y => PySem.Stmt.Assign [.Name n a.1] y a.2.2) hc)⟩
noncomputable def dAsgT (x : SX) : Option {q : (List EX × Nat × Pos) × EX × Pos // x = .Assign [.Tuple q.1.1 q.1.2.1 q.1.2.2] q.2.1 q.2.2} :=
  dBind (dAsg x) fun a ha => dBind (dTuple a.1) fun c hc => some ⟨(c, a.2.1, a.2.2), ha.trans (congrArg (fun y => PySem.Stmt.Assign [y] a.2.1 a.2.2) hc)⟩
noncomputable def dAsgTT (x : SX) : Option {q : (List EX × Nat × Pos) × (List EX × Nat × Pos) × Pos // x = .Assign [.Tuple q.1.1 q.1.2.1 q.1.2.2] (.Tuple q.2.1.1 q.2.1.2.1 q.2.1.2.2) q.2.2} :=
  dBind (dAsgT x) fun a ha => dBind (dTuple a.2.1) fun c hc => some ⟨(a.1, c, a.2.2), ha.trans (congrArg (fun y => PySem.Stmt.Assign [.Tuple a.1.1 a.1.2.1 a.1.2.2] y a.2.2) hc)⟩
noncomputable def dAsgS (x : SX) : Option {q : (EX × EX × Pos) × EX × Pos // x = .Assign [.Subscript q.1.1 q.1.2.1 q.1.2.2] q.2.1 q.2.2} :=
  dBind (dAsg x) fun a ha => dBind (dSub a.1) fun c hc => some ⟨(c, a.2.1, a.2.2), ha.trans (congrArg (fun y => PySem.Stmt.Assign [y] a.2.1 a.2.2) hc)⟩
noncomputable def dSwap (x : SX) : Option {q : ((EX × EX × Pos) × (EX × EX × Pos) × Nat × Pos) × (List EX × Nat × Pos) × Pos //
    x = .Assign [.Tuple [.Subscript q.1.1.1 q.1.1.2.1 q.1.1.2.2, .Subscript q.1.2.1.1 q.1.2.1.2.1 q.1.2.1.2.2] q.1.2.2.1 q.1.2.2.2] (.Tuple q.2.1.1 q.2.1.2.1 q.2.1.2.2) q.2.2} :=
  dBind (dAsgTT x) fun a ha => dBind (d2 a.1.1) fun c hc => dBind (dSub c.1) fun u hu => dBind (dSub c.2) fun v hv =>
    some ⟨((u, v, a.1.2.1, a.1.2.2), a.2.1, a.2.2), ha.trans (congrArg (fun y => PySem.Stmt.Assign [.Tuple y a.1.2.1 a.1.2.2] (.Tuple a.2.1.1 a.2.1.2.1 a.2.1.2.2) a.2.2) (hc.trans (two hu hv)))⟩
noncomputable def dExC (x : SX) : Option {q : (EX × List EX × List Keyword × Pos) × Pos // x = .Expr (.Call q.1.1 q.1.2.1 q.1.2.2.1 q.1.2.2.2) q.2} :=
  dBind (dExpr x) fun a ha => dBind (dCall a.1) fun c hc => some ⟨(c, a.2), ha.trans (congrArg (fun y => PySem.Stmt.Expr y a.2) hc)⟩
noncomputable def dApp (x : SX) : Option {q : (EX × Pos × EX × Pos) × Pos // x = .Expr (.Call (.Attribute q.1.1 "append" q.1.2.1) [q.1.2.2.1] [] q.1.2.2.2) q.2} :=
  dBind (dExpr x) fun a ha => dBind (dCallA a.1 "append") fun c hc => dBind (d1 c.2.2.1) fun e he => some ⟨((c.1, c.2.1, e, c.2.2.2), a.2), ha.trans (congrArg (fun y => PySem.Stmt.Expr y a.2) (hc.trans (congrArg (fun y => PySem.Expr.Call (.Attribute c.1 "append" c.2.1) y [] c.2.2.2) he)))⟩
noncomputable def dForN (x : SX) (n : Str) : Option {q : Pos × EX × List SX × Pos // x = .For (.Name n q.1) q.2.1 q.2.2.1 [] q.2.2.2} :=
  dBind (dFor x) fun a ha => dBind (dName a.1 n) fun c hc => some ⟨(c, a.2), ha.trans (congrArg (fun y => PySem.Stmt.For y a.2.1 a.2.2.1 [] a.2.2.2) hc)⟩
noncomputable def asComp2 (e : ME) : Option {q : ME × X × MI × X × MI // e = .comp2 q.1 q.2.1 q.2.2.1 q.2.2.2.1 q.2.2.2.2} := match e with | .comp2 a b c d f => some ⟨(a, b, c, d, f), rfl⟩ | _ => Option.none

mutual
noncomputable def ckS (sc : Scope) : MS → SX → Bool
  | .assign x e, s => (dAsgN s x.nm).any fun q => canBind sc x && ((notComp q.1.2.1 || kindIs sc x.nm .cell) && ckE sc e q.1.2.1)
  | .assignC x e, s => (asComp2 e).any fun u => (dAsgC s x.nm u.1.2.1.nm u.1.2.2.2.1.nm).any fun q => (kindIs sc x.nm .local && (q.1.1.line == q.1.2.1.2.2.2.2.line && !(q.1.2.1.2.2.2.1.names.any fun (n, k) => n == x.nm && (k == .local || k == .cell)))) &&
      ((kindIs q.1.2.1.2.2.2.1 u.1.2.1.nm .local && kindIs q.1.2.1.2.2.2.1 u.1.2.2.2.1.nm .local) && ((scopeOk sc q.1.2.1.2.2.2.1 && onlyLocals q.1.2.1.2.2.2.1 [u.1.2.1.nm, u.1.2.2.2.1.nm]) &&
      (ckI sc u.1.2.2.1 q.1.2.1.2.1.2 && (ckI q.1.2.1.2.2.2.1 u.1.2.2.2.2 q.1.2.1.2.2.1.2 && ckE q.1.2.1.2.2.2.1 u.1.1 q.1.2.1.1))))
  | .tup xs es, s => (dAsgTT s).any fun q => tsLoc sc ((q.1.1.1.head?.map (·.pos.line)).getD 0) xs q.1.1.1 && ((xs.length == 2 || xs.length == 3) && (q.1.2.1.1.length == xs.length && (ckEs sc es q.1.2.1.1 &&
      (((xs.map X.nm).eraseDups.length == xs.length) && (!(q.1.2.1.1.all (foldedForSure 8)) && !(q.1.2.1.1.all (constantsAlone 8)))))))
  | .unpack xs e, s => (dAsgT s).any fun q => tsAre sc xs q.1.1.1 && (plainV q.1.2.1 && ckE sc e q.1.2.1)
  | .store o i e, s => (dAsgS s).any fun q => ckE sc o q.1.1.1 && (ckE sc i q.1.1.2.1 && ckE sc e q.1.2.1)
  | .swap o i p j es, s => (dSwap s).any fun q => ckE sc o q.1.1.1.1 && (ckE sc i q.1.1.1.2.1 && (ckE sc p q.1.1.2.1.1 && (ckE sc j q.1.1.2.1.2.1 && ckEs sc es q.1.2.1.1)))
  | .expr e, s => (dExC s).any fun q => ckE sc e (.Call q.1.1.1 q.1.1.2.1 q.1.1.2.2.1 q.1.1.2.2.2)
  | .append o e, s => (dApp s).any fun q => methodAt q.1.1.1 q.1.1.2.1 q.1.1.2.2.2 && (ckE sc o q.1.1.1 && ckE sc e q.1.1.2.2.1)
  | .ite c b o, s => (dIte s).any fun q => ckT sc c q.1.1 && (ckSs sc b q.1.2.1 && ckSs sc o q.1.2.2.1)
  | .for_ x it b, s => (dForN s x.nm).any fun q => canBind sc x && (ckI sc it q.1.2.1 && ckSs sc b q.1.2.2.1)
  | .while_ c b, s => (dWhile s).any fun q => ckT sc c q.1.1 && ckSs sc b q.1.2.1
  | .ret e, s => (dRet s).any fun q => ckE sc e q.1.1
  | .cont, s => (dCont s).any fun _ => true
noncomputable def ckSs (sc : Scope) : MSs → List SX → Bool
  | .nil, xs => xs.isEmpty
  | .cons st r, xs => match xs with
    | [] => false
    | x :: xs => ckS sc st x && ckSs sc r xs
end

section
variable {prog : Program} {w : World} {h₀ : Heap} {n : Nat} {Φ : Phi} {sc inner : Scope} {mg mb : Str → Option Value} {fa : Fn → Addr}
theorem toSS {e : MS} {sc : Scope} {x y : SX} (h : x = y) (s : SS prog w h₀ n Φ sc e y) : SS prog w h₀ n Φ sc e x := h ▸ s
theorem toSSa {e e' : MS} {sc : Scope} {x : SX} (h : e = e') (s : SS prog w h₀ n Φ sc e' x) : SS prog w h₀ n Φ sc e x := h ▸ s
theorem bO {a b : Bool} (h : (a || b) = true) : a = true ∨ b = true := match a, h with
  | true, _ => .inl rfl
  | false, h => .inr h
mutual
theorem sndS (G : Gl h₀ mg mb fa) (P : PhiOk prog w h₀ fa n Φ) : ∀ (st : MS) (x : PySem.Stmt), ckS sc st x = true → SS prog w h₀ n Φ sc st x
  | .assign y e, x, h => anyC (o := dAsgN x y.nm) h fun q h => toSS q.2 (ss_assign _ _ (b1 h) (bO (b1 (b2 h))) (sndE G P _ _ _ (b2 (b2 h))))
  | .assignC y e, x, h => anyC (o := asComp2 e) h fun u h => anyC (o := dAsgC x y.nm u.1.2.1.nm u.1.2.2.2.1.nm) h fun q h => toSS q.2 (toSSa (congrArg (MS.assignC y) u.2) (ss_assignC _ _ _ _ _ (b1 (b1 h)) (b1 (b2 (b1 h))) (bN (b2 (b2 (b1 h)))) (b1 (b1 (b2 h))) (b2 (b1 (b2 h))) (b1 (b1 (b2 (b2 h)))) (b2 (b1 (b2 (b2 h))))
      (sndI G P _ _ _ (b1 (b2 (b2 (b2 h))))) (sndI G P _ _ _ (b1 (b2 (b2 (b2 (b2 h)))))) (sndE G P _ _ _ (b2 (b2 (b2 (b2 (b2 h))))))))
  | .tup xs es, x, h => anyC (o := dAsgTT x) h fun q h => toSS q.2 (ss_tup _ (b1 h) (b1 (b2 h)) (eq_of_beq (b1 (b2 (b2 h)))) (b1 (b2 (b2 (b2 h)))) (b1 (b2 (b2 (b2 (b2 h))))) (bN (b1 (b2 (b2 (b2 (b2 (b2 h))))))) (bN (b2 (b2 (b2 (b2 (b2 (b2 h))))))) (sndEs G P _ _ _ (b1 (b2 (b2 (b2 h))))))
  | .unpack xs e, x, h => anyC (o := dAsgT x) h fun q h => toSS q.2 (ss_unpack _ _ _ (b1 h) (plain_notComp (b1 (b2 h))) (plain_unswapped (b1 (b2 h))) (sndE G P _ _ _ (b2 (b2 h))))
  | .store o i e, x, h => anyC (o := dAsgS x) h fun q h => toSS q.2 (ss_store _ _ (sndE G P _ _ _ (b1 h)) (sndE G P _ _ _ (b1 (b2 h))) (sndE G P _ _ _ (b2 (b2 h))))
  | .swap o i p j es, x, h => anyC (o := dSwap x) h fun q h => toSS q.2 (ss_swap _ (sndE G P _ _ _ (b1 h)) (sndE G P _ _ _ (b1 (b2 h))) (sndE G P _ _ _ (b1 (b2 (b2 h)))) (sndE G P _ _ _ (b1 (b2 (b2 (b2 h))))) (sndEs G P _ _ _ (b2 (b2 (b2 (b2 h))))))
  | .expr e, x, h => anyC (o := dExC x) h fun q h => toSS q.2 (ss_expr _ (sndE G P _ _ _ h))
  | .append o e, x, h => anyC (o := dApp x) h fun q h => toSS q.2 (ss_append _ _ _ (b1 h) (star1 (b2 (b2 h))) (sndE G P _ _ _ (b1 (b2 h))) (sndE G P _ _ _ (b2 (b2 h))))
  | .ite c b o, x, h => anyC (o := dIte x) h fun q h => toSS q.2 (ss_ite _ (sndT G P _ _ _ (b1 h)) (sndSs G P b _ (b1 (b2 h))) (sndSs G P o _ (b2 (b2 h))))
  | .for_ y it b, x, h => anyC (o := dForN x y.nm) h fun q h => toSS q.2 (ss_for _ _ (b1 h) (sndI G P _ _ _ (b1 (b2 h))) (sndSs G P b _ (b2 (b2 h))))
  | .while_ c b, x, h => anyC (o := dWhile x) h fun q h => toSS q.2 (ss_while _ (sndT G P _ _ _ (b1 h)) (sndSs G P b _ (b2 h)))
  | .ret e, x, h => anyC (o := dRet x) h fun q h => toSS q.2 (ss_ret _ (sndE G P _ _ _ h))
  | .cont, x, h => anyC (o := dCont x) h fun q h => toSS q.2 (ss_cont _)
theorem sndSs (G : Gl h₀ mg mb fa) (P : PhiOk prog w h₀ fa n Φ) : ∀ (st : MSs) (xs : List PySem.Stmt), ckSs sc st xs = true → SSs prog w h₀ n Φ sc st xs
  | .nil, xs, h => by
    cases xs with
    | nil => exact ss_nil
    | cons _ _ => cases h
  | .cons st r, xs, h => by
    cases xs with
    | nil => cases h
    | cons x xs => exact ss_cons (sndS G P st x (b1 h)) (sndSs G P r xs (b2 h))
end
end
end Mine

end PartML16

section PartML17
open PySem PySem.W PyProof.Rows
set_option linter.unusedVariables false
set_option linter.unusedSimpArgs false
set_option maxRecDepth 100000
namespace Mine

/-! the bodies of the text's functions, in the small language -/
noncomputable abbrev esL : List ME → MEs
  | [] => .nil
  | e :: r => .cons e (esL r)
noncomputable abbrev ssL : List MS → MSs
  | [] => .nil
  | e :: r => .cons e (ssL r)
noncomputable abbrev vr (x : X) : ME := .var x
noncomputable abbrev ix2 (a b c : ME) : ME := .sub (.sub a b) c

noncomputable def bodyUnitRows : MSs := ssL [.ret (.comp (.comp (.ite (.cmp .eq (vr .row) (vr .column)) (.int 1) (.int 0)) .column (.range1 (vr .n)) .no) .row (.range1 (vr .n)) .no)]
noncomputable def bodyLeastSpot : MSs := ssL [
  .assign .found .none,
  .for_ .row (.range2 (vr .step) (.len (vr .a))) (ssL [
    .for_ .column (.range2 (vr .step) (vr .width)) (ssL [
      .assign .size (.abs (ix2 (vr .a) (vr .row) (vr .column))),
      .ite (.and (.cmp .gt (vr .size) (.int 0)) (.or (.cmp .isNone (vr .found) .none) (.cmp .lt (vr .size) (.abs (ix2 (vr .a) (.sub (vr .found) (.int 0)) (.sub (vr .found) (.int 1)))))))
        (ssL [.assign .found (.tuple (esL [vr .row, vr .column]))]) .nil])]),
  .ret (vr .found)]
noncomputable def bodySwapColumns : MSs := ssL [
  .for_ .row (.val (vr .a)) (ssL [.swap (vr .row) (vr .one) (vr .row) (vr .other) (esL [.sub (vr .row) (vr .other), .sub (vr .row) (vr .one)])])]
noncomputable def bodyBring : MSs := ssL [
  .unpack [.row, .column] (vr .spot),
  .for_ .a (.val (.tuple (esL [vr .s, vr .u]))) (ssL [.swap (vr .a) (vr .row) (vr .a) (vr .step) (esL [.sub (vr .a) (vr .step), .sub (vr .a) (vr .row)])]),
  .for_ .a (.val (.tuple (esL [vr .s, vr .v]))) (ssL [.expr (.call .swapColumns (esL [vr .a, vr .column, vr .step]))])]
noncomputable def bodyClearCross : MSs := ssL [
  .tup [.lead, .isDone] (esL [ix2 (vr .s) (vr .step) (vr .step), .bool true]),
  .for_ .row (.range2 (.bin .add (vr .step) (.int 1)) (.len (vr .s))) (ssL [
    .assign .many (.bin .fdiv (ix2 (vr .s) (vr .row) (vr .step)) (vr .lead)),
    .for_ .a (.val (.tuple (esL [vr .s, vr .u]))) (ssL [
      .store (vr .a) (vr .row) (.compE (.bin .sub (vr .one) (.bin .mul (vr .many) (ix2 (vr .a) (vr .step) (vr .at_)))) .at_ .one (.sub (vr .a) (vr .row)) .no)]),
    .assign .isDone (.andc (vr .isDone) .eq (ix2 (vr .s) (vr .row) (vr .step)) (.int 0))]),
  .for_ .column (.range2 (.bin .add (vr .step) (.int 1)) (vr .width)) (ssL [
    .assign .many (.bin .fdiv (ix2 (vr .s) (vr .step) (vr .column)) (vr .lead)),
    .for_ .a (.val (.tuple (esL [vr .s, vr .v]))) (ssL [
      .for_ .row (.val (vr .a)) (ssL [
        .store (vr .row) (vr .column) (.bin .sub (.sub (vr .row) (vr .column)) (.bin .mul (vr .many) (.sub (vr .row) (vr .step))))])]),
    .assign .isDone (.andc (vr .isDone) .eq (ix2 (vr .s) (vr .step) (vr .column)) (.int 0))]),
  .ret (vr .isDone)]
noncomputable def bodyUndividedRow : MSs := ssL [
  .for_ .row (.range2 (.bin .add (vr .step) (.int 1)) (.len (vr .s))) (ssL [
    .ite (.cmp .ne (.comp (.int 1) .column (.range2 (.bin .add (vr .step) (.int 1)) (vr .width)) (.yes (.cmp .ne (.bin .mod (ix2 (vr .s) (vr .row) (vr .column)) (ix2 (vr .s) (vr .step) (vr .step))) (.int 0)))) (.list .nil))
      (ssL [.ret (vr .row)]) .nil]),
  .ret .none]
noncomputable def bodySmithForm : MSs := ssL [
  .tup [.s, .u, .v] (esL [.comp (.toList (vr .row)) .row (.val (vr .a)) .no, .call .unitRows (esL [.len (vr .a)]), .call .unitRows (esL [vr .width])]),
  .assign .step (.int 0),
  .while_ (.cmp .lt (vr .step) (.min (.len (vr .s)) (vr .width))) (ssL [
    .assign .spot (.call .leastSpot (esL [vr .s, vr .step, vr .width])),
    .ite (.cmp .isNone (vr .spot) .none) (ssL [.ret (.tuple (esL [vr .s, vr .u, vr .v]))]) .nil,
    .expr (.call .bring (esL [vr .s, vr .u, vr .v, vr .spot, vr .step])),
    .ite (.not (.truth (.call .clearCross (esL [vr .s, vr .u, vr .v, vr .step, vr .width])))) (ssL [.cont]) .nil,
    .assign .row (.call .undividedRow (esL [vr .s, vr .step, vr .width])),
    .ite (.cmp .isNotNone (vr .row) .none) (ssL [
      .for_ .b (.val (.tuple (esL [vr .s, vr .u]))) (ssL [
        .store (vr .b) (vr .step) (.compE (.bin .add (vr .one) (ix2 (vr .b) (vr .row) (vr .at_))) .at_ .one (.sub (vr .b) (vr .step)) .no)]),
      .cont]) .nil,
    .ite (.cmp .lt (ix2 (vr .s) (vr .step) (vr .step)) (.int 0)) (ssL [
      .for_ .b (.val (.tuple (esL [vr .s, vr .u]))) (ssL [
        .store (vr .b) (vr .step) (.comp (.neg (vr .one)) .one (.val (.sub (vr .b) (vr .step))) .no)])]) .nil,
    .assign .step (.bin .add (vr .step) (.int 1))]),
  .ret (.tuple (esL [vr .s, vr .u, vr .v]))]
noncomputable def bodyDiagonal : MSs := ssL [.ret (.comp (ix2 (vr .s) (vr .at_) (vr .at_)) .at_ (.range1 (.min (.len (vr .s)) (vr .width))) .no)]
noncomputable def bodyTake : MSs := ssL [
  .store (vr .box) (.int 1) (.bin .add (.sub (vr .box) (.int 1)) (.int 1)),
  .ite (.cmp .ne (.sub (vr .box) (.int 0)) (.list .nil)) (ssL [.ret (.bin .mod (.pop0 (.sub (vr .box) (.int 0))) (vr .many))]) .nil,
  .ret (.bin .mod (.bin .add (.bin .mul (.int 5) (.sub (vr .box) (.int 1))) (.bin .fdiv (.sub (vr .box) (.int 1)) (.int 3))) (vr .many))]
noncomputable def bodyCommon : MSs := ssL [
  .tup [.a, .b] (esL [.abs (vr .a), .abs (vr .b)]),
  .while_ (.cmp .gt (vr .b) (.int 0)) (ssL [.tup [.a, .b] (esL [vr .b, .bin .mod (vr .a) (vr .b)])]),
  .ret (vr .a)]
noncomputable def bodyColumns : MSs := ssL [
  .assign .found (.list (esL [.list .nil])),
  .for_ .turn (.range1 (vr .many)) (ssL [.assignC .found (.comp2 (.bin .add (vr .row) (.list (esL [vr .one]))) .row (.val (vr .found)) .one (.range1 (vr .m)))]),
  .ret (vr .found)]
noncomputable def bodyImage : MSs := ssL [
  .ret (.toTuple (.comp (.bin .mod (.sum (.compE (.bin .mul (vr .one) (.sub (vr .column) (vr .at_))) .at_ .one (vr .row) .no)) (vr .m)) .row (.val (vr .a)) .no))]
noncomputable def takeN (k : Int) : ME := .call .lawTake (esL [vr .box, .int k])
noncomputable def bodyLaw : MSs := ssL [
  .assign .box (.list (esL [.comp (.toInt (vr .one)) .one (.val (.slice (vr .script) 15)) .no, .int 0])),
  .assign .width (.bin .sub (.int 3) (takeN 2)),
  .assign .m (.ite (.cmp .eq (vr .width) (.int 2)) (.bin .sub (.int 6) (takeN 5)) (.bin .sub (.int 3) (takeN 2))),
  .tup [.many, .a] (esL [.bin .add (.int 1) (takeN 3), .list .nil]),
  .for_ .turn (.range1 (vr .many)) (ssL [
    .assign .factor (.bin .add (.int 1) (takeN 3)),
    .append (vr .a) (.comp (.bin .mul (vr .factor) (.bin .sub (takeN 7) (.int 3))) .place (.range1 (vr .width)) .no)]),
  .assign .told .dict,
  .for_ .column (.val (.call .lawColumns (esL [vr .width, vr .m]))) (ssL [
    .assign .right (.call .lawImage (esL [vr .a, vr .column, vr .m])),
    .store (vr .told) (vr .right) (.bin .add (.get (vr .told) (vr .right) (.int 0)) (.int 1))]),
  .unpack [.form, .changes, .others] (.call .smithForm (esL [vr .a, vr .width])),
  .assign .commons (.comp (.call .lawCommon (esL [vr .one, vr .m])) .one (.val (.call .diagonal (esL [vr .form, vr .width]))) .no),
  .assign .nought (.bin .pow (vr .m) (.bin .sub (vr .width) (.len (vr .commons)))),
  .for_ .one (.val (vr .commons)) (ssL [.assign .nought (.bin .mul (vr .nought) (vr .one))]),
  .ite (.or (.cmp .ne (.sub (vr .told) (.bin .mul (.tuple (esL [.int 0])) (vr .many))) (vr .nought)) (.cmp .ne (.bin .mul (.len (vr .told)) (vr .nought)) (.bin .pow (vr .m) (vr .width)))) (ssL [.ret (.bool false)]) .nil,
  .assign .commons (.bin .add (vr .commons) (.bin .mul (.list (esL [vr .m])) (.bin .sub (vr .many) (.len (vr .commons))))),
  .for_ .right (.val (.call .lawColumns (esL [vr .many, vr .m]))) (ssL [
    .assign .turned (.call .lawImage (esL [vr .changes, vr .right, vr .m])),
    .assign .due (.ite (.cmp .eq (.compE (.int 1) .at_ .one (vr .turned) (.yes (.cmp .ne (.bin .mod (vr .one) (.sub (vr .commons) (vr .at_))) (.int 0)))) (.list .nil)) (vr .nought) (.int 0)),
    .ite (.cmp .ne (.get (vr .told) (.toTuple (vr .right)) (.int 0)) (vr .due)) (ssL [.ret (.bool false)]) .nil]),
  .ret (.bool true)]

noncomputable def paramsOf : Fn → List X
  | .unitRows => [.n]
  | .leastSpot => [.a, .step, .width]
  | .swapColumns => [.a, .one, .other]
  | .bring => [.s, .u, .v, .spot, .step]
  | .clearCross => [.s, .u, .v, .step, .width]
  | .undividedRow => [.s, .step, .width]
  | .smithForm => [.a, .width]
  | .diagonal => [.s, .width]
  | .lawTake => [.box, .many]
  | .lawCommon => [.a, .b]
  | .lawColumns => [.many, .m]
  | .lawImage => [.a, .column, .m]
noncomputable def bodyOf : Fn → MSs
  | .unitRows => bodyUnitRows
  | .leastSpot => bodyLeastSpot
  | .swapColumns => bodySwapColumns
  | .bring => bodyBring
  | .clearCross => bodyClearCross
  | .undividedRow => bodyUndividedRow
  | .smithForm => bodySmithForm
  | .diagonal => bodyDiagonal
  | .lawTake => bodyTake
  | .lawCommon => bodyCommon
  | .lawColumns => bodyColumns
  | .lawImage => bodyImage

noncomputable def none0 : Rho := fun _ => Option.none
noncomputable def retQ (Q : QV) : QS := fun f _ μ => match f with
  | .ret v => Q v μ
  | .next => Q .none μ
  | .cont => False
/-- what a call of depth k answers -/
noncomputable def Phk : Nat → Phi
  | 0 => fun _ _ _ _ => False
  | k + 1 => fun f args μ Q => args.length = (paramsOf f).length ∧ wpSs (Phk k) (bodyOf f) (bndL none0 (paramsOf f) args) μ (retQ Q)

/-! the frame of a call -/
noncomputable def fnScope (sc : Scope) (xs : List X) : Bool := sc.kind == .function && sc.names.all (fun (n, k) => sc.names.lookup n == some k && k != .free) && xs.all (fun x => canBind sc x) && !sc.isCoroutine && !sc.isGenerator

section
variable {prog : Program} {w : World} {h₀ : Heap}

theorem fits_fn {sc : Scope} {xs : List X} {env : Env} {L : Nat} (h : fnScope sc xs = true) (e1 : env.scope = sc) (e2 : env.globals = mainGlobals) (e3 : env.builtins = builtinsNs) (e4 : env.cells = cellsFrom (L + 1) sc.names []) : EnvFits sc env := by
  simp only [fnScope, Bool.and_eq_true, List.all_eq_true, beq_iff_eq] at h
  refine ⟨by rw [e1]; exact h.1.1.1.1, e2, e3, fun n e => ?_, fun n e => ⟨?_, ?_⟩, fun n e => ?_, fun n e => ?_⟩
  · unfold Env.kindOf; rw [e1]; exact e
  · unfold Env.kindOf; rw [e1]; exact e
  · rw [e4]; exact cells_has _ _ _ _ (.inl (mem_of_lookup e))
  · have := (h.1.1.1.2 (n, .free) (mem_of_lookup e)); simp at this
  · unfold Env.kindOf; rw [e1]; exact e

theorem bind_rel {kindOf : Str → Option NameKind} : ∀ (xs : List X) (vs : List V) (ws : List Value) (ρ : Rho) (m cm : Str → Option Value), LR vs ws → xs.length = vs.length →
    (∀ x v, ρ x = some v → kindOf x.nm = some .local → ∃ w, m x.nm = some w ∧ er w = some v) → (∀ x v, ρ x = some v → kindOf x.nm ≠ some .local → ∃ w, cm x.nm = some w ∧ er w = some v) →
    (∀ x v, bndL ρ xs vs x = some v → kindOf x.nm = some .local → ∃ w, bindL kindOf ((xs.map X.nm).zip ws) m x.nm = some w ∧ er w = some v) ∧
    (∀ x v, bndL ρ xs vs x = some v → kindOf x.nm ≠ some .local → ∃ w, bindC kindOf ((xs.map X.nm).zip ws) cm x.nm = some w ∧ er w = some v)
  | [], vs, ws, ρ, m, cm, _, _, h1, h2 => by
    cases vs with
    | nil => exact ⟨h1, h2⟩
    | cons _ _ => exact ⟨h1, h2⟩
  | x :: xs, [], ws, ρ, m, cm, _, hn, _, _ => by cases hn
  | x :: xs, v :: vs, ws, ρ, m, cm, hl, hn, h1, h2 => by
    obtain ⟨y, r, rfl, hy, hr⟩ := hl.cons_inv
    show (∀ z u, bndL (bnd ρ x v) xs vs z = some u → _ → ∃ w, bindL kindOf ((x.nm, y) :: (xs.map X.nm).zip r) m z.nm = some w ∧ _) ∧ (∀ z u, bndL (bnd ρ x v) xs vs z = some u → _ → ∃ w, bindC kindOf ((x.nm, y) :: (xs.map X.nm).zip r) cm z.nm = some w ∧ _)
    unfold bindL bindC
    refine bind_rel xs vs r (bnd ρ x v) _ _ hr (by simpa using hn) (fun z u hz hk => ?_) (fun z u hz hk => ?_)
    · by_cases hzx : z = x
      · subst hzx
        rw [bnd, if_pos rfl] at hz; cases hz
        rw [if_pos hk]; exact ⟨y, if_pos rfl, hy⟩
      · rw [bnd, if_neg hzx] at hz
        obtain ⟨w', a, b⟩ := h1 z u hz hk
        refine ⟨w', ?_, b⟩
        split
        · exact (if_neg fun q => hzx (X.nm_inj q)).trans a
        · exact a
    · by_cases hzx : z = x
      · subst hzx
        rw [bnd, if_pos rfl] at hz; cases hz
        rw [if_neg hk]; exact ⟨y, if_pos rfl, hy⟩
      · rw [bnd, if_neg hzx] at hz
        obtain ⟨w', a, b⟩ := h2 z u hz hk
        refine ⟨w', ?_, b⟩
        split
        · exact a
        · exact (if_neg fun q => hzx (X.nm_inj q)).trans a

theorem enter_env {env : Env} {s s₁ : Shared} {m cm : Str → Option Value} {ρ : Rho} {μ : Mu} (H : HR prog w μ s.heap) (B : Bs h₀ μ s.heap) (J : InCallC s env.locals m env.cells cm s₁)
    (h1 : ∀ x v, ρ x = some v → env.kindOf x.nm = some .local → ∃ w, m x.nm = some w ∧ er w = some v) (h2 : ∀ x v, ρ x = some v → env.kindOf x.nm ≠ some .local → ∃ w, cm x.nm = some w ∧ er w = some v) : Cs prog w h₀ env ρ μ s₁.heap := by
  have big : ∀ b : Nat, s.heap.objs.size ≤ b → μ b = Option.none := fun b hb => by
    cases e : μ b with
    | none => rfl
    | some o => obtain ⟨ob, e'⟩ := (H _ _ e).there; exact absurd (szLt e') (Nat.not_lt.mpr hb)
  have fr : @LE.le Nat _ s.heap.objs.size env.locals := J.toInCall.fresh
  have cl : ∀ n (c : Nat), env.cells.lookup n = some c → s.heap.objs.size ≤ c := fun n c e => by
    have : @LT.lt Nat _ env.locals c := J.above n c (mem_of_lookup e)
    omega
  have ob : ∀ b : Nat, Own env b → s.heap.objs.size ≤ b := fun b o => by
    rcases o with rfl | ⟨n, e⟩
    · exact fr
    · exact cl n _ e
  refine ⟨⟨⟨⟨m, J.toInCall.ns, h1⟩, fun n c e => ⟨_, J.cell n c e⟩, fun x v c hx hk e => ?_, big _ fr, fun n c e => big _ (cl n c e), fun n n' c e e' => name_of_addr J.apart (mem_of_lookup e) (mem_of_lookup e')⟩, H.ext J.toInCall.keep, fun b o e => ?_⟩, fun b o e q => ?_⟩
  · obtain ⟨w', a, b⟩ := h2 x v hx (by rcases hk with q | q <;> rw [q] <;> decide)
    exact ⟨w', a ▸ J.cell _ c e, b⟩
  · obtain ⟨e1, e2⟩ := B b o e; exact ⟨J.toInCall.keep _ _ e1, e2⟩
  · exact absurd (szLt (B b o e).1) (Nat.not_lt.mpr (ob b q))

theorem enter_fn {mg mb : Str → Option Value} {fa : Fn → Addr} {n : Nat} {Φ : Phi} {a : Addr} {A : Around} {o : Obj} {name : Str} {params : Arguments} {body : List Stmt} {sc : Scope} {pm code doc : Value} {xs : List X} {ms : MSs} {args : List V} {ws : List Value} {μ : Mu} {Q : QV} {s : Shared}
    (G : Gl h₀ mg mb fa) (P : PhiOk prog w h₀ fa n Φ) (hA : AOk (n + 1) A) (ho : h₀.get? a = some o) (hd : o.data = .func (PySem.Calls.docDef name params body sc pm code doc)) (hcd : h₀.CodeRec code name)
    (hb : ∀ ws : List Value, ws.length = xs.length → bindArgs (PySem.Calls.docDef name params body sc pm code doc) ⟨ws, []⟩ = pure ((xs.map X.nm).zip ws)) (hsc : fnScope sc xs = true) (hck : ckSs sc ms body = true)
    (hl : LR args ws) (hn : args.length = xs.length) (H : HR prog w μ s.heap) (B : Bs h₀ μ s.heap) (h : wpSs Φ ms (bndL none0 xs args) μ (retQ Q)) :
    codeAny (model prog w) A (.call (.ref a) ⟨ws, []⟩) (fun r s' => match r with | .ok (.ret v) => Pst prog w s μ Q v s' | _ => False) s := by
  have hsc' := hsc
  simp only [fnScope, Bool.and_eq_true, List.all_eq_true, beq_iff_eq, Bool.not_eq_true'] at hsc'
  have hwn : ws.length = xs.length := hl.length.trans hn
  refine codeAny_call_cells hA.room (B _ _ ho).1 hd (G.nolimit.keeps B.keep) (hcd.keeps B.keep) rfl (hb ws hwn) rfl (fun y hy => ?_) (fun s₁ J => ?_) hsc'.1.2 hsc'.2 hsc'.1.1.1.1
  · obtain ⟨hy1, _⟩ := List.of_mem_zip (show (y.1, y.2) ∈ (xs.map X.nm).zip ws from hy)
    obtain ⟨x, hx, ex⟩ := List.mem_map.mp hy1
    have := hsc'.1.1.2 x hx
    simp only [canBind, kindIs, Bool.or_eq_true, beq_iff_eq] at this
    rw [← ex]
    rcases this with q | q
    · exact .inl q
    · obtain ⟨c, hc⟩ := cells_has sc.names (s.heap.objs.size + 1) [] x.nm (.inl (mem_of_lookup q))
      exact .inr ⟨q, by show ((cellsFrom (s.heap.objs.size + 1) sc.names []).lookup x.nm).isSome = true; rw [hc]; rfl⟩
  · obtain ⟨b1, b2⟩ := bind_rel (kindOf := (callEnvC (PySem.Calls.docDef name params body sc pm code doc) s.heap.objs.size a).kindOf) xs args ws none0 (fun _ => none) (fun _ => none) hl hn.symm (fun x v e => by cases e) (fun x v e => by cases e)
    have C := enter_env H B J b1 b2
    have hF : EnvFits sc (callEnvC (PySem.Calls.docDef name params body sc pm code doc) s.heap.objs.size a) := fits_fn hsc rfl rfl rfl rfl
    refine wpAny_mono (sndSs G P ms body hck (A.deeper _) _ _ _ _ s₁ hA.deeper hF C h) (fun fl s' z => ?_) fun _ _ x => x.elim
    obtain ⟨ff, ρ', μ', h', tk, rfl, rel, R', F', E', q⟩ := z
    obtain ⟨h₁, tk₁, e₁⟩ := J.toInCall.same
    have F₁ : Fm μ s.heap μ' h' := fun b ob eb mb => by
      have hlt := szLt eb
      have nO : ¬ Own (callEnvC (PySem.Calls.docDef name params body sc pm code doc) s.heap.objs.size a) b := fun q => by
        have fr : @LE.le Nat _ s.heap.objs.size (callEnvC (PySem.Calls.docDef name params body sc pm code doc) s.heap.objs.size a).locals := J.toInCall.fresh
        rcases q with rfl | ⟨nn, e⟩
        · omega
        · have : @LT.lt Nat _ (callEnvC (PySem.Calls.docDef name params body sc pm code doc) s.heap.objs.size a).locals b := J.above nn b (mem_of_lookup e)
          omega
      exact F' b ob nO (J.toInCall.keep _ _ eb) mb
    have es : ({ s₁ with heap := h', toks := tk } : Shared) = { s with heap := h', toks := tk } := by rw [e₁]
    cases ff with
    | next =>
      cases fl with
      | next => exact ⟨.none, μ', h', tk, es, rfl, R', F₁, q⟩
      | _ => exact rel.elim
    | cont => exact q.elim
    | ret v =>
      cases fl with
      | ret y => exact ⟨v, μ', h', tk, es, rel, R', F₁, q⟩
      | _ => exact rel.elim
end
end Mine

end PartML17

section PartML18
open PySem PySem.W PyProof.Rows
set_option linter.unusedVariables false
set_option linter.unusedSimpArgs false
set_option maxRecDepth 100000
namespace Mine

noncomputable def plainP (p : Arguments) (xs : List X) : Bool := p.posonlyargs.isEmpty && (p.args.map (·.arg)) == xs.map X.nm && p.vararg.isNone && p.kwonlyargs.isEmpty && p.kw_defaults.isEmpty && p.kwarg.isNone && p.defaults.isEmpty && decide xs.Nodup
noncomputable abbrev BindOk (p : Arguments) (xs : List X) : Prop := ∀ (name : Str) (body : List Stmt) (sc : Scope) (pm code doc : Value) (ws : List Value), ws.length = xs.length → bindArgs (PySem.Calls.docDef name p body sc pm code doc) ⟨ws, []⟩ = pure ((xs.map X.nm).zip ws)
theorem plain_shape {p : Arguments} {xs : List X} (h : plainP p xs = true) : ∃ as : List PySem.Arg, p = ⟨[], as, Option.none, [], [], Option.none, []⟩ ∧ as.map (·.arg) = xs.map X.nm := by
  obtain ⟨po, as, va, ko, kd, kw, df⟩ := p
  simp only [plainP, Bool.and_eq_true, List.isEmpty_iff, beq_iff_eq, Option.isNone_iff_eq_none, decide_eq_true_eq] at h
  obtain ⟨⟨⟨⟨⟨⟨⟨rfl, h1⟩, rfl⟩, rfl⟩, rfl⟩, rfl⟩, rfl⟩, h5⟩ := h
  exact ⟨as, rfl, h1⟩
theorem lookup_zip {ns : List Str} : ∀ {ws : List Value}, ws.length = ns.length → ∀ n ∈ ns, ((ns.zip ws).lookup n).isNone = false := by
  induction ns with
  | nil => intro ws _ n hn; cases hn
  | cons k r ih =>
    intro ws hl n hn
    cases ws with
    | nil => cases hl
    | cons v vs =>
      rw [List.zip_cons_cons, List.lookup_cons]
      cases hb : n == k with
      | true => rfl
      | false =>
        rcases List.mem_cons.mp hn with rfl | h
        · simp at hb
        · exact ih (by simpa using hl) n h
theorem fm_congr {α β : Type} {f g : α → Option β} : ∀ l : List α, (∀ x ∈ l, f x = g x) → l.filterMap f = l.filterMap g
  | [], _ => rfl
  | a :: r, h => by
    rw [List.filterMap_cons, List.filterMap_cons, h a List.mem_cons_self, fm_congr r fun x hx => h x (List.mem_cons_of_mem _ hx)]
theorem zip_filter {ns : List Str} (hnd : ns.Nodup) (ws : List Value) (hl : ws.length = ns.length) : ns.filterMap (fun n => Option.map (fun x => (n, x)) ((ns.zip ws).lookup n)) = ns.zip ws := by
  induction ns generalizing ws with
  | nil => rfl
  | cons k r ih =>
    cases ws with
    | nil => cases hl
    | cons v vs =>
      obtain ⟨h1, h2⟩ := List.nodup_cons.mp hnd
      rw [List.zip_cons_cons, List.filterMap_cons, List.lookup_cons, beq_self_eq_true]
      show (k, v) :: _ = _
      congr 1
      refine Eq.trans (fm_congr _ fun n hn => ?_) (ih h2 vs (by simpa using hl))
      rw [List.lookup_cons]
      have : (n == k) = false := by
        rw [beq_eq_false_iff_ne]; intro q; exact h1 (q ▸ hn)
      rw [this]
theorem bind_gen {name : Str} {as : List PySem.Arg} {body : List Stmt} {sc : Scope} {pm code doc : Value} {ws : List Value} (hn : ws.length = as.length) (hnd : (as.map (·.arg)).Nodup) :
    bindArgs (PySem.Calls.docDef name ⟨[], as, Option.none, [], [], Option.none, []⟩ body sc pm code doc) ⟨ws, []⟩ = pure ((as.map (·.arg)).zip ws) := by
  have h1 : ∀ n ∈ as.map (·.arg), (((as.map (·.arg)).zip ws).lookup n).isNone = false := lookup_zip (by simpa using hn)
  have h2 : ((as.map (·.arg)).filter fun n => (((as.map (·.arg)).zip ws).lookup n).isNone) = [] := by
    rw [List.filter_eq_nil_iff]; intro n hn; rw [h1 n hn]; simp
  have hs : seqItems? Value.none = (pure Option.none : Sem _) := rfl
  have pb : ∀ {α β : Type} (a : α) (f : α → Sem β), (pure a >>= f) = f a := fun _ _ => rfl
  have hz := zip_filter hnd ws (by simpa using hn)
  unfold bindArgs
  dsimp only [PySem.Calls.docDef]
  simp only [hs, List.map_nil, List.nil_append, List.append_nil, List.forIn_nil, List.length_map, pb, List.length_nil, Nat.sub_zero, Option.getD_none, List.drop_nil, List.drop_zero, Nat.zero_sub, List.zip_nil_right, Option.isNone_none, Bool.and_true, gt_iff_lt, hn, Nat.lt_irrefl, decide_false, Bool.false_eq_true, if_false]
  rw [show List.take as.length (as.map (·.arg)) = as.map (·.arg) from List.take_of_length_le (by simp), h2]
  simp only [List.isEmpty_nil, Bool.not_true, Bool.false_eq_true, if_false]
  exact congrArg pure hz
theorem plain_bind {p : Arguments} {xs : List X} (h : plainP p xs = true) : BindOk p xs := by
  intro name body sc pm code doc ws hn
  have hnd : xs.Nodup := by simp only [plainP, Bool.and_eq_true, decide_eq_true_eq] at h; exact h.2
  obtain ⟨as, rfl, h1⟩ := plain_shape h
  have hl : as.length = xs.length := by have := congrArg List.length h1; simpa using this
  rw [← h1]
  refine bind_gen (hn.trans hl.symm) ?_
  rw [h1]
  exact List.pairwise_map.mpr (hnd.imp fun hne q => hne (X.nm_inj q))
structure FnFact (h₀ : Heap) (a : Addr) (xs : List X) (ms : MSs) : Prop where
  ex : ∃ o name params body sc pm code doc, h₀.get? a = some o ∧ o.data = .func (PySem.Calls.docDef name params body sc pm code doc) ∧ h₀.CodeRec code name ∧ BindOk params xs ∧ fnScope sc xs = true ∧ ckSs sc ms body = true

section
variable {prog : Program} {w : World} {h₀ : Heap} {mg mb : Str → Option Value} {fa : Fn → Addr}
theorem enter_fact {n : Nat} {Φ : Phi} {a : Addr} {A : Around} {xs : List X} {ms : MSs} {args : List V} {ws : List Value} {μ : Mu} {Q : QV} {s : Shared}
    (G : Gl h₀ mg mb fa) (P : PhiOk prog w h₀ fa n Φ) (hA : AOk (n + 1) A) (K : FnFact h₀ a xs ms) (hl : LR args ws) (hn : args.length = xs.length) (H : HR prog w μ s.heap) (B : Bs h₀ μ s.heap) (h : wpSs Φ ms (bndL none0 xs args) μ (retQ Q)) :
    codeAny (model prog w) A (.call (.ref a) ⟨ws, []⟩) (fun r s' => match r with | .ok (.ret v) => Pst prog w s μ Q v s' | _ => False) s := by
  obtain ⟨o, name, params, body, sc, pm, code, doc, ho, hd, hc, hp, hs, hk⟩ := K.ex
  exact enter_fn G P hA ho hd hc (hp _ _ _ _ _ _) hs hk hl hn H B h
theorem phk_ok (G : Gl h₀ mg mb fa) (K : ∀ f, FnFact h₀ (fa f) (paramsOf f) (bodyOf f)) : ∀ k, PhiOk prog w h₀ fa k (Phk k)
  | 0 => fun f A args ws μ Q s _ _ _ _ h => h.elim
  | k + 1 => fun f A args ws μ Q s hA hl H B h => enter_fact G (phk_ok G K k) hA (K f) hl h.1 H B h.2

/-- the text holds what the small trees say -/
noncomputable def fnNames : List Fn := [.unitRows, .leastSpot, .swapColumns, .bring, .clearCross, .undividedRow, .smithForm, .diagonal, .lawTake, .lawCommon, .lawColumns, .lawImage]
noncomputable def textOk (p : Program) (f : Fn) : Bool := (recsOf p).any fun d => d.name == f.nm && plainP d.params (paramsOf f) && fnScope d.scope (paramsOf f) && ckSs d.scope (bodyOf f) d.body
noncomputable def freeNames : List Str := ["len", "abs", "min", "sum", "range", "enumerate", "int", "list", "tuple"]
noncomputable def freeOk (p : Program) (loose : List Str) : Bool := freeNames.all fun x => !startupNames.contains x && !loose.contains x && !((recsOf p).map (·.name)).contains x && !((litsOf p).map (·.1)).contains x && !((clssOf p loose).map (·.name)).contains x

theorem gl_of {p : Program} {loose : List Str} {mean : ExcName → Option Value} {h : Heap} (T : Top p loose mean mg mb h) (ht : ∀ f, textOk p f = true) (hf : freeOk p loose = true) :
    ∃ fa, Gl h mg mb fa ∧ ∀ f, FnFact h (fa f) (paramsOf f) (bodyOf f) := by
  have key : ∀ f : Fn, ∃ a, mg f.nm = some (.ref a) ∧ (∃ o fd, h.get? a = some o ∧ o.data = .func fd) ∧ FnFact h a (paramsOf f) (bodyOf f) := fun f => by
    have := ht f
    simp only [textOk, List.any_eq_true, Bool.and_eq_true, beq_iff_eq] at this
    obtain ⟨d, hd, ⟨⟨hn, hp⟩, hs⟩, hk⟩ := this
    obtain ⟨a, o, pm, code, doc, e1, e2, e3, e4⟩ := T.fn d hd
    exact ⟨a, by rw [← hn]; exact e1, ⟨o, _, e2, e3⟩, ⟨o, _, _, _, _, _, _, _, e2, e3, e4, plain_bind hp, hs, hk⟩⟩
  refine ⟨fun f => (key f).choose, ⟨T.g, T.b, fun f => (key f).choose_spec.1, fun f => (key f).choose_spec.2.1, fun x hx => ?_, T.builtins, T.nolimit⟩, fun f => (key f).choose_spec.2.2⟩
  have := List.all_eq_true.mp hf x hx
  simp only [Bool.and_eq_true, Bool.not_eq_true', List.contains_eq_mem, decide_eq_false_iff_not] at this
  exact T.free x this.1.1.1.1 this.1.1.1.2 this.1.1.2 this.1.2 this.2
end
end Mine

end PartML18

section PartSkel
open PySem PySem.W PyProof.Rows
namespace Mine
set_option maxRecDepth 100000
set_option maxHeartbeats 8000000
open_top hd for PySem.Challenge.rw_tk0009_01
end Mine

end PartSkel

section PartML19
open PySem PySem.W PyProof.Rows
set_option linter.unusedVariables false
set_option maxRecDepth 100000
set_option maxHeartbeats 8000000
namespace Mine
theorem text_ok : ∀ f, textOk hd.view_39 f = true := fun f => by cases f <;> decide +kernel
theorem free_ok : freeOk hd.view_39 (looseW hd.view_39 []) = true := by decide +kernel
noncomputable def mu0 (l : Nat) (ns : List Int) : Mu := fun b => if b = l then some (.ro (ns.map V.int)) else Option.none
noncomputable abbrev LawSays : Prop := ∀ (ns : List Int) (l : Nat), ns.length ≤ 63 → wpSs (Phk 3) bodyLaw (bndL none0 [.script] [.ref l]) (mu0 l ns) (retQ fun v _ => v = .bool true)
theorem top1 (law : LawSays) : PySem.Challenge.rw_tk0009_01.Holds := hd (by
  k_fill
  intro w s₀ s₁ mg mb G Y fa o pm cd doc dV kV ho hd hcd hD hmg hg args vals as hpre hlay hrd hwl hlo
  refine Ground.open G ?_
  intro T B D TE TW
  try (refine guard_noD D (by decide +kernel) ?_; clear D)
  wrow_args hpre hlay hrd hwl hlo
  refine enter_call ?_
  rename_i ns hs hlay0 hL1 hr1 hl2 u4 u3 l vs u0 hL ra w1' r0 hI hr hc1 hc0
  have e1 : dV = .none := Dflts.none hD rfl
  have e2 : kV = .none := Dflts.noKw hD
  subst e1 e2
  obtain ⟨fa', G', K⟩ := gl_of T text_ok free_ok
  have Kl : FnFact s₁.heap fa [.script] bodyLaw := ⟨o, _, _, _, _, pm, cd, doc, ho, hd, hcd, plain_bind (by kernel_rfl), by kernel_rfl, by kernel_rfl⟩
  have hn : ns.length ≤ 63 := by first | assumption | exact Nat.le_of_lt (by assumption) | exact Nat.lt_of_lt_of_le (by assumption) (by assumption) | exact Nat.lt_of_le_of_lt (by assumption) (by assumption) | exact Nat.le_trans (by assumption) (by decide) | exact Nat.lt_of_le_of_lt (by assumption) (by decide) | exact Nat.lt_of_lt_of_le (by assumption) (Nat.le_trans (by assumption) (by decide)) | exact Nat.ne_of_gt (by assumption) | exact Nat.ne_of_lt (by assumption) | omega
  have HR0 : HR PySem.Challenge.rw_tk0009_01.row.prog w (mu0 l ns) s₁.heap := fun b x e => by
    unfold mu0 at e
    split at e
    · rename_i hb; subst hb; cases e
      exact ⟨vs.toArray, hL, by rw [List.toList_toArray]; exact LR.of_ints hI⟩
    · cases e
  have m0 : ∀ b, mutb (mu0 l ns) b = false := fun b => by
    unfold mutb mu0
    by_cases hb : b = l
    · simp [hb, O.mutable]
    · simp [hb]
  refine codeAny_mono (enter_fact (prog := PySem.Challenge.rw_tk0009_01.row.prog) (Q := fun v _ => v = .bool true) (args := [.ref l]) G' (phk_ok G' K 3) ⟨rfl, by decide, by decide⟩ Kl (LR.cons rfl LR.nil) rfl HR0 (fun b o e => ⟨e, m0 b⟩) (law ns l hn)) (fun r s' z => ?_)
  cases r with
  | error e => exact z.elim
  | ok fl =>
    cases fl with
    | ret v =>
      obtain ⟨v', μ', h', tk, rfl, hv, R, F, rfl⟩ := z
      rw [er_bool hv]
      exact GoodW.toG ⟨.inl ⟨_, .bool true, [], rfl, fun _ => rfl, ReadsW.bool true, (by kernel_rfl), fun _ => ⟨List.nodup_nil, by simp⟩⟩, fun b o e => (F b o e (m0 b)).1, rfl, hg⟩
    | _ => exact z.elim)
end Mine

end PartML19

section PartML20
open PySem
set_option linter.unusedVariables false
set_option linter.unusedSimpArgs false
set_option maxRecDepth 100000
namespace Mine

/-! three matrices in the small heap -/
noncomputable abbrev rngM {α : Type} (n : Nat) (f : Nat → α) : List α := (List.range n).map f
theorem i3a {n : Nat} (h : n ≤ 3) : ((n : Nat) : Int) < 1000 := by omega
theorem i3b {n : Nat} : -1000 < ((n : Nat) : Int) := by omega
theorem k3all : ∀ k, k < 3 → k = 0 ∨ k = 1 ∨ k = 2 := by decide
theorem rngM_get {α : Type} (n : Nat) (f : Nat → α) (i : Nat) (h : i < n) : (rngM n f)[i]? = some (f i) := by simp [rngM, h]
theorem rngM_set {α : Type} (n : Nat) (f : Nat → α) (i : Nat) (x : α) : (rngM n f).set i x = rngM n (fun t => if t = i then x else f t) := by
  apply List.ext_getElem?
  intro t
  rw [List.getElem?_set]
  simp only [rngM, List.length_map, List.length_range, List.getElem?_map]
  by_cases ht : t < n
  · by_cases hi : i = t
    · subst hi; simp [ht]
    · simp [hi, ht, Ne.symm hi]
  · by_cases hi : i = t
    · subst hi; simp [ht]
    · simp [hi, ht]
theorem rngM_congr {α : Type} {n : Nat} {f g : Nat → α} (h : ∀ i < n, f i = g i) : rngM n f = rngM n g := List.map_congr_left fun i hi => h i (List.mem_range.mp hi)
theorem rngM_len {α : Type} (n : Nat) (f : Nat → α) : (rngM n f).length = n := by simp [rngM]
theorem szM {α : Type} {n : Nat} {f : Nat → α} (h : n ≤ 3) : (rngM n f).length ≤ sizeLine := by rw [rngM_len, sizeLine_eq]; omega
theorem rng_at {α : Type} {n k : Nat} {f : Nat → α} {v : α} (h : (rngM n f)[k]? = some v) : k < n ∧ v = f k := by
  have hk : k < n := by
    have := (List.getElem?_eq_some_iff.mp h).1; rwa [rngM_len] at this
  rw [rngM_get _ _ _ hk] at h
  exact ⟨hk, (Option.some.inj h).symm⟩

structure St (μ0 μ : Mu) (P : Nat → Nat) (R W : Nat → Nat) (RP : Nat → Nat → Nat) (M : Nat → Nat → Nat → Int) : Prop where
  top : ∀ k < 3, μ (P k) = some (.list (rngM (R k) fun i => V.ref (RP k i)))
  row : ∀ k < 3, ∀ i < R k, μ (RP k i) = some (.list (rngM (W k) fun j => V.int (M k i j)))
  inj1 : ∀ k < 3, ∀ k' < 3, P k = P k' → k = k'
  inj2 : ∀ k < 3, ∀ i < R k, ∀ k' < 3, ∀ i' < R k', RP k i = RP k' i' → k = k' ∧ i = i'
  inj3 : ∀ k < 3, ∀ k' < 3, ∀ i' < R k', P k ≠ RP k' i'
  old : ∀ b o, μ0 b = some o → μ b = some o ∧ (∀ k < 3, b ≠ P k) ∧ ∀ k < 3, ∀ i < R k, b ≠ RP k i

section
variable {μ0 μ : Mu} {P R W : Nat → Nat} {RP : Nat → Nat → Nat} {M : Nat → Nat → Nat → Int}

theorem St.alloc (H : St μ0 μ P R W RP M) {c : Nat} (hc : μ c = Option.none) (o : O) : St μ0 (upd μ c o) P R W RP M where
  top k hk := by
    have : P k ≠ c := fun e => by have := H.top k hk; rw [e, hc] at this; cases this
    rw [upd_ne _ _ this]; exact H.top k hk
  row k hk i hi := by
    have : RP k i ≠ c := fun e => by have := H.row k hk i hi; rw [e, hc] at this; cases this
    rw [upd_ne _ _ this]; exact H.row k hk i hi
  inj1 := H.inj1
  inj2 := H.inj2
  inj3 := H.inj3
  old b o' e := by
    obtain ⟨h1, h2⟩ := H.old b o' e
    have : b ≠ c := fun q => by rw [q, hc] at h1; cases h1
    exact ⟨(upd_ne _ _ this).trans h1, h2⟩

noncomputable def setRowP (RP : Nat → Nat → Nat) (k i c : Nat) : Nat → Nat → Nat := fun k' i' => if k' = k ∧ i' = i then c else RP k' i'
noncomputable def setRowM (M : Nat → Nat → Nat → Int) (k i : Nat) (f : Nat → Int) : Nat → Nat → Nat → Int := fun k' i' j => if k' = k ∧ i' = i then f j else M k' i' j

/-- a fresh row is put in -/
theorem St.setRow (H : St μ0 μ P R W RP M) {k i c : Nat} (hk : k < 3) (hi : i < R k) (f : Nat → Int) (hc : μ c = some (.list (rngM (W k) fun j => V.int (f j)))) (hP : ∀ k < 3, c ≠ P k) (hR : ∀ k < 3, ∀ i < R k, c ≠ RP k i) (h0 : ∀ o, μ0 c = some o → False) :
    St μ0 (upd μ (P k) (.list ((rngM (R k) fun i => V.ref (RP k i)).set i (V.ref c)))) P R W (setRowP RP k i c) (setRowM M k i f) where
  top k' hk' := by
    by_cases e : k' = k
    · subst e
      rw [upd_self, rngM_set]
      congr 2
      refine rngM_congr fun t ht => ?_
      simp only [setRowP, true_and]
      split <;> rfl
    · rw [upd_ne _ _ fun q => e (H.inj1 _ hk' _ hk q), H.top k' hk']
      simp [setRowP, e]
  row k' hk' i' hi' := by
    by_cases e : k' = k ∧ i' = i
    · obtain ⟨rfl, rfl⟩ := e
      simp only [setRowP, setRowM, and_self, if_true]
      rw [upd_ne _ _ (hP _ hk)]; exact hc
    · simp only [setRowP, setRowM, e, if_false]
      rw [upd_ne _ _ fun q => H.inj3 _ hk _ hk' _ hi' q.symm]; exact H.row k' hk' i' hi'
  inj1 := H.inj1
  inj2 k1 h1 i1 g1 k2 h2 i2 g2 e := by
    simp only [setRowP] at e
    split at e <;> split at e
    · rename_i a b; exact ⟨a.1.trans b.1.symm, a.2.trans b.2.symm⟩
    · exact absurd e (hR _ h2 _ g2)
    · exact absurd e.symm (hR _ h1 _ g1)
    · exact H.inj2 _ h1 _ g1 _ h2 _ g2 e
  inj3 k1 h1 k2 h2 i2 g2 e := by
    simp only [setRowP] at e
    split at e
    · exact hP _ h1 e.symm
    · exact H.inj3 _ h1 _ h2 _ g2 e
  old b o e := by
    obtain ⟨h1, h2, h3⟩ := H.old b o e
    refine ⟨(upd_ne _ _ (h2 _ hk)).trans h1, h2, fun k' hk' i' hi' q => ?_⟩
    simp only [setRowP] at q
    split at q
    · exact h0 o (q ▸ e)
    · exact h3 _ hk' _ hi' q

/-- an entry is changed in its place -/
theorem St.setEntry (H : St μ0 μ P R W RP M) {k i j : Nat} (hk : k < 3) (hi : i < R k) (x : Int) :
    St μ0 (upd μ (RP k i) (.list ((rngM (W k) fun j => V.int (M k i j)).set j (V.int x)))) P R W RP (setRowM M k i fun t => if t = j then x else M k i t) where
  top k' hk' := by rw [upd_ne _ _ (H.inj3 _ hk' _ hk _ hi)]; exact H.top k' hk'
  row k' hk' i' hi' := by
    by_cases e : k' = k ∧ i' = i
    · obtain ⟨rfl, rfl⟩ := e
      rw [upd_self, rngM_set]
      congr 2
      refine rngM_congr fun t ht => ?_
      simp only [setRowM, and_self, if_true]
      split <;> rfl
    · have : RP k' i' ≠ RP k i := fun q => e (H.inj2 _ hk' _ hi' _ hk _ hi q)
      rw [upd_ne _ _ this, H.row k' hk' i' hi']
      simp only [setRowM, e, if_false]
  inj1 := H.inj1
  inj2 := H.inj2
  inj3 := H.inj3
  old b o e := by
    obtain ⟨h1, h2, h3⟩ := H.old b o e
    exact ⟨(upd_ne _ _ (h3 _ hk _ hi)).trans h1, h2, h3⟩

/-- two rows change places -/
noncomputable def swp (i i' t : Nat) : Nat := if t = i then i' else if t = i' then i else t
noncomputable def swapRowsM (M : Nat → Nat → Nat → Int) (k i i' : Nat) : Nat → Nat → Nat → Int := fun k' t j => if k' = k then M k' (swp i i' t) j else M k' t j
theorem swp_lt {n i i' t : Nat} (hi : i < n) (hi' : i' < n) (ht : t < n) : swp i i' t < n := by unfold swp; split <;> (try split) <;> assumption
theorem swp_twice {i i' t : Nat} : swp i i' (swp i i' t) = t := by
  unfold swp
  by_cases h1 : t = i
  · subst h1
    by_cases h2 : i' = t
    · simp [h2]
    · simp [h2]
  · by_cases h2 : t = i'
    · subst h2; simp [h1]
    · simp [h1, h2]
theorem swp_inj {i i' t t' : Nat} (h : swp i i' t = swp i i' t') : t = t' := by
  have := congrArg (swp i i') h
  rwa [swp_twice, swp_twice] at this
theorem St.swapRows (H : St μ0 μ P R W RP M) {k i i' : Nat} (hk : k < 3) (hi : i < R k) (hi' : i' < R k) :
    St μ0 (upd (upd μ (P k) (.list ((rngM (R k) fun i => V.ref (RP k i)).set i (V.ref (RP k i'))))) (P k) (.list (((rngM (R k) fun i => V.ref (RP k i)).set i (V.ref (RP k i'))).set i' (V.ref (RP k i))))) P R W
      (fun k' t => if k' = k then RP k' (swp i i' t) else RP k' t) (swapRowsM M k i i') where
  top k' hk' := by
    by_cases e : k' = k
    · subst e
      rw [upd_self, rngM_set, rngM_set]
      congr 2
      refine rngM_congr fun t ht => ?_
      simp only [if_true, swp]
      by_cases h1 : t = i'
      · by_cases h2 : t = i
        · subst h1; subst h2; simp
        · have h3 : i' ≠ i := fun q => h2 (h1.trans q)
          simp [h1, h3]
      · by_cases h2 : t = i
        · have h3 : i ≠ i' := fun q => h1 (h2.trans q)
          simp [h2, h3]
        · simp [h1, h2]
    · rw [upd_ne _ _ fun q => e (H.inj1 _ hk' _ hk q), upd_ne _ _ fun q => e (H.inj1 _ hk' _ hk q), H.top k' hk']
      simp [e]
  row k' hk' t ht := by
    by_cases e : k' = k
    · subst e
      simp only [if_true, swapRowsM]
      have hl := swp_lt hi hi' ht
      rw [upd_ne _ _ fun q => H.inj3 _ hk _ hk' _ hl q.symm, upd_ne _ _ fun q => H.inj3 _ hk _ hk' _ hl q.symm]
      exact H.row _ hk _ hl
    · simp only [e, if_false, swapRowsM]
      rw [upd_ne _ _ fun q => H.inj3 _ hk _ hk' _ ht q.symm, upd_ne _ _ fun q => H.inj3 _ hk _ hk' _ ht q.symm]
      exact H.row _ hk' _ ht
  inj1 := H.inj1
  inj2 k1 h1 i1 g1 k2 h2 i2 g2 e := by
    try dsimp only at e
    split at e <;> split at e
    · rename_i a b; subst a; subst b
      obtain ⟨_, q⟩ := H.inj2 _ h1 _ (swp_lt hi hi' g1) _ h2 _ (swp_lt hi hi' g2) e
      exact ⟨rfl, swp_inj q⟩
    · rename_i a b; subst a
      exact absurd (H.inj2 _ h1 _ (swp_lt hi hi' g1) _ h2 _ g2 e).1.symm b
    · rename_i a b; subst b
      exact absurd (H.inj2 _ h1 _ g1 _ h2 _ (swp_lt hi hi' g2) e).1 a
    · exact H.inj2 _ h1 _ g1 _ h2 _ g2 e
  inj3 k1 h1 k2 h2 i2 g2 e := by
    try dsimp only at e
    split at e
    · rename_i a; subst a; exact H.inj3 _ h1 _ h2 _ (swp_lt hi hi' g2) e
    · exact H.inj3 _ h1 _ h2 _ g2 e
  old b o e := by
    obtain ⟨h1, h2, h3⟩ := H.old b o e
    refine ⟨((upd_ne _ _ (h2 _ hk)).trans (upd_ne _ _ (h2 _ hk))).trans h1, h2, fun k' hk' t ht q => ?_⟩
    try dsimp only at q
    split at q
    · rename_i a; subst a; exact h3 _ hk' _ (swp_lt hi hi' ht) q
    · exact h3 _ hk' _ ht q
end

/-! loops, in the style of what is asked behind -/
theorem forP_range {src : Mu → Prop} {body : V → Rho → Mu → QS → Prop} {Q : QS} (J : Nat → Rho → Mu → Prop) (vs : List V) (hsrc : ∀ k ρ μ, J k ρ μ → src μ)
    (turn : ∀ k v ρ μ, vs[k]? = some v → J k ρ μ → ∀ K : QS, (∀ ρ' μ', J (k + 1) ρ' μ' → K .next ρ' μ') → (∀ v ρ' μ', Q (.ret v) ρ' μ' → K (.ret v) ρ' μ') → body v ρ μ K)
    (hend : ∀ ρ μ, J vs.length ρ μ → Q .next ρ μ) : ∀ (k : Nat) ρ μ, k ≤ vs.length → J k ρ μ → forP src body (vs.drop k) ρ μ Q := by
  intro k
  generalize hn : vs.length - k = n
  induction n generalizing k with
  | zero =>
    intro ρ μ hk hJ
    have : k = vs.length := Nat.le_antisymm hk (Nat.sub_eq_zero_iff_le.mp hn)
    subst this
    rw [List.drop_length]
    exact ⟨hsrc _ _ _ hJ, hend _ _ hJ⟩
  | succ n ih =>
    intro ρ μ hk hJ
    have hlt : k < vs.length := Nat.lt_of_sub_eq_succ hn
    rw [List.drop_eq_getElem_cons hlt]
    exact ⟨hsrc _ _ _ hJ, turn k _ ρ μ (List.getElem?_eq_getElem hlt) hJ _ (fun ρ' μ' hJ' => ih (k + 1) (by rw [Nat.sub_succ, hn]; rfl) ρ' μ' hlt hJ') fun v ρ' μ' q => q⟩
theorem forP_all {src : Mu → Prop} {body : V → Rho → Mu → QS → Prop} {Q : QS} (J : Nat → Rho → Mu → Prop) (vs : List V) {ρ : Rho} {μ : Mu} (h0 : J 0 ρ μ) (hsrc : ∀ k ρ μ, J k ρ μ → src μ)
    (turn : ∀ k v ρ μ, vs[k]? = some v → J k ρ μ → ∀ K : QS, (∀ ρ' μ', J (k + 1) ρ' μ' → K .next ρ' μ') → (∀ v ρ' μ', Q (.ret v) ρ' μ' → K (.ret v) ρ' μ') → body v ρ μ K)
    (hend : ∀ ρ μ, J vs.length ρ μ → Q .next ρ μ) : forP src body vs ρ μ Q := by
  have := forP_range J vs hsrc turn hend 0 ρ μ (Nat.zero_le _) h0
  rwa [List.drop_zero] at this

/-- a comprehension of which each turn leaves the heap alone -/
theorem compP_pure {α : Type} {src : Mu → Prop} {body : α → Mu → (List V → Mu → Prop) → Prop} {μ : Mu} {Q : List V → Mu → Prop} (f : α → List V) (hs : src μ) : ∀ (items : List α) (acc : List V), (∀ x ∈ items, ∀ K : List V → Mu → Prop, K (f x) μ → body x μ K) →
    Q (acc ++ items.flatMap f) μ → compP src body items acc μ Q
  | [], acc, _, h => ⟨hs, by simpa using h⟩
  | x :: r, acc, hb, h => ⟨hs, hb x List.mem_cons_self _ (compP_pure f hs r (acc ++ f x) (fun y hy => hb y (List.mem_cons_of_mem _ hy)) (by simpa [List.flatMap_cons, List.append_assoc] using h))⟩
/-- a comprehension of which each turn carries an invariant on -/
theorem compP_inv {α : Type} {src : Mu → Prop} {body : α → Mu → (List V → Mu → Prop) → Prop} {Q : List V → Mu → Prop} (J : Nat → List V → Mu → Prop) (items : List α) {acc : List V} {μ : Mu} (h0 : J 0 acc μ) (hs : ∀ k acc μ, J k acc μ → src μ)
    (turn : ∀ k x acc μ, items[k]? = some x → J k acc μ → ∀ K : List V → Mu → Prop, (∀ ys μ', J (k + 1) (acc ++ ys) μ' → K ys μ') → body x μ K) (hend : ∀ acc μ, J items.length acc μ → Q acc μ) : compP src body items acc μ Q := by
  suffices h : ∀ n k acc μ, items.length - k = n → k ≤ items.length → J k acc μ → compP src body (items.drop k) acc μ Q by
    have := h _ 0 acc μ rfl (Nat.zero_le _) h0
    rwa [List.drop_zero] at this
  intro n
  induction n with
  | zero =>
    intro k acc μ hn hk hJ
    have : k = items.length := Nat.le_antisymm hk (Nat.sub_eq_zero_iff_le.mp hn)
    subst this
    rw [List.drop_length]
    exact ⟨hs _ _ _ hJ, hend _ _ hJ⟩
  | succ n ih =>
    intro k acc μ hn hk hJ
    have hlt : k < items.length := Nat.lt_of_sub_eq_succ hn
    rw [List.drop_eq_getElem_cons hlt]
    exact ⟨hs _ _ _ hJ, turn k _ acc μ (List.getElem?_eq_getElem hlt) hJ _ fun ys μ' hJ' => ih (k + 1) _ μ' (by rw [Nat.sub_succ, hn]; rfl) hlt hJ'⟩
end Mine

end PartML20

section PartML21
open PySem
set_option linter.unusedVariables false
set_option linter.unusedSimpArgs false
set_option maxRecDepth 100000
namespace Mine

section
variable {Φ : Phi} {ρ : Rho} {μ : Mu} {Q : QV}
theorem wE_var {x : X} {v : V} (h : ρ x = some v) (q : Q v μ) : wpE Φ (.var x) ρ μ Q := ⟨v, h, q⟩
theorem wE_sub {e i : ME} (h : wpE Φ e ρ μ fun x μ₁ => wpE Φ i ρ μ₁ fun y μ₂ => subP x y μ₂ Q) : wpE Φ (.sub e i) ρ μ Q := h
theorem wE_bin {op : Op} {l r : ME} (h : wpE Φ l ρ μ fun x μ₁ => wpE Φ r ρ μ₁ fun y μ₂ => binP op x y μ₂ Q) : wpE Φ (.bin op l r) ρ μ Q := h
theorem wE_int {i : Int} (q : Q (.int i) μ) : wpE Φ (.int i) ρ μ Q := q
theorem wE_call {f : Fn} {es : MEs} (h : wpEs Φ es ρ μ fun vs μ₁ => Φ f vs μ₁ Q) : wpE Φ (.call f es) ρ μ Q := h
theorem wEs_nil {K : List V → Mu → Prop} (h : K [] μ) : wpEs Φ .nil ρ μ K := h
theorem wEs_cons {e : ME} {es : MEs} {K : List V → Mu → Prop} (h : wpE Φ e ρ μ fun v μ₁ => wpEs Φ es ρ μ₁ fun vs μ₂ => K (v :: vs) μ₂) : wpEs Φ (.cons e es) ρ μ K := h
theorem wE_tuple {es : MEs} (h : wpEs Φ es ρ μ fun vs μ₁ => vs.length ≤ 1000 ∧ ∀ c, μ₁ c = Option.none → Q (.ref c) (upd μ₁ c (.tuple vs))) : wpE Φ (.tuple es) ρ μ Q := h
theorem wE_list {es : MEs} (h : wpEs Φ es ρ μ fun vs μ₁ => vs.length ≤ 1000 ∧ ∀ c, μ₁ c = Option.none → Q (.ref c) (upd μ₁ c (.list vs))) : wpE Φ (.list es) ρ μ Q := h
theorem wT_cmp {op : Cm} {l r : ME} {K : Bool → Mu → Prop} (h : wpE Φ l ρ μ fun x μ₁ => wpE Φ r ρ μ₁ fun y μ₂ => cmpP op x y μ₂ fun t => K t μ₂) : wpT Φ (.cmp op l r) ρ μ K := h
theorem wT_and {l r : MT} {K : Bool → Mu → Prop} (h : wpT Φ l ρ μ fun t μ₁ => if t then wpT Φ r ρ μ₁ K else K false μ₁) : wpT Φ (.and l r) ρ μ K := h
theorem wT_or {l r : MT} {K : Bool → Mu → Prop} (h : wpT Φ l ρ μ fun t μ₁ => if t then K true μ₁ else wpT Φ r ρ μ₁ K) : wpT Φ (.or l r) ρ μ K := h
theorem wE_ite {c : MT} {b o : ME} (h : wpT Φ c ρ μ fun t μ₁ => if t then wpE Φ b ρ μ₁ Q else wpE Φ o ρ μ₁ Q) : wpE Φ (.ite c b o) ρ μ Q := h
theorem wE_abs {e : ME} (h : wpE Φ e ρ μ fun x μ₁ => ∃ i, x = .int i ∧ Q (.int (i.natAbs)) μ₁) : wpE Φ (.abs e) ρ μ Q := h
theorem wE_len {e : ME} (h : wpE Φ e ρ μ fun x μ₁ => ∃ p, x = .ref p ∧ ((∃ vs, μ₁ p = some (.list vs) ∧ vs.length ≤ sizeLine ∧ Q (.int vs.length) μ₁) ∨ (∃ es, μ₁ p = some (.dict es) ∧ es.length ≤ sizeLine ∧ Q (.int es.length) μ₁))) : wpE Φ (.len e) ρ μ Q := h
theorem wI_val {e : ME} {K : List V → (Mu → Prop) → Mu → Prop} (h : wpE Φ e ρ μ fun x μ₁ => ∃ p o vs, x = .ref p ∧ μ₁ p = some o ∧ seqVals o = some vs ∧ K vs (fun μ => μ p = some o) μ₁) : wpI Φ (.val e) ρ μ K := h
theorem wI_range1 {e : ME} {K : List V → (Mu → Prop) → Mu → Prop} (h : wpE Φ e ρ μ fun x μ₁ => ∃ n, x = .int n ∧ -1000 < n ∧ n < 1000 ∧ K (rangeV 0 n) (fun _ => True) μ₁) : wpI Φ (.range1 e) ρ μ K := h
theorem wI_range2 {l r : ME} {K : List V → (Mu → Prop) → Mu → Prop} (h : wpE Φ l ρ μ fun x μ₁ => wpE Φ r ρ μ₁ fun y μ₂ => ∃ i j, x = .int i ∧ y = .int j ∧ -1000 < i ∧ i < 1000 ∧ -1000 < j ∧ j < 1000 ∧ K (rangeV i j) (fun _ => True) μ₂) : wpI Φ (.range2 l r) ρ μ K := h
variable {QQ : QS}
theorem wSs_nil (h : QQ .next ρ μ) : wpSs Φ .nil ρ μ QQ := h
theorem wSs_cons {st : MS} {r : MSs} (h : wpS Φ st ρ μ fun f ρ₁ μ₁ => match f with
      | .next => wpSs Φ r ρ₁ μ₁ QQ
      | f => QQ f ρ₁ μ₁) : wpSs Φ (.cons st r) ρ μ QQ := h
theorem wS_assign {x : X} {e : ME} (h : wpE Φ e ρ μ fun v μ₁ => QQ .next (bnd ρ x v) μ₁) : wpS Φ (.assign x e) ρ μ QQ := h
theorem wS_for {x : X} {it : MI} {b : MSs} (h : wpI Φ it ρ μ fun items src μ₁ => forP src (fun v ρ μ k => wpSs Φ b (bnd ρ x v) μ k) items ρ μ₁ fun f ρ' μ' => match f with
      | .next => QQ .next (unb ρ' x) μ'
      | f => QQ f ρ' μ') : wpS Φ (.for_ x it b) ρ μ QQ := h
theorem wS_ite {c : MT} {b o : MSs} (h : wpT Φ c ρ μ fun t μ₁ => if t then wpSs Φ b ρ μ₁ QQ else wpSs Φ o ρ μ₁ QQ) : wpS Φ (.ite c b o) ρ μ QQ := h
theorem wS_ret {e : ME} (h : wpE Φ e ρ μ fun v μ₁ => QQ (.ret v) ρ μ₁) : wpS Φ (.ret e) ρ μ QQ := h
theorem wS_expr {e : ME} (h : wpE Φ e ρ μ fun v μ₁ => v = .none ∧ QQ .next ρ μ₁) : wpS Φ (.expr e) ρ μ QQ := h
theorem wS_store {o i e : ME} (h : wpE Φ e ρ μ fun v μ₁ => wpE Φ o ρ μ₁ fun x μ₂ => wpE Φ i ρ μ₂ fun y μ₃ => storeP x y v μ₃ fun μ₄ => QQ .next ρ μ₄) : wpS Φ (.store o i e) ρ μ QQ := h
theorem wS_tup {xs : List X} {es : MEs} (hn : xs.Nodup) (h : wpEs Φ es ρ μ fun vs μ₁ => xs.length = vs.length ∧ ∀ c, μ₁ c = Option.none → QQ .next (bndL ρ xs vs) (upd μ₁ c (.tuple vs))) : wpS Φ (.tup xs es) ρ μ QQ := ⟨hn, h⟩
theorem wS_swap {o i p j : ME} {es : MEs} (h : wpEs Φ es ρ μ fun vs μ₁ => ∃ v w, vs = [v, w] ∧ ∀ c, μ₁ c = Option.none →
      wpE Φ o ρ (upd μ₁ c (.tuple vs)) fun x μ₂ => wpE Φ i ρ μ₂ fun y μ₃ => storeP x y v μ₃ fun μ₄ => wpE Φ p ρ μ₄ fun x μ₅ => wpE Φ j ρ μ₅ fun y μ₆ => storeP x y w μ₆ fun μ₇ => QQ .next ρ μ₇) : wpS Φ (.swap o i p j es) ρ μ QQ := h
theorem subP_list {p : Nat} {vs : List V} {i : Nat} {v : V} (h : μ p = some (.list vs)) (hi : i < 1000) (hv : vs[i]? = some v) (q : Q v μ) : subP (.ref p) (.int (i : Nat)) μ Q :=
  ⟨.list vs, vs, v, h, rfl, Int.natCast_nonneg _, by first | assumption | exact Nat.le_of_lt (by assumption) | exact Nat.lt_of_lt_of_le (by assumption) (by assumption) | exact Nat.lt_of_le_of_lt (by assumption) (by assumption) | exact Nat.le_trans (by assumption) (by decide) | exact Nat.lt_of_le_of_lt (by assumption) (by decide) | exact Nat.lt_of_lt_of_le (by assumption) (Nat.le_trans (by assumption) (by decide)) | exact Nat.ne_of_gt (by assumption) | exact Nat.ne_of_lt (by assumption) | exact i3a (by assumption) | exact i3b | omega, by rw [Int.toNat_natCast]; exact hv, q⟩
theorem subP_tuple {p : Nat} {vs : List V} {i : Nat} {v : V} (h : μ p = some (.tuple vs)) (hi : i < 1000) (hv : vs[i]? = some v) (q : Q v μ) : subP (.ref p) (.int (i : Nat)) μ Q :=
  ⟨.tuple vs, vs, v, h, rfl, Int.natCast_nonneg _, by first | assumption | exact Nat.le_of_lt (by assumption) | exact Nat.lt_of_lt_of_le (by assumption) (by assumption) | exact Nat.lt_of_le_of_lt (by assumption) (by assumption) | exact Nat.le_trans (by assumption) (by decide) | exact Nat.lt_of_le_of_lt (by assumption) (by decide) | exact Nat.lt_of_lt_of_le (by assumption) (Nat.le_trans (by assumption) (by decide)) | exact Nat.ne_of_gt (by assumption) | exact Nat.ne_of_lt (by assumption) | exact i3a (by assumption) | exact i3b | omega, by rw [Int.toNat_natCast]; exact hv, q⟩
theorem storeP_list {p : Nat} {vs : List V} {i : Nat} {v : V} {P : Mu → Prop} (h : μ p = some (.list vs)) (hi : i < 1000) (hl : i < vs.length) (q : P (upd μ p (.list (vs.set i v)))) : storeP (.ref p) (.int (i : Nat)) v μ P :=
  ⟨vs, h, Int.natCast_nonneg _, by first | assumption | exact Nat.le_of_lt (by assumption) | exact Nat.lt_of_lt_of_le (by assumption) (by assumption) | exact Nat.lt_of_le_of_lt (by assumption) (by assumption) | exact Nat.le_trans (by assumption) (by decide) | exact Nat.lt_of_le_of_lt (by assumption) (by decide) | exact Nat.lt_of_lt_of_le (by assumption) (Nat.le_trans (by assumption) (by decide)) | exact Nat.ne_of_gt (by assumption) | exact Nat.ne_of_lt (by assumption) | exact i3a (by assumption) | exact i3b | omega, by rw [Int.toNat_natCast]; exact hl, by rw [Int.toNat_natCast]; exact q⟩
end

theorem ifT {p : Prop} [Decidable p] {A B : Prop} (hp : p) (h : A) : if decide p = true then A else B := by rw [decide_eq_true hp]; exact h
theorem ifF {p : Prop} [Decidable p] {A B : Prop} (hp : ¬ p) (h : B) : if decide p = true then A else B := by rw [decide_eq_false hp]; exact h
theorem iT {A B : Prop} (h : A) : if true = true then A else B := h
theorem iF {A B : Prop} (h : B) : if false = true then A else B := h
theorem zipIdx_rng {α : Type} (n : Nat) (f : Nat → α) : (rngM n f).zipIdx = rngM n fun i => (f i, i) := by
  apply List.ext_getElem?
  intro i
  rw [List.getElem?_zipIdx]
  simp only [rngM, List.getElem?_map]
  by_cases h : i < n
  · simp [h]
  · simp [h]
theorem flat_sing {α β : Type} (f : α → β) : ∀ l : List α, l.flatMap (fun x => [f x]) = l.map f
  | [] => rfl
  | x :: r => by rw [List.flatMap_cons, flat_sing f r]; rfl

structure Dims (R W : Nat → Nat) : Prop where
  r : ∀ k < 3, R k ≤ 3
  w : ∀ k < 3, W k ≤ 3

section
variable {Φ : Phi} {ρ : Rho} {μ0 μ : Mu} {Q : QV} {P R W : Nat → Nat} {RP : Nat → Nat → Nat} {M M' : Nat → Nat → Nat → Int}

theorem St.congr (H : St μ0 μ P R W RP M) (h : ∀ k < 3, ∀ i < R k, ∀ j < W k, M k i j = M' k i j) : St μ0 μ P R W RP M' :=
  { H with row := fun k hk i hi => by rw [H.row k hk i hi]; congr 2; exact rngM_congr fun j hj => by rw [h k hk i hi j hj] }
theorem St.sub1 (H : St μ0 μ P R W RP M) (hd : Dims R W) {k i : Nat} (hk : k < 3) (hi : i < R k) (q : Q (.ref (RP k i)) μ) : subP (.ref (P k)) (.int (i : Nat)) μ Q :=
  subP_list (H.top k hk) (by have := hd.r k hk; omega) (rngM_get _ _ _ hi) q
theorem St.sub2 (H : St μ0 μ P R W RP M) (hd : Dims R W) {k i j : Nat} (hk : k < 3) (hi : i < R k) (hj : j < W k) (q : Q (.int (M k i j)) μ) : subP (.ref (RP k i)) (.int (j : Nat)) μ Q :=
  subP_list (H.row k hk i hi) (by have := hd.w k hk; omega) (rngM_get _ _ _ hj) q
theorem St.ix2 (H : St μ0 μ P R W RP M) (hd : Dims R W) {k i j : Nat} (hk : k < 3) (hi : i < R k) (hj : j < W k) {a x y : X} (ha : ρ a = some (.ref (P k))) (hx : ρ x = some (.int (i : Nat))) (hy : ρ y = some (.int (j : Nat))) (q : Q (.int (M k i j)) μ) :
    wpE Φ (ix2 (vr a) (vr x) (vr y)) ρ μ Q :=
  wE_sub (wE_sub (wE_var ha (wE_var hx (H.sub1 hd hk hi (wE_var hy (H.sub2 hd hk hi hj q))))))

/-! swap_columns -/
noncomputable def swapColsM (M : Nat → Nat → Nat → Int) (k j j' : Nat) : Nat → Nat → Nat → Int := fun k' t c => if k' = k then M k' t (swp j j' c) else M k' t c
noncomputable def swpTo (M : Nat → Nat → Nat → Int) (k i j j' : Nat) : Nat → Nat → Nat → Int := fun k' t c => if k' = k ∧ t < i then M k' t (swp j j' c) else M k' t c
theorem swpTo_at (M : Nat → Nat → Nat → Int) (k i j j' c : Nat) : swpTo M k i j j' k i c = M k i c := by simp [swpTo]
theorem swpTo_0 (M : Nat → Nat → Nat → Int) (k j j' : Nat) : swpTo M k 0 j j' = M := by funext k' t c; simp [swpTo]
theorem swpTo_step (M : Nat → Nat → Nat → Int) (k i j j' k' t c : Nat) : setRowM (setRowM (swpTo M k i j j') k i fun t => if t = j then M k i j' else swpTo M k i j j' k i t) k i (fun t => if t = j' then M k i j else setRowM (swpTo M k i j j') k i (fun t => if t = j then M k i j' else swpTo M k i j j' k i t) k i t) k' t c = swpTo M k (i + 1) j j' k' t c := by
  by_cases e : k' = k ∧ t = i
  · obtain ⟨rfl, rfl⟩ := e
    simp only [setRowM, swpTo_at, and_self, if_true]
    simp only [swpTo, Nat.lt_succ_self, and_self, if_true, swp]
    by_cases c1 : c = j'
    · by_cases c2 : c = j
      · subst c1; subst c2; simp
      · subst c1; simp [c2, Ne.symm c2]
    · by_cases c2 : c = j
      · subst c2; simp [c1, Ne.symm c1]
      · simp [c1, c2]
  · simp only [setRowM, e, if_false]
    unfold swpTo
    have : (k' = k ∧ t < i) ↔ (k' = k ∧ t < i + 1) := ⟨fun h => ⟨h.1, Nat.lt_succ_of_lt h.2⟩, fun h => ⟨h.1, Nat.lt_of_le_of_ne (Nat.le_of_lt_succ h.2) fun q => e ⟨h.1, q⟩⟩⟩
    simp only [this]
theorem swpTo_end {M : Nat → Nat → Nat → Int} {R : Nat → Nat} {k j j' k' t c : Nat} (ht : t < R k') : swpTo M k (R k) j j' k' t c = swapColsM M k j j' k' t c := by
  unfold swpTo swapColsM
  by_cases e : k' = k
  · subst e; simp [ht]
  · simp [e]
theorem swapColumns_ok {n : Nat} (H : St μ0 μ P R W RP M) (hd : Dims R W) {k j j' : Nat} (hk : k < 3) (hj : j < W k) (hj' : j' < W k) (h : ∀ μ', St μ0 μ' P R W RP (swapColsM M k j j') → Q .none μ') :
    Phk (n + 1) .swapColumns [.ref (P k), .int (j : Nat), .int (j' : Nat)] μ Q := by
  refine ⟨rfl, ?_⟩
  refine wSs_cons (wS_for (wI_val (wE_var (v := .ref (P k)) rfl ⟨P k, _, _, rfl, H.top k hk, rfl, ?_⟩)))
  refine forP_all (fun i ρ μ => ρ .one = some (.int (j : Nat)) ∧ ρ .other = some (.int (j' : Nat)) ∧ St μ0 μ P R W RP (swpTo M k i j j')) _ ⟨rfl, rfl, (swpTo_0 M k j j').symm ▸ H⟩
    (fun i ρ μ J => J.2.2.top k hk) ?_ ?_
  · rintro i v ρ μ hv ⟨h1, h2, J⟩ K hn _
    obtain ⟨hi, rfl⟩ := rng_at hv
    have hw := hd.w k hk
    have hj3 : j < 1000 := Nat.lt_of_lt_of_le hj (Nat.le_trans hw (by decide))
    have hj3' : j' < 1000 := Nat.lt_of_lt_of_le hj' (Nat.le_trans hw (by decide))
    clear H h hv
    refine wSs_cons (wS_swap (wEs_cons (wE_sub (wE_var (v := .ref (RP k i)) rfl (wE_var h2 (J.sub2 hd hk hi hj' (wEs_cons (wE_sub (wE_var (v := .ref (RP k i)) rfl (wE_var h1 (J.sub2 hd hk hi hj (wEs_nil ⟨_, _, rfl, fun c hc => ?_⟩))))))))))))
    rw [swpTo_at, swpTo_at]
    have J1 := J.alloc hc (.tuple [.int (M k i j'), .int (M k i j)])
    refine wE_var (v := .ref (RP k i)) rfl (wE_var h1 (storeP_list (J1.row k hk i hi) hj3 (by rw [rngM_len]; exact hj) ?_))
    have J2 := J1.setEntry (j := j) hk hi (M k i j')
    clear J J1
    refine wE_var (v := .ref (RP k i)) rfl (wE_var h2 (storeP_list (J2.row k hk i hi) hj3' (by rw [rngM_len]; exact hj') ?_))
    exact wSs_nil (hn _ _ ⟨h1, h2, (J2.setEntry (j := j') hk hi (M k i j)).congr fun k' hk' t ht c hc => swpTo_step M k i j j' k' t c⟩)
  · rintro ρ μ ⟨h1, h2, J⟩
    rw [rngM_len] at J
    exact wSs_nil (h μ (J.congr fun k' hk' t ht c hc => swpTo_end ht))
end
end Mine

end PartML21

section PartML22
open PySem
set_option linter.unusedVariables false
set_option linter.unusedSimpArgs false
set_option linter.constructorNameAsVariable false
set_option maxRecDepth 100000
namespace Mine

section
variable {Φ : Phi} {ρ : Rho} {μ0 μ1 μ : Mu} {Q : QV} {QQ : QS} {P R W : Nat → Nat} {RP : Nat → Nat → Nat} {M M' : Nat → Nat → Nat → Int}

theorem St.allocKeep (H : St μ0 μ P R W RP M) {c : Nat} (hc : μ c = Option.none) (o : O) : St (upd μ0 c o) (upd μ c o) P R W RP M := by
  have H1 := H.alloc hc o
  refine { H1 with old := fun b o' e => ?_ }
  by_cases hb : b = c
  · subst hb
    rw [upd_self] at e; cases e
    refine ⟨upd_self _ _ _, fun k hk q => ?_, fun k hk i hi q => ?_⟩
    · have := H.top k hk; rw [← q, hc] at this; cases this
    · have := H.row k hk i hi; rw [← q, hc] at this; cases this
  · rw [upd_ne _ _ hb] at e; exact H1.old b o' e
theorem St.weaken (H : St μ1 μ P R W RP M) (h : ∀ b o, μ0 b = some o → μ1 b = some o) : St μ0 μ P R W RP M := { H with old := fun b o e => H.old b o (h b o e) }
theorem St.below (H : St μ0 μ P R W RP M) {c : Nat} (hc : μ c = Option.none) (o : O) : ∀ b o', μ0 b = some o' → upd μ0 c o b = some o' := fun b o' e => by
  have : b ≠ c := fun q => by have := (H.old b o' e).1; rw [q, hc] at this; cases this
  rw [upd_ne _ _ this]; exact e
theorem St.kept (H : St (upd μ0 c o) μ P R W RP M) : μ c = some o := (H.old c o (upd_self _ _ _)).1

theorem wS_unpack {xs : List X} {e : ME} (hn : xs.Nodup) (h : wpE Φ e ρ μ fun x μ₁ => ∃ p vs, x = .ref p ∧ μ₁ p = some (.tuple vs) ∧ xs.length = vs.length ∧ QQ .next (bndL ρ xs vs) μ₁) : wpS Φ (.unpack xs e) ρ μ QQ := ⟨hn, h⟩

/-- a[row], a[step] = a[step], a[row] -/
theorem swapRows_st (H : St μ0 μ P R W RP M) (hd : Dims R W) {k i i' : Nat} (hk : k < 3) (hi : i < R k) (hi' : i' < R k) {a x y : X} (ha : ρ a = some (.ref (P k))) (hx : ρ x = some (.int (i : Nat))) (hy : ρ y = some (.int (i' : Nat)))
    (h : ∀ μ' RP', St μ0 μ' P R W RP' (swapRowsM M k i i') → QQ .next ρ μ') : wpS Φ (.swap (vr a) (vr x) (vr a) (vr y) (esL [.sub (vr a) (vr y), .sub (vr a) (vr x)])) ρ μ QQ := by
  have hr := hd.r k hk
  refine wS_swap (wEs_cons (wE_sub (wE_var ha (wE_var hy (H.sub1 hd hk hi' (wEs_cons (wE_sub (wE_var ha (wE_var hx (H.sub1 hd hk hi (wEs_nil ⟨_, _, rfl, fun c hc => ?_⟩)))))))))))
  have J1 := H.alloc hc (.tuple [.ref (RP k i'), .ref (RP k i)])
  refine wE_var ha (wE_var hx (storeP_list (J1.top k hk) (by first | assumption | exact Nat.le_of_lt (by assumption) | exact Nat.lt_of_lt_of_le (by assumption) (by assumption) | exact Nat.lt_of_le_of_lt (by assumption) (by assumption) | exact Nat.le_trans (by assumption) (by decide) | exact Nat.lt_of_le_of_lt (by assumption) (by decide) | exact Nat.lt_of_lt_of_le (by assumption) (Nat.le_trans (by assumption) (by decide)) | exact Nat.ne_of_gt (by assumption) | exact Nat.ne_of_lt (by assumption) | exact i3a (by assumption) | exact i3b | omega) (by rw [rngM_len]; exact hi) ?_))
  refine wE_var ha (wE_var hy (storeP_list (upd_self _ _ _) (by first | assumption | exact Nat.le_of_lt (by assumption) | exact Nat.lt_of_lt_of_le (by assumption) (by assumption) | exact Nat.lt_of_le_of_lt (by assumption) (by assumption) | exact Nat.le_trans (by assumption) (by decide) | exact Nat.lt_of_le_of_lt (by assumption) (by decide) | exact Nat.lt_of_lt_of_le (by assumption) (Nat.le_trans (by assumption) (by decide)) | exact Nat.ne_of_gt (by assumption) | exact Nat.ne_of_lt (by assumption) | exact i3a (by assumption) | exact i3b | omega) (by rw [List.length_set, rngM_len]; exact hi') ?_))
  exact h _ _ (J1.swapRows hk hi hi')

theorem forP_step {src : Mu → Prop} {body : V → Rho → Mu → QS → Prop} {v : V} {r : List V} (hs : src μ) (h : body v ρ μ (fun f ρ' μ' => match f with
      | .ret w => QQ (.ret w) ρ' μ'
      | _ => forP src body r ρ' μ' QQ)) : forP src body (v :: r) ρ μ QQ := ⟨hs, h⟩
theorem forP_end {src : Mu → Prop} {body : V → Rho → Mu → QS → Prop} (hs : src μ) (h : QQ .next ρ μ) : forP src body [] ρ μ QQ := ⟨hs, h⟩

/-- for x in (a, b): the head of the loop -/
theorem for_two {x a b : X} {body : MSs} {va vb : V} (ha : ρ a = some va) (hb : ρ b = some vb) (h : ∀ c, μ c = Option.none → forP (fun μ => μ c = some (.tuple [va, vb])) (fun v ρ μ k => wpSs Φ body (bnd ρ x v) μ k) [va, vb] ρ (upd μ c (.tuple [va, vb])) fun f ρ' μ' => match f with
      | .next => QQ .next (unb ρ' x) μ'
      | f => QQ f ρ' μ') : wpS Φ (.for_ x (.val (.tuple (esL [vr a, vr b]))) body) ρ μ QQ :=
  wS_for (wI_val (wE_tuple (wEs_cons (wE_var ha (wEs_cons (wE_var hb (wEs_nil ⟨by simp, fun c hc => ⟨c, _, _, rfl, upd_self _ _ _, rfl, h c hc⟩⟩)))))))

noncomputable def bringM (M : Nat → Nat → Nat → Int) (i j st : Nat) : Nat → Nat → Nat → Int := swapColsM (swapColsM (swapRowsM (swapRowsM M 0 i st) 1 i st) 0 j st) 2 j st

theorem bring_ok {n sp i j st : Nat} (H : St μ0 μ P R W RP M) (hd : Dims R W) (e1 : R 1 = R 0) (e2 : W 2 = W 0) (hsp : μ sp = some (.tuple [.int (i : Nat), .int (j : Nat)])) (hi : i < R 0) (hj : j < W 0) (hs : st < R 0) (hs' : st < W 0)
    (h : ∀ μ' RP', St μ0 μ' P R W RP' (bringM M i j st) → Q .none μ') : Phk (n + 2) .bring [.ref (P 0), .ref (P 1), .ref (P 2), .ref sp, .int (st : Nat)] μ Q := by
  refine ⟨rfl, ?_⟩
  refine wSs_cons (wS_unpack (by decide) (wE_var (v := .ref sp) rfl ⟨sp, _, rfl, hsp, rfl, ?_⟩))
  -- the rows
  refine wSs_cons (for_two (va := .ref (P 0)) (vb := .ref (P 1)) rfl rfl fun c hc => ?_)
  have J0 := H.allocKeep hc (.tuple [.ref (P 0), .ref (P 1)])
  refine forP_step J0.kept (wSs_cons (swapRows_st J0 hd (k := 0) (i := i) (i' := st) (by decide) hi hs rfl rfl rfl fun μ1 RP1 J1 => wSs_nil ?_))
  refine forP_step J1.kept (wSs_cons (swapRows_st J1 hd (k := 1) (i := i) (i' := st) (by decide) (by rw [e1]; exact hi) (by rw [e1]; exact hs) rfl rfl rfl fun μ2 RP2 J2 => wSs_nil ?_))
  refine forP_end J2.kept ?_
  have K2 := J2.weaken (H.below hc _)
  -- the columns
  refine wSs_cons (for_two (va := .ref (P 0)) (vb := .ref (P 2)) rfl rfl fun c2 hc2 => ?_)
  have L0 := K2.allocKeep hc2 (.tuple [.ref (P 0), .ref (P 2)])
  refine forP_step L0.kept (wSs_cons (wS_expr (wE_call (wEs_cons (wE_var rfl (wEs_cons (wE_var rfl (wEs_cons (wE_var rfl (wEs_nil
    (swapColumns_ok L0 hd (k := 0) (j := j) (j' := st) (by decide) hj hs' fun μ3 L1 => ⟨rfl, wSs_nil ?_⟩)))))))))))
  refine forP_step L1.kept (wSs_cons (wS_expr (wE_call (wEs_cons (wE_var rfl (wEs_cons (wE_var rfl (wEs_cons (wE_var rfl (wEs_nil
    (swapColumns_ok L1 hd (k := 2) (j := j) (j' := st) (by decide) (by rw [e2]; exact hj) (by rw [e2]; exact hs') fun μ4 L2 => ⟨rfl, wSs_nil ?_⟩)))))))))))
  refine forP_end L2.kept (wSs_nil ?_)
  exact h μ4 RP2 (L2.weaken (K2.below hc2 _))
end
end Mine

end PartML22

section PartML23
open PySem
set_option linter.unusedVariables false
set_option linter.unusedSimpArgs false
set_option linter.constructorNameAsVariable false
set_option maxRecDepth 100000
namespace Mine

theorem fdiv_natAbs_le (a b : Int) : (a.fdiv b).natAbs ≤ a.natAbs := Int.natAbs_fdiv_le_natAbs a b
theorem mulOk_of {q x : Int} (h : q.natAbs < 2 ^ 64) : IntMulOk q x := IntMulOk.of_left (intBits_le_64 (by first | assumption | exact Nat.le_of_lt (by assumption) | exact Nat.lt_of_lt_of_le (by assumption) (by assumption) | exact Nat.lt_of_le_of_lt (by assumption) (by assumption) | exact Nat.le_trans (by assumption) (by decide) | exact Nat.lt_of_le_of_lt (by assumption) (by decide) | exact Nat.lt_of_lt_of_le (by assumption) (Nat.le_trans (by assumption) (by decide)) | exact Nat.ne_of_gt (by assumption) | exact Nat.ne_of_lt (by assumption) | exact i3a (by assumption) | exact i3b | omega) (by first | assumption | exact Nat.le_of_lt (by assumption) | exact Nat.lt_of_lt_of_le (by assumption) (by assumption) | exact Nat.lt_of_le_of_lt (by assumption) (by assumption) | exact Nat.le_trans (by assumption) (by decide) | exact Nat.lt_of_le_of_lt (by assumption) (by decide) | exact Nat.lt_of_lt_of_le (by assumption) (Nat.le_trans (by assumption) (by decide)) | exact Nat.ne_of_gt (by assumption) | exact Nat.ne_of_lt (by assumption) | exact i3a (by assumption) | exact i3b | omega))

section
variable {Φ : Phi} {ρ : Rho} {μ0 μ1 μ : Mu} {Q : QV} {QQ : QS} {P R W : Nat → Nat} {RP : Nat → Nat → Nat} {M M' : Nat → Nat → Nat → Int}

theorem st_putRow (H : St μ0 μ P R W RP M) (hd : Dims R W) {k i : Nat} (hk : k < 3) (hi : i < R k) {a x : X} (ha : ρ a = some (.ref (P k))) (hx : ρ x = some (.int (i : Nat))) (f : Nat → Int) {e : ME}
    (he : ∀ K : QV, (∀ c, μ c = Option.none → K (.ref c) (upd μ c (.list (rngM (W k) fun j => V.int (f j))))) → wpE Φ e ρ μ K)
    (h : ∀ μ' RP', St μ0 μ' P R W RP' (setRowM M k i f) → QQ .next ρ μ') : wpS Φ (.store (vr a) (vr x) e) ρ μ QQ := by
  have hr := hd.r k hk
  refine wS_store (he _ fun c hc => ?_)
  have J1 := H.alloc hc (.list (rngM (W k) fun j => V.int (f j)))
  refine wE_var ha (wE_var hx (storeP_list (J1.top k hk) (by first | assumption | exact Nat.le_of_lt (by assumption) | exact Nat.lt_of_lt_of_le (by assumption) (by assumption) | exact Nat.lt_of_le_of_lt (by assumption) (by assumption) | exact Nat.le_trans (by assumption) (by decide) | exact Nat.lt_of_le_of_lt (by assumption) (by decide) | exact Nat.lt_of_lt_of_le (by assumption) (Nat.le_trans (by assumption) (by decide)) | exact Nat.ne_of_gt (by assumption) | exact Nat.ne_of_lt (by assumption) | exact i3a (by assumption) | exact i3b | omega) (by rw [rngM_len]; exact hi) ?_))
  refine h _ _ (J1.setRow hk hi f (upd_self _ _ _) (fun k' hk' q => ?_) (fun k' hk' i' hi' q => ?_) fun o e => ?_)
  · have := H.top k' hk'; rw [← q, hc] at this; cases this
  · have := H.row k' hk' i' hi'; rw [← q, hc] at this; cases this
  · have := (H.old c o e).1; rw [hc] at this; cases this

theorem wE_neg {e : ME} (h : wpE Φ e ρ μ fun x μ₁ => ∃ i, x = .int i ∧ Q (.int (-i)) μ₁) : wpE Φ (.neg e) ρ μ Q := h
theorem row_items {n : Nat} {f : Nat → Int} {x : V × Nat} (h : x ∈ (rngM n fun j => V.int (f j)).zipIdx) : ∃ j, j < n ∧ x = (V.int (f j), j) := by
  rw [zipIdx_rng] at h
  obtain ⟨j, hj, rfl⟩ := List.mem_map.mp h
  exact ⟨j, List.mem_range.mp hj, rfl⟩
theorem flat_row {n : Nat} {f : Nat → Int} (g : V × Nat → V) : ((rngM n fun j => V.int (f j)).zipIdx).flatMap (fun x => [g x]) = rngM n fun j => g (V.int (f j), j) := by
  rw [flat_sing, zipIdx_rng]; simp [rngM, List.map_map, Function.comp_def]

/-- [elt for at, one in enumerate(e)], the turns leaving the heap alone -/
theorem wE_compE {elt : ME} {e : ME} {p n : Nat} {f g : Nat → Int} (h1 : ρ .at_ = Option.none) (h2 : ρ .one = Option.none) (hn : n ≤ 3) (hp : μ p = some (.list (rngM n fun j => V.int (f j))))
    (he : ∀ K : QV, K (.ref p) μ → wpE Φ e ρ μ K) (hb : ∀ j < n, ∀ K : QV, K (.int (g j)) μ → wpE Φ elt (bnd (bnd ρ .at_ (.int (j : Nat))) .one (.int (f j))) μ K)
    (h : ∀ c, μ c = Option.none → Q (.ref c) (upd μ c (.list (rngM n fun j => V.int (g j))))) : wpE Φ (.compE elt .at_ .one e .no) ρ μ Q := by
  refine ⟨h1, h2, he _ ⟨p, _, _, rfl, hp, rfl, by first | exact szM (by assumption) | (rw [rngM_len, sizeLine_eq]; omega), ?_⟩⟩
  refine compP_pure (fun x => [V.int (g x.2)]) hp _ _ (fun x hx K hK => ?_) ?_
  · obtain ⟨j, hj, rfl⟩ := row_items hx
    show wpE Φ elt _ μ fun y μ₄ => K [y] μ₄
    exact hb j hj _ hK
  · rw [List.nil_append, flat_row (fun x => V.int (g x.2))]
    exact h

/-- a[row] = [one - many * a[step][at] for at, one in enumerate(a[row])] -/
theorem subRow_st (H : St μ0 μ P R W RP M) (hd : Dims R W) {k i st : Nat} (hk : k < 3) (hi : i < R k) (hs : st < R k) {q : Int} (hq : q.natAbs < 2 ^ 64) (ha : ρ .a = some (.ref (P k))) (hx : ρ .row = some (.int (i : Nat)))
    (hy : ρ .step = some (.int (st : Nat))) (hm : ρ .many = some (.int q)) (h1 : ρ .at_ = Option.none) (h2 : ρ .one = Option.none)
    (h : ∀ μ' RP', St μ0 μ' P R W RP' (setRowM M k i fun j => M k i j - q * M k st j) → QQ .next ρ μ') :
    wpS Φ (.store (vr .a) (vr .row) (.compE (.bin .sub (vr .one) (.bin .mul (vr .many) (ix2 (vr .a) (vr .step) (vr .at_)))) .at_ .one (.sub (vr .a) (vr .row)) .no)) ρ μ QQ := by
  refine st_putRow H hd hk hi ha hx (fun j => M k i j - q * M k st j) (fun K hK => ?_) h
  refine wE_compE (f := fun j => M k i j) h1 h2 (hd.w k hk) (H.row k hk i hi) (fun K hK => wE_sub (wE_var ha (wE_var hx (H.sub1 hd hk hi hK)))) (fun j hj K hK => ?_) hK
  refine wE_bin (wE_var (v := .int (M k i j)) (by first | rfl | simp [bnd]) (wE_bin (wE_var (v := .int q) (by first | exact hm | simp [bnd, hm]) (H.ix2 hd hk hs hj (by first | exact ha | simp [bnd, ha]) (by first | exact hy | simp [bnd, hy]) (by first | rfl | simp [bnd]) ⟨mulOk_of hq, hK⟩))))
/-- b[step] = [one + b[row][at] for at, one in enumerate(b[step])] -/
theorem addRow_st (H : St μ0 μ P R W RP M) (hd : Dims R W) {k i st : Nat} (hk : k < 3) (hi : i < R k) (hs : st < R k) (ha : ρ .b = some (.ref (P k))) (hx : ρ .row = some (.int (i : Nat)))
    (hy : ρ .step = some (.int (st : Nat))) (h1 : ρ .at_ = Option.none) (h2 : ρ .one = Option.none)
    (h : ∀ μ' RP', St μ0 μ' P R W RP' (setRowM M k st fun j => M k st j + M k i j) → QQ .next ρ μ') :
    wpS Φ (.store (vr .b) (vr .step) (.compE (.bin .add (vr .one) (ix2 (vr .b) (vr .row) (vr .at_))) .at_ .one (.sub (vr .b) (vr .step)) .no)) ρ μ QQ := by
  refine st_putRow H hd hk hs ha hy (fun j => M k st j + M k i j) (fun K hK => ?_) h
  refine wE_compE (f := fun j => M k st j) h1 h2 (hd.w k hk) (H.row k hk st hs) (fun K hK => wE_sub (wE_var ha (wE_var hy (H.sub1 hd hk hs hK)))) (fun j hj K hK => ?_) hK
  exact wE_bin (wE_var (v := .int (M k st j)) (by first | rfl | simp [bnd]) (H.ix2 hd hk hi hj (by first | exact ha | simp [bnd, ha]) (by first | exact hx | simp [bnd, hx]) (by first | rfl | simp [bnd]) hK))
/-- b[step] = [-one for one in b[step]] -/
theorem negRow_st (H : St μ0 μ P R W RP M) (hd : Dims R W) {k st : Nat} (hk : k < 3) (hs : st < R k) (ha : ρ .b = some (.ref (P k))) (hy : ρ .step = some (.int (st : Nat))) (h2 : ρ .one = Option.none)
    (h : ∀ μ' RP', St μ0 μ' P R W RP' (setRowM M k st fun j => - M k st j) → QQ .next ρ μ') :
    wpS Φ (.store (vr .b) (vr .step) (.comp (.neg (vr .one)) .one (.val (.sub (vr .b) (vr .step))) .no)) ρ μ QQ := by
  refine st_putRow H hd hk hs ha hy (fun j => - M k st j) (fun K hK => ?_) h
  have hw := hd.w k hk
  refine ⟨h2, wI_val (wE_sub (wE_var ha (wE_var hy (H.sub1 hd hk hs ⟨RP k st, _, _, rfl, H.row k hk st hs, rfl, by first | exact szM (by assumption) | (rw [rngM_len, sizeLine_eq]; omega), ?_⟩))))⟩
  refine compP_pure (fun x => [match x with | .int i => V.int (-i) | v => v]) (H.row k hk st hs) _ _ (fun x hx K hK => ?_) ?_
  · obtain ⟨j, hj, rfl⟩ := List.mem_map.mp hx
    show wpE Φ (.neg (vr .one)) (bnd ρ .one (.int (M k st j))) μ fun y μ₄ => K [y] μ₄
    exact wE_neg (wE_var (v := .int (M k st j)) (by first | rfl | simp [bnd]) ⟨_, rfl, hK⟩)
  · rw [List.nil_append, flat_sing]
    have : (rngM (W k) fun j => V.int (M k st j)).map (fun x => match x with | .int i => V.int (-i) | v => v) = rngM (W k) fun j => V.int (- M k st j) := by
      simp [rngM, List.map_map, Function.comp_def]
    rw [this]; exact hK
end
end Mine

end PartML23

section PartML24
open PySem
set_option linter.unusedVariables false
set_option linter.unusedSimpArgs false
set_option linter.constructorNameAsVariable false
set_option maxRecDepth 100000
namespace Mine

theorem rangeV_eq (a b : Nat) {x y : Int} (hx : x = (a : Nat)) (hy : y = (b : Nat)) : rangeV x y = rngM (b - a) fun n => V.int ((a + n : Nat) : Int) := by
  subst hx; subst hy
  unfold rangeV
  have : ((b : Int) - (a : Int)).toNat = b - a := Int.toNat_sub b a
  rw [this]
  refine rngM_congr fun n _ => ?_
  simp

section
variable {Φ : Phi} {ρ : Rho} {μ0 μ1 μ : Mu} {Q : QV} {QQ : QS} {P R W : Nat → Nat} {RP : Nat → Nat → Nat} {M M' : Nat → Nat → Nat → Int}

theorem binP_sub {x y : Int} (h : Q (.int (x - y)) μ) : binP .sub (.int x) (.int y) μ Q := h
theorem binP_add {x y : Int} (h : Q (.int (x + y)) μ) : binP .add (.int x) (.int y) μ Q := h
noncomputable def subColM (M : Nat → Nat → Nat → Int) (k c st : Nat) (q : Int) : Nat → Nat → Nat → Int := fun k' t j => if k' = k ∧ j = c then M k' t j - q * M k' t st else M k' t j
theorem subCol_st (H : St μ0 μ P R W RP M) (hd : Dims R W) {k c st : Nat} (hk : k < 3) (hc : c < W k) (hs : st < W k) (hne : st ≠ c) {q : Int} (hq : q.natAbs < 2 ^ 64) (ha : ρ .a = some (.ref (P k)))
    (hx : ρ .column = some (.int (c : Nat))) (hy : ρ .step = some (.int (st : Nat))) (hm : ρ .many = some (.int q))
    (h : ∀ ρ' μ', (∀ x, x ≠ .row → ρ' x = ρ x) → St μ0 μ' P R W RP (subColM M k c st q) → QQ .next ρ' μ') :
    wpS Φ (.for_ .row (.val (vr .a)) (ssL [.store (vr .row) (vr .column) (.bin .sub (.sub (vr .row) (vr .column)) (.bin .mul (vr .many) (.sub (vr .row) (vr .step))))])) ρ μ QQ := by
  refine wS_for (wI_val (wE_var ha ⟨P k, _, _, rfl, H.top k hk, rfl, ?_⟩))
  refine forP_all (fun i ρ' μ => (∀ x, x ≠ .row → ρ' x = ρ x) ∧ St μ0 μ P R W RP (fun k' t j => if k' = k ∧ t < i ∧ j = c then M k' t j - q * M k' t st else M k' t j)) _ ⟨fun _ _ => rfl, H.congr fun k' _ t _ j _ => by simp⟩
    (fun i ρ μ J => J.2.top k hk) ?_ ?_
  · rintro i v ρi μi hv ⟨h1, J⟩ K hn _
    obtain ⟨hi, rfl⟩ := rng_at hv
    have hw := hd.w k hk
    have r1 : bnd ρi .row (.ref (RP k i)) .row = some (.ref (RP k i)) := by first | rfl | simp [bnd]
    have r2 : bnd ρi .row (.ref (RP k i)) .column = some (.int (c : Nat)) := by simp [bnd, h1, hx]
    have r3 : bnd ρi .row (.ref (RP k i)) .step = some (.int (st : Nat)) := by simp [bnd, h1, hy]
    have r4 : bnd ρi .row (.ref (RP k i)) .many = some (.int q) := by simp [bnd, h1, hm]
    refine wSs_cons (wS_store (wE_bin (wE_sub (wE_var r1 (wE_var r2 (J.sub2 hd hk hi hc (wE_bin (wE_var r4 (wE_sub (wE_var r1 (wE_var r3 (J.sub2 hd hk hi hs ⟨mulOk_of hq, binP_sub ?_⟩))))))))))))
    refine wE_var r1 (wE_var r2 (storeP_list (J.row k hk i hi) (by first | assumption | exact Nat.le_of_lt (by assumption) | exact Nat.lt_of_lt_of_le (by assumption) (by assumption) | exact Nat.lt_of_le_of_lt (by assumption) (by assumption) | exact Nat.le_trans (by assumption) (by decide) | exact Nat.lt_of_le_of_lt (by assumption) (by decide) | exact Nat.lt_of_lt_of_le (by assumption) (Nat.le_trans (by assumption) (by decide)) | exact Nat.ne_of_gt (by assumption) | exact Nat.ne_of_lt (by assumption) | exact i3a (by assumption) | exact i3b | omega) (by rw [rngM_len]; exact hc) ?_))
    refine wSs_nil (hn _ _ ⟨fun x hx' => by simp [bnd, hx', h1], (J.setEntry (j := c) hk hi _).congr fun k' hk' t ht j hj => ?_⟩)
    simp only [setRowM, Nat.lt_irrefl, false_and, and_false, if_false, and_self, if_true]
    by_cases e : k' = k
    · subst e
      by_cases e2 : t = i
      · subst e2
        by_cases e3 : j = c
        · subst e3; simp [hne]
        · simp [e3]
      · have : (t < i + 1) ↔ (t < i) := by first | assumption | exact Nat.le_of_lt (by assumption) | exact Nat.lt_of_lt_of_le (by assumption) (by assumption) | exact Nat.lt_of_le_of_lt (by assumption) (by assumption) | exact Nat.le_trans (by assumption) (by decide) | exact Nat.lt_of_le_of_lt (by assumption) (by decide) | exact Nat.lt_of_lt_of_le (by assumption) (Nat.le_trans (by assumption) (by decide)) | exact Nat.ne_of_gt (by assumption) | exact Nat.ne_of_lt (by assumption) | exact i3a (by assumption) | exact i3b | omega
        simp [e2, this]
    · simp [e]
  · rintro ρi μi ⟨h1, J⟩
    refine h _ _ (fun x hx => by simp [unb, hx, h1]) (J.congr fun k' hk' t ht j hj => ?_)
    simp only [subColM, rngM_len]
    by_cases e : k' = k
    · subst e; simp [ht]
    · simp [e]

/-- the rows' part: n rows below the step are done -/
noncomputable def rowPh (M : Nat → Nat → Nat → Int) (st : Nat) (lead : Int) (n : Nat) : Nat → Nat → Nat → Int := fun k i j => if k < 2 ∧ st < i ∧ i ≤ st + n then M k i j - (M 0 i st).fdiv lead * M k st j else M k i j
/-- the columns' part -/
noncomputable def colPh (M : Nat → Nat → Nat → Int) (st : Nat) (lead : Int) (n : Nat) : Nat → Nat → Nat → Int := fun k i j => if (k = 0 ∨ k = 2) ∧ st < j ∧ j ≤ st + n then M k i j - (M 0 st j).fdiv lead * M k i st else M k i j

structure CC (P : Nat → Nat) (st w : Nat) (lead : Int) (ρ : Rho) : Prop where
  s : ρ .s = some (.ref (P 0))
  u : ρ .u = some (.ref (P 1))
  v : ρ .v = some (.ref (P 2))
  step : ρ .step = some (.int (st : Nat))
  width : ρ .width = some (.int (w : Nat))
  lead : ρ .lead = some (.int lead)
  at_ : ρ .at_ = Option.none
  one : ρ .one = Option.none

theorem wE_andc {op : Cm} {l r : ME} {b : Bool} {x : X} (hx : ρ x = some (.bool b)) (h : if b then (wpE Φ l ρ μ fun x μ₂ => wpE Φ r ρ μ₂ fun y μ₃ => cmpP op x y μ₃ fun t => Q (.bool t) μ₃) else Q (.bool false) μ) : wpE Φ (.andc (vr x) op l r) ρ μ Q :=
  wE_var (Φ := Φ) (Q := fun x μ₁ => ∃ b, x = .bool b ∧ if b then (wpE Φ l ρ μ₁ fun x μ₂ => wpE Φ r ρ μ₂ fun y μ₃ => cmpP op x y μ₃ fun t => Q (.bool t) μ₃) else Q (.bool false) μ₁) hx ⟨b, rfl, h⟩

theorem le_or {j st n : Nat} : (j ≤ st + (n + 1)) ↔ (j ≤ st + n) ∨ j = st + 1 + n := by omega
theorem rowPh_step {M : Nat → Nat → Nat → Int} {st n : Nat} {lead q : Int} (hqq : (M 0 (st + 1 + n) st).fdiv lead = q) {k : Nat} (hk : k < 3) (i j : Nat) :
    setRowM (setRowM (rowPh M st lead n) 0 (st + 1 + n) fun j => rowPh M st lead n 0 (st + 1 + n) j - q * rowPh M st lead n 0 st j) 1 (st + 1 + n)
      (fun j => setRowM (rowPh M st lead n) 0 (st + 1 + n) (fun j => rowPh M st lead n 0 (st + 1 + n) j - q * rowPh M st lead n 0 st j) 1 (st + 1 + n) j - q * setRowM (rowPh M st lead n) 0 (st + 1 + n) (fun j => rowPh M st lead n 0 (st + 1 + n) j - q * rowPh M st lead n 0 st j) 1 st j) k i j = rowPh M st lead (n + 1) k i j := by
  simp only [setRowM, rowPh]
  by_cases e : i = st + 1 + n
  · subst e
    have a1 : ¬ st + 1 + n ≤ st + n := by first | assumption | exact Nat.le_of_lt (by assumption) | exact Nat.lt_of_lt_of_le (by assumption) (by assumption) | exact Nat.lt_of_le_of_lt (by assumption) (by assumption) | exact Nat.le_trans (by assumption) (by decide) | exact Nat.lt_of_le_of_lt (by assumption) (by decide) | exact Nat.lt_of_lt_of_le (by assumption) (Nat.le_trans (by assumption) (by decide)) | exact Nat.ne_of_gt (by assumption) | exact Nat.ne_of_lt (by assumption) | exact i3a (by assumption) | exact i3b | omega
    have a2 : ¬ st < st := by first | assumption | exact Nat.le_of_lt (by assumption) | exact Nat.lt_of_lt_of_le (by assumption) (by assumption) | exact Nat.lt_of_le_of_lt (by assumption) (by assumption) | exact Nat.le_trans (by assumption) (by decide) | exact Nat.lt_of_le_of_lt (by assumption) (by decide) | exact Nat.lt_of_lt_of_le (by assumption) (Nat.le_trans (by assumption) (by decide)) | exact Nat.ne_of_gt (by assumption) | exact Nat.ne_of_lt (by assumption) | exact i3a (by assumption) | exact i3b | omega
    have a3 : st < st + 1 + n := by first | assumption | exact Nat.le_of_lt (by assumption) | exact Nat.lt_of_lt_of_le (by assumption) (by assumption) | exact Nat.lt_of_le_of_lt (by assumption) (by assumption) | exact Nat.le_trans (by assumption) (by decide) | exact Nat.lt_of_le_of_lt (by assumption) (by decide) | exact Nat.lt_of_lt_of_le (by assumption) (Nat.le_trans (by assumption) (by decide)) | exact Nat.ne_of_gt (by assumption) | exact Nat.ne_of_lt (by assumption) | exact i3a (by assumption) | exact i3b | omega
    have a4 : st + 1 + n ≤ st + (n + 1) := by first | assumption | exact Nat.le_of_lt (by assumption) | exact Nat.lt_of_lt_of_le (by assumption) (by assumption) | exact Nat.lt_of_le_of_lt (by assumption) (by assumption) | exact Nat.le_trans (by assumption) (by decide) | exact Nat.lt_of_le_of_lt (by assumption) (by decide) | exact Nat.lt_of_lt_of_le (by assumption) (Nat.le_trans (by assumption) (by decide)) | exact Nat.ne_of_gt (by assumption) | exact Nat.ne_of_lt (by assumption) | exact i3a (by assumption) | exact i3b | omega
    have a5 : ¬ st = st + 1 + n := by first | assumption | exact Nat.le_of_lt (by assumption) | exact Nat.lt_of_lt_of_le (by assumption) (by assumption) | exact Nat.lt_of_le_of_lt (by assumption) (by assumption) | exact Nat.le_trans (by assumption) (by decide) | exact Nat.lt_of_le_of_lt (by assumption) (by decide) | exact Nat.lt_of_lt_of_le (by assumption) (Nat.le_trans (by assumption) (by decide)) | exact Nat.ne_of_gt (by assumption) | exact Nat.ne_of_lt (by assumption) | exact i3a (by assumption) | exact i3b | omega
    rcases Nat.lt_or_ge k 2 with hk2 | hk2
    · rcases (show k = 0 ∨ k = 1 by first | assumption | exact Nat.le_of_lt (by assumption) | exact Nat.lt_of_lt_of_le (by assumption) (by assumption) | exact Nat.lt_of_le_of_lt (by assumption) (by assumption) | exact Nat.le_trans (by assumption) (by decide) | exact Nat.lt_of_le_of_lt (by assumption) (by decide) | exact Nat.lt_of_lt_of_le (by assumption) (Nat.le_trans (by assumption) (by decide)) | exact Nat.ne_of_gt (by assumption) | exact Nat.ne_of_lt (by assumption) | exact i3a (by assumption) | exact i3b | omega) with rfl | rfl <;> simp [a1, a2, a3, a4, a5, hqq]
    · have : k = 2 := by first | assumption | exact Nat.le_of_lt (by assumption) | exact Nat.lt_of_lt_of_le (by assumption) (by assumption) | exact Nat.lt_of_le_of_lt (by assumption) (by assumption) | exact Nat.le_trans (by assumption) (by decide) | exact Nat.lt_of_le_of_lt (by assumption) (by decide) | exact Nat.lt_of_lt_of_le (by assumption) (Nat.le_trans (by assumption) (by decide)) | exact Nat.ne_of_gt (by assumption) | exact Nat.ne_of_lt (by assumption) | exact i3a (by assumption) | exact i3b | omega
      subst this; simp
  · have a1 := le_or (j := i) (st := st) (n := n)
    simp [e, a1]
theorem rowTurn (H : St μ0 μ P R W RP (rowPh M st lead n)) (hd : Dims R W) (e1 : R 1 = R 0) (hs : st < R 0) (hs' : st < W 0) (hi : st + 1 + n < R 0) (hl : lead ≠ 0) (hl' : lead.natAbs < 2 ^ 64) (hM : ∀ i < R 0, ∀ j < W 0, (M 0 i j).natAbs < 2 ^ 64)
    (C : CC P st (W 0) lead ρ) (hrow : ρ .row = some (.int ((st + 1 + n : Nat) : Int))) {b : Bool} (hb : ρ .isDone = some (.bool b))
    (h : ∀ ρ' μ' RP' b', CC P st (W 0) lead ρ' → ρ' .isDone = some (.bool b') → (b' = true ↔ b = true ∧ M 0 (st + 1 + n) st - (M 0 (st + 1 + n) st).fdiv lead * M 0 st st = 0) → St μ0 μ' P R W RP' (rowPh M st lead (n + 1)) → QQ .next ρ' μ') :
    wpSs Φ (ssL [
    .assign .many (.bin .fdiv (ix2 (vr .s) (vr .row) (vr .step)) (vr .lead)),
    .for_ .a (.val (.tuple (esL [vr .s, vr .u]))) (ssL [
      .store (vr .a) (vr .row) (.compE (.bin .sub (vr .one) (.bin .mul (vr .many) (ix2 (vr .a) (vr .step) (vr .at_)))) .at_ .one (.sub (vr .a) (vr .row)) .no)]),
    .assign .isDone (.andc (vr .isDone) .eq (ix2 (vr .s) (vr .row) (vr .step)) (.int 0))]) ρ μ QQ := by
  have hq0 : rowPh M st lead n 0 (st + 1 + n) st = M 0 (st + 1 + n) st := by simp [rowPh]; omega
  have hq : ((M 0 (st + 1 + n) st).fdiv lead).natAbs < 2 ^ 64 := Nat.lt_of_le_of_lt (fdiv_natAbs_le _ _) (hM _ hi _ hs')
  refine wSs_cons (wS_assign (wE_bin (H.ix2 hd (k := 0) (by decide) hi hs' C.s hrow C.step (wE_var C.lead ⟨hl, hl', ?_⟩))))
  rw [hq0]
  generalize hqq : (M 0 (st + 1 + n) st).fdiv lead = q at hq h ⊢
  refine wSs_cons (for_two (va := .ref (P 0)) (vb := .ref (P 1)) (by first | exact C.s | simp [bnd, C.s]) (by first | exact C.u | simp [bnd, C.u]) fun c hc => ?_)
  have J0 := H.allocKeep hc (.tuple [.ref (P 0), .ref (P 1)])
  refine forP_step J0.kept (wSs_cons (subRow_st J0 hd (k := 0) (i := st + 1 + n) (st := st) (q := q) (by decide) hi hs hq (by first | rfl | simp [bnd]) (by first | exact hrow | simp [bnd, hrow]) (by first | exact C.step | simp [bnd, C.step]) (by first | rfl | simp [bnd]) (by first | exact C.at_ | simp [bnd, C.at_]) (by first | exact C.one | simp [bnd, C.one]) fun μ1 RP1 J1 => wSs_nil ?_))
  refine forP_step J1.kept (wSs_cons (subRow_st J1 hd (k := 1) (i := st + 1 + n) (st := st) (q := q) (by decide) (by rw [e1]; exact hi) (by rw [e1]; exact hs) hq (by first | rfl | simp [bnd]) (by first | exact hrow | simp [bnd, hrow]) (by first | exact C.step | simp [bnd, C.step]) (by first | rfl | simp [bnd]) (by first | exact C.at_ | simp [bnd, C.at_]) (by first | exact C.one | simp [bnd, C.one]) fun μ2 RP2 J2 => wSs_nil ?_))
  refine forP_end J2.kept ?_
  have J3 : St μ0 μ2 P R W RP2 (rowPh M st lead (n + 1)) := by
    exact (J2.weaken (H.below hc _)).congr fun k hk i hi' j hj => rowPh_step hqq hk i j
  have hv : rowPh M st lead (n + 1) 0 (st + 1 + n) st = M 0 (st + 1 + n) st - q * M 0 st st := by
    have a3 : st < st + 1 + n := by first | assumption | exact Nat.le_of_lt (by assumption) | exact Nat.lt_of_lt_of_le (by assumption) (by assumption) | exact Nat.lt_of_le_of_lt (by assumption) (by assumption) | exact Nat.le_trans (by assumption) (by decide) | exact Nat.lt_of_le_of_lt (by assumption) (by decide) | exact Nat.lt_of_lt_of_le (by assumption) (Nat.le_trans (by assumption) (by decide)) | exact Nat.ne_of_gt (by assumption) | exact Nat.ne_of_lt (by assumption) | exact i3a (by assumption) | exact i3b | omega
    have a4 : st + 1 + n ≤ st + (n + 1) := by first | assumption | exact Nat.le_of_lt (by assumption) | exact Nat.lt_of_lt_of_le (by assumption) (by assumption) | exact Nat.lt_of_le_of_lt (by assumption) (by assumption) | exact Nat.le_trans (by assumption) (by decide) | exact Nat.lt_of_le_of_lt (by assumption) (by decide) | exact Nat.lt_of_lt_of_le (by assumption) (Nat.le_trans (by assumption) (by decide)) | exact Nat.ne_of_gt (by assumption) | exact Nat.ne_of_lt (by assumption) | exact i3a (by assumption) | exact i3b | omega
    simp [rowPh, a3, a4, hqq]
  refine wSs_cons (wS_assign (wE_andc (b := b) (by first | exact hb | simp [bnd, unb, hb]) ?_))
  cases b with
  | false =>
    refine iF ?_
    exact wSs_nil (h _ _ _ false ⟨by first | exact C.s | simp [bnd, unb, C.s], by first | exact C.u | simp [bnd, unb, C.u], by first | exact C.v | simp [bnd, unb, C.v], by first | exact C.step | simp [bnd, unb, C.step], by first | exact C.width | simp [bnd, unb, C.width], by first | exact C.lead | simp [bnd, unb, C.lead], by first | exact C.at_ | simp [bnd, unb, C.at_], by first | exact C.one | simp [bnd, unb, C.one]⟩ (by first | rfl | simp [bnd]) (by simp) J3)
  | true =>
    refine iT ?_
    refine J3.ix2 hd (k := 0) (by decide) hi hs' (by first | exact C.s | simp [bnd, unb, C.s]) (by first | exact hrow | simp [bnd, unb, hrow]) (by first | exact C.step | simp [bnd, unb, C.step]) (wE_int ?_)
    rw [hv]
    show wpSs Φ .nil _ _ _
    exact wSs_nil (h _ _ _ _ ⟨by first | exact C.s | simp [bnd, unb, C.s], by first | exact C.u | simp [bnd, unb, C.u], by first | exact C.v | simp [bnd, unb, C.v], by first | exact C.step | simp [bnd, unb, C.step], by first | exact C.width | simp [bnd, unb, C.width], by first | exact C.lead | simp [bnd, unb, C.lead], by first | exact C.at_ | simp [bnd, unb, C.at_], by first | exact C.one | simp [bnd, unb, C.one]⟩ (by first | rfl | simp [bnd]; rfl) (by simp) J3)
end
end Mine

end PartML24

section PartML25
open PySem
set_option linter.unusedVariables false
set_option linter.unusedSimpArgs false
set_option linter.constructorNameAsVariable false
set_option maxRecDepth 100000
namespace Mine

section
variable {Φ : Phi} {ρ : Rho} {μ0 μ1 μ : Mu} {Q : QV} {QQ : QS} {P R W : Nat → Nat} {RP : Nat → Nat → Nat} {M N M' : Nat → Nat → Nat → Int}

theorem wE_bool {b : Bool} (q : Q (.bool b) μ) : wpE Φ (.bool b) ρ μ Q := q
theorem colPh_step {N : Nat → Nat → Nat → Int} {st n : Nat} {lead q : Int} (hqq : (N 0 st (st + 1 + n)).fdiv lead = q) (hne : st ≠ st + 1 + n) {k : Nat} (hk : k < 3) (i j : Nat) :
    subColM (subColM (colPh N st lead n) 0 (st + 1 + n) st q) 2 (st + 1 + n) st q k i j = colPh N st lead (n + 1) k i j := by
  simp only [subColM, colPh]
  by_cases e : j = st + 1 + n
  · subst e
    have a1 : ¬ st + 1 + n ≤ st + n := by first | assumption | exact Nat.le_of_lt (by assumption) | exact Nat.lt_of_lt_of_le (by assumption) (by assumption) | exact Nat.lt_of_le_of_lt (by assumption) (by assumption) | exact Nat.le_trans (by assumption) (by decide) | exact Nat.lt_of_le_of_lt (by assumption) (by decide) | exact Nat.lt_of_lt_of_le (by assumption) (Nat.le_trans (by assumption) (by decide)) | exact Nat.ne_of_gt (by assumption) | exact Nat.ne_of_lt (by assumption) | exact i3a (by assumption) | exact i3b | omega
    have a2 : ¬ st < st := by first | assumption | exact Nat.le_of_lt (by assumption) | exact Nat.lt_of_lt_of_le (by assumption) (by assumption) | exact Nat.lt_of_le_of_lt (by assumption) (by assumption) | exact Nat.le_trans (by assumption) (by decide) | exact Nat.lt_of_le_of_lt (by assumption) (by decide) | exact Nat.lt_of_lt_of_le (by assumption) (Nat.le_trans (by assumption) (by decide)) | exact Nat.ne_of_gt (by assumption) | exact Nat.ne_of_lt (by assumption) | exact i3a (by assumption) | exact i3b | omega
    have a3 : st < st + 1 + n := by first | assumption | exact Nat.le_of_lt (by assumption) | exact Nat.lt_of_lt_of_le (by assumption) (by assumption) | exact Nat.lt_of_le_of_lt (by assumption) (by assumption) | exact Nat.le_trans (by assumption) (by decide) | exact Nat.lt_of_le_of_lt (by assumption) (by decide) | exact Nat.lt_of_lt_of_le (by assumption) (Nat.le_trans (by assumption) (by decide)) | exact Nat.ne_of_gt (by assumption) | exact Nat.ne_of_lt (by assumption) | exact i3a (by assumption) | exact i3b | omega
    have a4 : st + 1 + n ≤ st + (n + 1) := by first | assumption | exact Nat.le_of_lt (by assumption) | exact Nat.lt_of_lt_of_le (by assumption) (by assumption) | exact Nat.lt_of_le_of_lt (by assumption) (by assumption) | exact Nat.le_trans (by assumption) (by decide) | exact Nat.lt_of_le_of_lt (by assumption) (by decide) | exact Nat.lt_of_lt_of_le (by assumption) (Nat.le_trans (by assumption) (by decide)) | exact Nat.ne_of_gt (by assumption) | exact Nat.ne_of_lt (by assumption) | exact i3a (by assumption) | exact i3b | omega
    rcases (k3all k hk) with rfl | rfl | rfl <;> simp [a1, a2, a3, a4, hne, hqq]
  · have a1 := le_or (j := j) (st := st) (n := n)
    simp [e, a1]
theorem colTurn (H : St μ0 μ P R W RP (colPh N st lead n)) (hd : Dims R W) (e1 : W 2 = W 0) (hs : st < R 0) (hs' : st < W 0) (hj : st + 1 + n < W 0) (hl : lead ≠ 0) (hl' : lead.natAbs < 2 ^ 64) (hN : ∀ j < W 0, (N 0 st j).natAbs < 2 ^ 64)
    (C : CC P st (W 0) lead ρ) (hcol : ρ .column = some (.int ((st + 1 + n : Nat) : Int))) {b : Bool} (hb : ρ .isDone = some (.bool b))
    (h : ∀ ρ' μ' b', CC P st (W 0) lead ρ' → ρ' .isDone = some (.bool b') → (b' = true ↔ b = true ∧ N 0 st (st + 1 + n) - (N 0 st (st + 1 + n)).fdiv lead * N 0 st st = 0) → St μ0 μ' P R W RP (colPh N st lead (n + 1)) → QQ .next ρ' μ') :
    wpSs Φ (ssL [
    .assign .many (.bin .fdiv (ix2 (vr .s) (vr .step) (vr .column)) (vr .lead)),
    .for_ .a (.val (.tuple (esL [vr .s, vr .v]))) (ssL [
      .for_ .row (.val (vr .a)) (ssL [
        .store (vr .row) (vr .column) (.bin .sub (.sub (vr .row) (vr .column)) (.bin .mul (vr .many) (.sub (vr .row) (vr .step))))])]),
    .assign .isDone (.andc (vr .isDone) .eq (ix2 (vr .s) (vr .step) (vr .column)) (.int 0))]) ρ μ QQ := by
  have hq0 : colPh N st lead n 0 st (st + 1 + n) = N 0 st (st + 1 + n) := by simp [colPh]; omega
  have hq : ((N 0 st (st + 1 + n)).fdiv lead).natAbs < 2 ^ 64 := Nat.lt_of_le_of_lt (fdiv_natAbs_le _ _) (hN _ hj)
  refine wSs_cons (wS_assign (wE_bin (H.ix2 hd (k := 0) (by decide) hs hj C.s C.step hcol (wE_var C.lead ⟨hl, hl', ?_⟩))))
  rw [hq0]
  generalize hqq : (N 0 st (st + 1 + n)).fdiv lead = q at hq h ⊢
  refine wSs_cons (for_two (va := .ref (P 0)) (vb := .ref (P 2)) (by first | exact C.s | simp [bnd, C.s]) (by first | exact C.v | simp [bnd, C.v]) fun c hc => ?_)
  have J0 := H.allocKeep hc (.tuple [.ref (P 0), .ref (P 2)])
  have hne : st ≠ st + 1 + n := by first | assumption | exact Nat.le_of_lt (by assumption) | exact Nat.lt_of_lt_of_le (by assumption) (by assumption) | exact Nat.lt_of_le_of_lt (by assumption) (by assumption) | exact Nat.le_trans (by assumption) (by decide) | exact Nat.lt_of_le_of_lt (by assumption) (by decide) | exact Nat.lt_of_lt_of_le (by assumption) (Nat.le_trans (by assumption) (by decide)) | exact Nat.ne_of_gt (by assumption) | exact Nat.ne_of_lt (by assumption) | exact i3a (by assumption) | exact i3b | omega
  refine forP_step J0.kept (wSs_cons (subCol_st J0 hd (k := 0) (c := st + 1 + n) (st := st) (q := q) (by decide) hj hs' hne hq (by first | rfl | simp [bnd]) (by first | exact hcol | simp [bnd, hcol]) (by first | exact C.step | simp [bnd, C.step]) (by first | rfl | simp [bnd]) fun ρ1 μ1 g1 J1 => wSs_nil ?_))
  refine forP_step J1.kept (wSs_cons (subCol_st J1 hd (k := 2) (c := st + 1 + n) (st := st) (q := q) (by decide) (by rw [e1]; exact hj) (by rw [e1]; exact hs') hne hq (by first | rfl | simp [bnd]) (by simp [bnd, g1, hcol]) (by simp [bnd, g1, C.step]) (by first | exact g1 | simp [bnd, g1]) fun ρ2 μ2 g2 J2 => wSs_nil ?_))
  refine forP_end J2.kept ?_
  have J3 : St μ0 μ2 P R W RP (colPh N st lead (n + 1)) := by
    exact (J2.weaken (H.below hc _)).congr fun k hk i hi' j hj' => colPh_step hqq hne hk i j
  have hv : colPh N st lead (n + 1) 0 st (st + 1 + n) = N 0 st (st + 1 + n) - q * N 0 st st := by
    have a3 : st < st + 1 + n := by first | assumption | exact Nat.le_of_lt (by assumption) | exact Nat.lt_of_lt_of_le (by assumption) (by assumption) | exact Nat.lt_of_le_of_lt (by assumption) (by assumption) | exact Nat.le_trans (by assumption) (by decide) | exact Nat.lt_of_le_of_lt (by assumption) (by decide) | exact Nat.lt_of_lt_of_le (by assumption) (Nat.le_trans (by assumption) (by decide)) | exact Nat.ne_of_gt (by assumption) | exact Nat.ne_of_lt (by assumption) | exact i3a (by assumption) | exact i3b | omega
    have a4 : st + 1 + n ≤ st + (n + 1) := by first | assumption | exact Nat.le_of_lt (by assumption) | exact Nat.lt_of_lt_of_le (by assumption) (by assumption) | exact Nat.lt_of_le_of_lt (by assumption) (by assumption) | exact Nat.le_trans (by assumption) (by decide) | exact Nat.lt_of_le_of_lt (by assumption) (by decide) | exact Nat.lt_of_lt_of_le (by assumption) (Nat.le_trans (by assumption) (by decide)) | exact Nat.ne_of_gt (by assumption) | exact Nat.ne_of_lt (by assumption) | exact i3a (by assumption) | exact i3b | omega
    simp [colPh, a3, a4, hqq]
  have G : ∀ x, x ≠ .row → x ≠ .a → x ≠ .many → unb ρ2 .a x = ρ x := fun x h1 h2 h3 => by simp [unb, h2, g2 _ h1, bnd, g1 _ h1, h3]
  have Cn : CC P st (W 0) lead (unb ρ2 .a) := ⟨(G _ (by decide) (by decide) (by decide)).trans C.s, (G _ (by decide) (by decide) (by decide)).trans C.u, (G _ (by decide) (by decide) (by decide)).trans C.v,
    (G _ (by decide) (by decide) (by decide)).trans C.step, (G _ (by decide) (by decide) (by decide)).trans C.width, (G _ (by decide) (by decide) (by decide)).trans C.lead, (G _ (by decide) (by decide) (by decide)).trans C.at_, (G _ (by decide) (by decide) (by decide)).trans C.one⟩
  have Cb : ∀ v, CC P st (W 0) lead (bnd (unb ρ2 .a) .isDone v) := fun v => ⟨by first | exact Cn.s | simp [bnd, Cn.s], by first | exact Cn.u | simp [bnd, Cn.u], by first | exact Cn.v | simp [bnd, Cn.v], by first | exact Cn.step | simp [bnd, Cn.step], by first | exact Cn.width | simp [bnd, Cn.width], by first | exact Cn.lead | simp [bnd, Cn.lead], by first | exact Cn.at_ | simp [bnd, Cn.at_], by first | exact Cn.one | simp [bnd, Cn.one]⟩
  refine wSs_cons (wS_assign (wE_andc (b := b) ((G _ (by decide) (by decide) (by decide)).trans hb) ?_))
  cases b with
  | false =>
    refine iF ?_
    exact wSs_nil (h _ _ false (Cb _) (by first | rfl | simp [bnd]) (by simp) J3)
  | true =>
    refine iT ?_
    refine J3.ix2 hd (k := 0) (by decide) hs hj Cn.s Cn.step ((G _ (by decide) (by decide) (by decide)).trans hcol) (wE_int ?_)
    rw [hv]
    show wpSs Φ .nil _ _ _
    exact wSs_nil (h _ _ _ (Cb _) (by first | rfl | simp [bnd]; rfl) (by simp) J3)

/-- what clear_cross makes -/
noncomputable def clearM (M : Nat → Nat → Nat → Int) (st r w : Nat) : Nat → Nat → Nat → Int := colPh (rowPh M st (M 0 st st) (r - (st + 1))) st (M 0 st st) (w - (st + 1))

theorem clearCross_ok {n st : Nat} (H : St μ0 μ P R W RP M) (hd : Dims R W) (e1 : R 1 = R 0) (e2 : W 2 = W 0) (hs : st < R 0) (hs' : st < W 0) (hl : M 0 st st ≠ 0) (hM : ∀ i < R 0, ∀ j < W 0, (M 0 i j).natAbs < 2 ^ 64)
    (h : ∀ μ' RP' b, St μ0 μ' P R W RP' (clearM M st (R 0) (W 0)) →
      (b = true ↔ (∀ i, st < i → i < R 0 → M 0 i st - (M 0 i st).fdiv (M 0 st st) * M 0 st st = 0) ∧ ∀ j, st < j → j < W 0 → M 0 st j - (M 0 st j).fdiv (M 0 st st) * M 0 st st = 0) → Q (.bool b) μ') :
    Phk (n + 1) .clearCross [.ref (P 0), .ref (P 1), .ref (P 2), .int (st : Nat), .int (W 0 : Nat)] μ Q := by
  refine ⟨rfl, ?_⟩
  have hl' := hM st hs st hs'
  refine wSs_cons (wS_tup (by decide) (wEs_cons (H.ix2 hd (k := 0) (by decide) hs hs' (x := .step) (y := .step) rfl rfl rfl (wEs_cons (wE_bool (wEs_nil ⟨rfl, fun c hc => ?_⟩))))))
  generalize hlead : M 0 st st = lead at hl hl' h ⊢
  have J0 := H.alloc hc (.tuple [.int lead, .bool true])
  -- the rows
  refine wSs_cons (wS_for (wI_range2 (wE_bin (wE_var (v := .int (st : Nat)) rfl (wE_int (binP_add (wE_len (wE_var (v := .ref (P 0)) rfl ⟨P 0, rfl, .inl ⟨_, J0.top 0 (by decide), by rw [rngM_len, sizeLine_eq]; have := hd.r 0 (by decide); omega, ⟨_, _, rfl, rfl, by have := hd.r 0 (by decide); omega, by have := hd.r 0 (by decide); omega, by first | assumption | exact Nat.le_of_lt (by assumption) | exact Nat.lt_of_lt_of_le (by assumption) (by assumption) | exact Nat.lt_of_le_of_lt (by assumption) (by assumption) | exact Nat.le_trans (by assumption) (by decide) | exact Nat.lt_of_le_of_lt (by assumption) (by decide) | exact Nat.lt_of_lt_of_le (by assumption) (Nat.le_trans (by assumption) (by decide)) | exact Nat.ne_of_gt (by assumption) | exact Nat.ne_of_lt (by assumption) | exact i3a (by assumption) | exact i3b | omega, by rw [rngM_len]; have := hd.r 0 (by decide); omega, ?_⟩⟩⟩))))))))
  rw [rngM_len, rangeV_eq (st + 1) (R 0) (by simp) rfl]
  refine forP_all (fun k ρ μ => CC P st (W 0) lead ρ ∧ ∃ b RP', ρ .isDone = some (.bool b) ∧ (b = true ↔ ∀ i, st < i → i ≤ st + k → M 0 i st - (M 0 i st).fdiv lead * lead = 0) ∧ St μ0 μ P R W RP' (rowPh M st lead k)) _
    ⟨⟨rfl, rfl, rfl, rfl, rfl, rfl, rfl, rfl⟩, true, RP, rfl, ⟨fun _ i h1 h2 => by first | assumption | exact Nat.le_of_lt (by assumption) | exact Nat.lt_of_lt_of_le (by assumption) (by assumption) | exact Nat.lt_of_le_of_lt (by assumption) (by assumption) | exact Nat.le_trans (by assumption) (by decide) | exact Nat.lt_of_le_of_lt (by assumption) (by decide) | exact Nat.lt_of_lt_of_le (by assumption) (Nat.le_trans (by assumption) (by decide)) | exact Nat.ne_of_gt (by assumption) | exact Nat.ne_of_lt (by assumption) | exact i3a (by assumption) | exact i3b | omega, fun _ => rfl⟩, J0.congr fun k _ i _ j _ => by simp [rowPh]; intro _ h1 h2; omega⟩ (fun _ _ _ _ => trivial) ?_ ?_
  · rintro k v ρi μi hv ⟨C, b, RPi, hb, hbi, J⟩ K hn _
    obtain ⟨hk, rfl⟩ := rng_at hv
    have Ci : CC P st (W 0) lead (bnd ρi .row (.int ((st + 1 + k : Nat) : Int))) := ⟨by first | exact C.s | simp [bnd, C.s], by first | exact C.u | simp [bnd, C.u], by first | exact C.v | simp [bnd, C.v], by first | exact C.step | simp [bnd, C.step], by first | exact C.width | simp [bnd, C.width], by first | exact C.lead | simp [bnd, C.lead], by first | exact C.at_ | simp [bnd, C.at_], by first | exact C.one | simp [bnd, C.one]⟩
    refine rowTurn J hd e1 hs hs' (by first | assumption | exact Nat.le_of_lt (by assumption) | exact Nat.lt_of_lt_of_le (by assumption) (by assumption) | exact Nat.lt_of_le_of_lt (by assumption) (by assumption) | exact Nat.le_trans (by assumption) (by decide) | exact Nat.lt_of_le_of_lt (by assumption) (by decide) | exact Nat.lt_of_lt_of_le (by assumption) (Nat.le_trans (by assumption) (by decide)) | exact Nat.ne_of_gt (by assumption) | exact Nat.ne_of_lt (by assumption) | exact i3a (by assumption) | exact i3b | omega) hl hl' hM Ci (by first | rfl | simp [bnd]) (b := b) (by first | exact hb | simp [bnd, hb]) fun ρ' μ' RP' b' C' hb' hbb J' => hn _ _ ⟨C', b', RP', hb', ?_, J'⟩
    rw [hbb, hbi, hlead]
    constructor
    · rintro ⟨h1, h2⟩ i hi hi'
      by_cases e : i = st + 1 + k
      · subst e; exact h2
      · exact h1 i hi (by first | assumption | exact Nat.le_of_lt (by assumption) | exact Nat.lt_of_lt_of_le (by assumption) (by assumption) | exact Nat.lt_of_le_of_lt (by assumption) (by assumption) | exact Nat.le_trans (by assumption) (by decide) | exact Nat.lt_of_le_of_lt (by assumption) (by decide) | exact Nat.lt_of_lt_of_le (by assumption) (Nat.le_trans (by assumption) (by decide)) | exact Nat.ne_of_gt (by assumption) | exact Nat.ne_of_lt (by assumption) | exact i3a (by assumption) | exact i3b | omega)
    · intro h1
      exact ⟨fun i hi hi' => h1 i hi (by first | assumption | exact Nat.le_of_lt (by assumption) | exact Nat.lt_of_lt_of_le (by assumption) (by assumption) | exact Nat.lt_of_le_of_lt (by assumption) (by assumption) | exact Nat.le_trans (by assumption) (by decide) | exact Nat.lt_of_le_of_lt (by assumption) (by decide) | exact Nat.lt_of_lt_of_le (by assumption) (Nat.le_trans (by assumption) (by decide)) | exact Nat.ne_of_gt (by assumption) | exact Nat.ne_of_lt (by assumption) | exact i3a (by assumption) | exact i3b | omega), h1 _ (by first | assumption | exact Nat.le_of_lt (by assumption) | exact Nat.lt_of_lt_of_le (by assumption) (by assumption) | exact Nat.lt_of_le_of_lt (by assumption) (by assumption) | exact Nat.le_trans (by assumption) (by decide) | exact Nat.lt_of_le_of_lt (by assumption) (by decide) | exact Nat.lt_of_lt_of_le (by assumption) (Nat.le_trans (by assumption) (by decide)) | exact Nat.ne_of_gt (by assumption) | exact Nat.ne_of_lt (by assumption) | exact i3a (by assumption) | exact i3b | omega) (by first | assumption | exact Nat.le_of_lt (by assumption) | exact Nat.lt_of_lt_of_le (by assumption) (by assumption) | exact Nat.lt_of_le_of_lt (by assumption) (by assumption) | exact Nat.le_trans (by assumption) (by decide) | exact Nat.lt_of_le_of_lt (by assumption) (by decide) | exact Nat.lt_of_lt_of_le (by assumption) (Nat.le_trans (by assumption) (by decide)) | exact Nat.ne_of_gt (by assumption) | exact Nat.ne_of_lt (by assumption) | exact i3a (by assumption) | exact i3b | omega)⟩
  rintro ρ1 μ1 ⟨C1, b1, RP1, hb1, hbi1, J1⟩
  rw [rngM_len] at hbi1 J1
  -- the columns
  have Cu : CC P st (W 0) lead (unb ρ1 .row) := ⟨by first | exact C1.s | simp [unb, C1.s], by first | exact C1.u | simp [unb, C1.u], by first | exact C1.v | simp [unb, C1.v], by first | exact C1.step | simp [unb, C1.step], by first | exact C1.width | simp [unb, C1.width], by first | exact C1.lead | simp [unb, C1.lead], by first | exact C1.at_ | simp [unb, C1.at_], by first | exact C1.one | simp [unb, C1.one]⟩
  refine wSs_cons (wS_for (wI_range2 (wE_bin (wE_var Cu.step (wE_int (binP_add (wE_var Cu.width ⟨_, _, rfl, rfl, by have := hd.r 0 (by decide); omega, by have := hd.r 0 (by decide); omega, by first | assumption | exact Nat.le_of_lt (by assumption) | exact Nat.lt_of_lt_of_le (by assumption) (by assumption) | exact Nat.lt_of_le_of_lt (by assumption) (by assumption) | exact Nat.le_trans (by assumption) (by decide) | exact Nat.lt_of_le_of_lt (by assumption) (by decide) | exact Nat.lt_of_lt_of_le (by assumption) (Nat.le_trans (by assumption) (by decide)) | exact Nat.ne_of_gt (by assumption) | exact Nat.ne_of_lt (by assumption) | exact i3a (by assumption) | exact i3b | omega, by have := hd.w 0 (by decide); omega, ?_⟩)))))))
  rw [rangeV_eq (st + 1) (W 0) (by simp) rfl]
  have hN0 : ∀ j, rowPh M st lead (R 0 - (st + 1)) 0 st j = M 0 st j := fun j => by simp [rowPh]
  refine forP_all (fun k ρ μ => CC P st (W 0) lead ρ ∧ ∃ b, ρ .isDone = some (.bool b) ∧ (b = true ↔ (∀ i, st < i → i < R 0 → M 0 i st - (M 0 i st).fdiv lead * lead = 0) ∧ ∀ j, st < j → j ≤ st + k → M 0 st j - (M 0 st j).fdiv lead * lead = 0) ∧
      St μ0 μ P R W RP1 (colPh (rowPh M st lead (R 0 - (st + 1))) st lead k)) _
    ⟨Cu, b1, by first | exact hb1 | simp [unb, hb1], by
      rw [hbi1]
      exact ⟨fun h1 => ⟨fun i hi hi' => h1 i hi (by first | assumption | exact Nat.le_of_lt (by assumption) | exact Nat.lt_of_lt_of_le (by assumption) (by assumption) | exact Nat.lt_of_le_of_lt (by assumption) (by assumption) | exact Nat.le_trans (by assumption) (by decide) | exact Nat.lt_of_le_of_lt (by assumption) (by decide) | exact Nat.lt_of_lt_of_le (by assumption) (Nat.le_trans (by assumption) (by decide)) | exact Nat.ne_of_gt (by assumption) | exact Nat.ne_of_lt (by assumption) | exact i3a (by assumption) | exact i3b | omega), fun j h1 h2 => by first | assumption | exact Nat.le_of_lt (by assumption) | exact Nat.lt_of_lt_of_le (by assumption) (by assumption) | exact Nat.lt_of_le_of_lt (by assumption) (by assumption) | exact Nat.le_trans (by assumption) (by decide) | exact Nat.lt_of_le_of_lt (by assumption) (by decide) | exact Nat.lt_of_lt_of_le (by assumption) (Nat.le_trans (by assumption) (by decide)) | exact Nat.ne_of_gt (by assumption) | exact Nat.ne_of_lt (by assumption) | exact i3a (by assumption) | exact i3b | omega⟩, fun h1 i hi hi' => h1.1 i hi (by first | assumption | exact Nat.le_of_lt (by assumption) | exact Nat.lt_of_lt_of_le (by assumption) (by assumption) | exact Nat.lt_of_le_of_lt (by assumption) (by assumption) | exact Nat.le_trans (by assumption) (by decide) | exact Nat.lt_of_le_of_lt (by assumption) (by decide) | exact Nat.lt_of_lt_of_le (by assumption) (Nat.le_trans (by assumption) (by decide)) | exact Nat.ne_of_gt (by assumption) | exact Nat.ne_of_lt (by assumption) | exact i3a (by assumption) | exact i3b | omega)⟩, J1.congr fun k _ i _ j _ => by simp [colPh]; intro _ h1 h2; omega⟩ (fun _ _ _ _ => trivial) ?_ ?_
  · rintro k v ρi μi hv ⟨C, b, hb, hbi, J⟩ K hn _
    obtain ⟨hk, rfl⟩ := rng_at hv
    have Ci : CC P st (W 0) lead (bnd ρi .column (.int ((st + 1 + k : Nat) : Int))) := ⟨by first | exact C.s | simp [bnd, C.s], by first | exact C.u | simp [bnd, C.u], by first | exact C.v | simp [bnd, C.v], by first | exact C.step | simp [bnd, C.step], by first | exact C.width | simp [bnd, C.width], by first | exact C.lead | simp [bnd, C.lead], by first | exact C.at_ | simp [bnd, C.at_], by first | exact C.one | simp [bnd, C.one]⟩
    refine colTurn J hd e2 hs hs' (by first | assumption | exact Nat.le_of_lt (by assumption) | exact Nat.lt_of_lt_of_le (by assumption) (by assumption) | exact Nat.lt_of_le_of_lt (by assumption) (by assumption) | exact Nat.le_trans (by assumption) (by decide) | exact Nat.lt_of_le_of_lt (by assumption) (by decide) | exact Nat.lt_of_lt_of_le (by assumption) (Nat.le_trans (by assumption) (by decide)) | exact Nat.ne_of_gt (by assumption) | exact Nat.ne_of_lt (by assumption) | exact i3a (by assumption) | exact i3b | omega) hl hl' (fun j hj => by rw [hN0]; exact hM _ hs _ hj) Ci (by first | rfl | simp [bnd]) (b := b) (by first | exact hb | simp [bnd, hb]) fun ρ' μ' b' C' hb' hbb J' => hn _ _ ⟨C', b', hb', ?_, J'⟩
    rw [hbb, hbi, hN0, hN0, hlead]
    constructor
    · rintro ⟨⟨h0, h1⟩, h2⟩
      refine ⟨h0, fun i hi hi' => ?_⟩
      by_cases e : i = st + 1 + k
      · subst e; exact h2
      · exact h1 i hi (by first | assumption | exact Nat.le_of_lt (by assumption) | exact Nat.lt_of_lt_of_le (by assumption) (by assumption) | exact Nat.lt_of_le_of_lt (by assumption) (by assumption) | exact Nat.le_trans (by assumption) (by decide) | exact Nat.lt_of_le_of_lt (by assumption) (by decide) | exact Nat.lt_of_lt_of_le (by assumption) (Nat.le_trans (by assumption) (by decide)) | exact Nat.ne_of_gt (by assumption) | exact Nat.ne_of_lt (by assumption) | exact i3a (by assumption) | exact i3b | omega)
    · rintro ⟨h0, h1⟩
      exact ⟨⟨h0, fun i hi hi' => h1 i hi (by first | assumption | exact Nat.le_of_lt (by assumption) | exact Nat.lt_of_lt_of_le (by assumption) (by assumption) | exact Nat.lt_of_le_of_lt (by assumption) (by assumption) | exact Nat.le_trans (by assumption) (by decide) | exact Nat.lt_of_le_of_lt (by assumption) (by decide) | exact Nat.lt_of_lt_of_le (by assumption) (Nat.le_trans (by assumption) (by decide)) | exact Nat.ne_of_gt (by assumption) | exact Nat.ne_of_lt (by assumption) | exact i3a (by assumption) | exact i3b | omega)⟩, h1 _ (by first | assumption | exact Nat.le_of_lt (by assumption) | exact Nat.lt_of_lt_of_le (by assumption) (by assumption) | exact Nat.lt_of_le_of_lt (by assumption) (by assumption) | exact Nat.le_trans (by assumption) (by decide) | exact Nat.lt_of_le_of_lt (by assumption) (by decide) | exact Nat.lt_of_lt_of_le (by assumption) (Nat.le_trans (by assumption) (by decide)) | exact Nat.ne_of_gt (by assumption) | exact Nat.ne_of_lt (by assumption) | exact i3a (by assumption) | exact i3b | omega) (by first | assumption | exact Nat.le_of_lt (by assumption) | exact Nat.lt_of_lt_of_le (by assumption) (by assumption) | exact Nat.lt_of_le_of_lt (by assumption) (by assumption) | exact Nat.le_trans (by assumption) (by decide) | exact Nat.lt_of_le_of_lt (by assumption) (by decide) | exact Nat.lt_of_lt_of_le (by assumption) (Nat.le_trans (by assumption) (by decide)) | exact Nat.ne_of_gt (by assumption) | exact Nat.ne_of_lt (by assumption) | exact i3a (by assumption) | exact i3b | omega)⟩
  rintro ρ2 μ2 ⟨C2, b2, hb2, hbi2, J2⟩
  rw [rngM_len] at hbi2 J2
  refine wSs_cons (wS_ret (wE_var (v := .bool b2) (by first | exact hb2 | simp [unb, hb2]) ?_))
  refine h _ RP1 b2 (by unfold clearM; rw [hlead]; exact J2) ?_
  rw [hbi2]
  exact ⟨fun h1 => ⟨h1.1, fun j h2 h3 => h1.2 j h2 (by first | assumption | exact Nat.le_of_lt (by assumption) | exact Nat.lt_of_lt_of_le (by assumption) (by assumption) | exact Nat.lt_of_le_of_lt (by assumption) (by assumption) | exact Nat.le_trans (by assumption) (by decide) | exact Nat.lt_of_le_of_lt (by assumption) (by decide) | exact Nat.lt_of_lt_of_le (by assumption) (Nat.le_trans (by assumption) (by decide)) | exact Nat.ne_of_gt (by assumption) | exact Nat.ne_of_lt (by assumption) | exact i3a (by assumption) | exact i3b | omega)⟩, fun h1 => ⟨h1.1, fun j h2 h3 => h1.2 j h2 (by first | assumption | exact Nat.le_of_lt (by assumption) | exact Nat.lt_of_lt_of_le (by assumption) (by assumption) | exact Nat.lt_of_le_of_lt (by assumption) (by assumption) | exact Nat.le_trans (by assumption) (by decide) | exact Nat.lt_of_le_of_lt (by assumption) (by decide) | exact Nat.lt_of_lt_of_le (by assumption) (Nat.le_trans (by assumption) (by decide)) | exact Nat.ne_of_gt (by assumption) | exact Nat.ne_of_lt (by assumption) | exact i3a (by assumption) | exact i3b | omega)⟩⟩
end
end Mine

end PartML25

section PartML26
open PySem
set_option linter.unusedVariables false
set_option linter.unusedSimpArgs false
set_option linter.constructorNameAsVariable false
set_option maxRecDepth 100000
namespace Mine

section
variable {Φ : Phi} {ρ : Rho} {μ0 μ1 μ : Mu} {Q : QV} {QQ : QS} {P R W : Nat → Nat} {RP : Nat → Nat → Nat} {M N M' : Nat → Nat → Nat → Int}

theorem cmp_gt {x y : Int} {K : Bool → Prop} (h : K (decide (x > y))) : cmpP .gt (.int x) (.int y) μ K := h
theorem cmp_lt {x y : Int} {K : Bool → Prop} (h : K (decide (x < y))) : cmpP .lt (.int x) (.int y) μ K := h
theorem cmp_eq {x y : Int} {K : Bool → Prop} (h : K (decide (x = y))) : cmpP .eq (.int x) (.int y) μ K := h
theorem cmp_ne {x y : Int} {K : Bool → Prop} (h : K (decide (x ≠ y))) : cmpP .ne (.int x) (.int y) μ K := h
theorem cmp_isNone {v : V} {K : Bool → Prop} (h : K (decide (v = .none))) : cmpP .isNone v .none μ K := h
theorem cmp_isNotNone {v : V} {K : Bool → Prop} (h : K (decide (v ≠ .none))) : cmpP .isNotNone v .none μ K := h
theorem wE_none (q : Q .none μ) : wpE Φ .none ρ μ Q := q

/-- the best of the spots that were looked at -/
noncomputable def Best (S : Nat → Nat → Int) (st : Nat) (pr : Nat → Nat → Prop) (μ : Mu) (v : V) : Prop :=
  (v = .none ∧ ∀ i j, pr i j → S i j = 0) ∨ ∃ (sp i j : Nat), v = .ref sp ∧ μ sp = some (.tuple [.int (i : Nat), .int (j : Nat)]) ∧ pr i j ∧ S i j ≠ 0 ∧ (∀ i' j', pr i' j' → S i' j' ≠ 0 → (S i j).natAbs ≤ (S i' j').natAbs) ∧
    ((i = st ∧ j = st) ∨ S st st = 0 ∨ (S i j).natAbs < (S st st).natAbs)
theorem Best.congr {S : Nat → Nat → Int} {st : Nat} {pr pr' : Nat → Nat → Prop} {v : V} (B : Best S st pr μ v) (h : ∀ i j, pr i j ↔ pr' i j) : Best S st pr' μ v := by
  have : pr = pr' := funext fun i => funext fun j => propext (h i j)
  exact this ▸ B

section
variable {S : Nat → Nat → Int} {st row col : Nat} {pr : Nat → Nat → Prop} {v : V}
theorem Best.zero (B : Best S st pr μ v) (hz : S row col = 0) : Best S st (fun i j => pr i j ∨ (i = row ∧ j = col)) μ v := by
  rcases B with ⟨e, B⟩ | ⟨sp, i, j, e1, e2, hp, hne, hmin, hst⟩
  · refine .inl ⟨e, fun i j hij => ?_⟩
    rcases hij with hij | ⟨q1, q2⟩
    · exact B i j hij
    · rw [q1, q2]; exact hz
  · refine .inr ⟨sp, i, j, e1, e2, .inl hp, hne, fun i' j' hij hne' => ?_, hst⟩
    rcases hij with hij | ⟨q1, q2⟩
    · exact hmin i' j' hij hne'
    · rw [q1, q2] at hne'; exact absurd hz hne'
theorem Best.first {c : Nat} (B : ∀ i j, pr i j → S i j = 0) (hz : S row col ≠ 0) (hfirst : (row = st ∧ col = st) ∨ pr st st) (hc : μ c = some (.tuple [.int (row : Nat), .int (col : Nat)])) : Best S st (fun i j => pr i j ∨ (i = row ∧ j = col)) μ (.ref c) := by
  refine .inr ⟨c, row, col, rfl, hc, .inr ⟨rfl, rfl⟩, hz, fun i' j' hij hne' => ?_, ?_⟩
  · rcases hij with hij | ⟨q1, q2⟩
    · exact absurd (B i' j' hij) hne'
    · rw [q1, q2]; exact Nat.le_refl _
  · rcases hfirst with q | q
    · exact .inl q
    · exact .inr (.inl (B _ _ q))
theorem Best.less {c i j : Nat} (hz : S row col ≠ 0) (hmin : ∀ i' j', pr i' j' → S i' j' ≠ 0 → (S i j).natAbs ≤ (S i' j').natAbs) (hst : (i = st ∧ j = st) ∨ S st st = 0 ∨ (S i j).natAbs < (S st st).natAbs) (hlt : (S row col).natAbs < (S i j).natAbs) (hc : μ c = some (.tuple [.int (row : Nat), .int (col : Nat)])) :
    Best S st (fun i j => pr i j ∨ (i = row ∧ j = col)) μ (.ref c) := by
  refine .inr ⟨c, row, col, rfl, hc, .inr ⟨rfl, rfl⟩, hz, fun i' j' hij hne' => ?_, ?_⟩
  · rcases hij with hij | ⟨q1, q2⟩
    · exact Nat.le_trans (Nat.le_of_lt hlt) (hmin i' j' hij hne')
    · rw [q1, q2]; exact Nat.le_refl _
  · rcases hst with ⟨q1, q2⟩ | q | q
    · rw [q1, q2] at hlt; exact .inr (.inr hlt)
    · exact .inr (.inl q)
    · exact .inr (.inr (Nat.lt_trans hlt q))
theorem Best.more {sp i j : Nat} (e : μ sp = some (.tuple [.int (i : Nat), .int (j : Nat)])) (hp : pr i j) (hne : S i j ≠ 0) (hmin : ∀ i' j', pr i' j' → S i' j' ≠ 0 → (S i j).natAbs ≤ (S i' j').natAbs) (hst : (i = st ∧ j = st) ∨ S st st = 0 ∨ (S i j).natAbs < (S st st).natAbs) (hlt : ¬ (S row col).natAbs < (S i j).natAbs) :
    Best S st (fun i j => pr i j ∨ (i = row ∧ j = col)) μ (.ref sp) := by
  refine .inr ⟨sp, i, j, rfl, e, .inl hp, hne, fun i' j' hij hne' => ?_, hst⟩
  rcases hij with hij | ⟨q1, q2⟩
  · exact hmin i' j' hij hne'
  · rw [q1, q2]; exact Nat.not_lt.mp hlt
end

theorem leastTurn {row col st w : Nat} {pr : Nat → Nat → Prop} {v : V} (H : St μ0 μ P R W RP M) (hd : Dims R W) (hr : row < R 0) (hc : col < W 0) (hpr : ∀ i j, pr i j → i < R 0 ∧ j < W 0)
    (hfirst : (row = st ∧ col = st) ∨ pr st st) (ha : ρ .a = some (.ref (P 0))) (h1 : ρ .row = some (.int (row : Nat))) (h2 : ρ .column = some (.int (col : Nat))) (h3 : ρ .found = some v) (B : Best (M 0) st pr μ v)
    (h : ∀ ρ' μ' v', (∀ x, x ≠ .size → x ≠ .found → ρ' x = ρ x) → ρ' .found = some v' → St μ0 μ' P R W RP M → Best (M 0) st (fun i j => pr i j ∨ (i = row ∧ j = col)) μ' v' → QQ .next ρ' μ') :
    wpSs Φ (ssL [
      .assign .size (.abs (ix2 (vr .a) (vr .row) (vr .column))),
      .ite (.and (.cmp .gt (vr .size) (.int 0)) (.or (.cmp .isNone (vr .found) .none) (.cmp .lt (vr .size) (.abs (ix2 (vr .a) (.sub (vr .found) (.int 0)) (.sub (vr .found) (.int 1)))))))
        (ssL [.assign .found (.tuple (esL [vr .row, vr .column]))]) .nil]) ρ μ QQ := by
  refine wSs_cons (wS_assign (wE_abs (H.ix2 hd (k := 0) (by decide) hr hc ha h1 h2 ⟨_, rfl, ?_⟩)))
  refine wSs_cons (wS_ite (wT_and (wT_cmp (wE_var (v := .int ((M 0 row col).natAbs : Nat)) (by first | rfl | simp [bnd]) (wE_int (cmp_gt ?_))))))
  have keep : ∀ (hB : Best (M 0) st (fun i j => pr i j ∨ (i = row ∧ j = col)) μ v), QQ .next (bnd ρ .size (.int ((M 0 row col).natAbs : Nat))) μ := fun hB =>
    h _ μ v (fun x hx _ => by first | exact hx | simp [bnd, hx]) (by first | exact h3 | simp [bnd, h3]) H hB
  have take : (∀ c, μ c = Option.none → Best (M 0) st (fun i j => pr i j ∨ (i = row ∧ j = col)) (upd μ c (.tuple [.int (row : Nat), .int (col : Nat)])) (.ref c)) →
      wpSs Φ (ssL [.assign .found (.tuple (esL [vr .row, vr .column]))]) (bnd ρ .size (.int ((M 0 row col).natAbs : Nat))) μ QQ := fun hB => by
    refine wSs_cons (wS_assign (wE_tuple (wEs_cons (wE_var (v := .int (row : Nat)) (by first | exact h1 | simp [bnd, h1]) (wEs_cons (wE_var (v := .int (col : Nat)) (by first | exact h2 | simp [bnd, h2]) (wEs_nil ⟨by simp, fun c hc => wSs_nil ?_⟩)))))))
    exact h _ _ (.ref c) (fun x hx hx' => by simp [bnd, hx, hx']) (by first | rfl | simp [bnd]) (H.alloc hc _) (hB c hc)
  by_cases hz : M 0 row col = 0
  · have hf : ¬ ((M 0 row col).natAbs : Int) > 0 := by rw [hz]; decide
    exact ifF hf (wSs_nil (Φ := Φ) (wSs_nil (Φ := Φ) (keep (B.zero hz))))
  · refine ifT (Int.natCast_pos.mpr (Int.natAbs_pos.mpr hz)) ?_
    refine wT_or (wT_cmp (wE_var (v := v) (by first | exact h3 | simp [bnd, h3]) (wE_none (cmp_isNone ?_))))
    rcases B with ⟨e, B⟩ | ⟨sp, i, j, e0, e, hp, hne, hmin, hst⟩
    · exact ifT e (take fun c hc => Best.first B hz hfirst (upd_self _ _ _))
    · have hnn : ¬ (v = V.none) := fun q => by rw [e0] at q; cases q
      refine ifF hnn ?_
      obtain ⟨hi, hj⟩ := hpr i j hp
      have hi3 : i < 1000 := Nat.lt_of_lt_of_le hi (Nat.le_trans (hd.r 0 (by decide)) (by decide))
      have hj3 : j < 1000 := Nat.lt_of_lt_of_le hj (Nat.le_trans (hd.w 0 (by decide)) (by decide))
      rw [e0] at h3 keep
      refine wT_cmp (wE_var (v := .int ((M 0 row col).natAbs : Nat)) (by first | rfl | simp [bnd]) (wE_abs (wE_sub (wE_sub (wE_var (v := .ref (P 0)) (by first | exact ha | simp [bnd, ha]) (wE_sub (wE_var (v := .ref sp) (by first | exact h3 | simp [bnd, h3]) (wE_int (subP_tuple (i := 0) e (by first | assumption | exact Nat.le_of_lt (by assumption) | exact Nat.lt_of_lt_of_le (by assumption) (by assumption) | exact Nat.lt_of_le_of_lt (by assumption) (by assumption) | exact Nat.le_trans (by assumption) (by decide) | exact Nat.lt_of_le_of_lt (by assumption) (by decide) | exact Nat.lt_of_lt_of_le (by assumption) (Nat.le_trans (by assumption) (by decide)) | exact Nat.ne_of_gt (by assumption) | exact Nat.ne_of_lt (by assumption) | exact i3a (by assumption) | exact i3b | omega) rfl (H.sub1 hd (k := 0) (by decide) hi
        (wE_sub (wE_var (v := .ref sp) (by first | exact h3 | simp [bnd, h3]) (wE_int (subP_tuple (i := 1) e (by first | assumption | exact Nat.le_of_lt (by assumption) | exact Nat.lt_of_lt_of_le (by assumption) (by assumption) | exact Nat.lt_of_le_of_lt (by assumption) (by assumption) | exact Nat.le_trans (by assumption) (by decide) | exact Nat.lt_of_le_of_lt (by assumption) (by decide) | exact Nat.lt_of_lt_of_le (by assumption) (Nat.le_trans (by assumption) (by decide)) | exact Nat.ne_of_gt (by assumption) | exact Nat.ne_of_lt (by assumption) | exact i3a (by assumption) | exact i3b | omega) rfl (H.sub2 hd (k := 0) (by decide) hi hj ⟨_, rfl, cmp_lt ?_⟩)))))))))))))))
      by_cases hlt : (M 0 row col).natAbs < (M 0 i j).natAbs
      · exact ifT (Int.ofNat_lt.mpr hlt) (take fun c hc => Best.less hz hmin hst hlt (upd_self _ _ _))
      · exact ifF (fun q => hlt (Int.ofNat_lt.mp q)) (wSs_nil (Φ := Φ) (wSs_nil (Φ := Φ) (keep (Best.more e hp hne hmin hst hlt))))

theorem ls_zero {P a : Prop} {st j : Nat} : P ↔ (P ∨ (a ∧ st ≤ j ∧ j < st + 0)) := ⟨.inl, fun h => by
  rcases h with h | ⟨_, b, c⟩
  · exact h
  · omega⟩
theorem ls_step {P a : Prop} {st j k' : Nat} : ((P ∨ (a ∧ st ≤ j ∧ j < st + k')) ∨ (a ∧ j = st + k')) ↔ (P ∨ (a ∧ st ≤ j ∧ j < st + (k' + 1))) := by
  constructor
  · rintro ((h | ⟨a, b, c⟩) | ⟨a, b⟩)
    · exact .inl h
    · exact .inr ⟨a, b, Nat.lt_succ_of_lt c⟩
    · exact .inr ⟨a, b ▸ Nat.le_add_right _ _, b ▸ Nat.lt_succ_self _⟩
  · rintro (h | ⟨a, b, c⟩)
    · exact .inl (.inl h)
    · by_cases q : j = st + k'
      · exact .inr ⟨a, q⟩
      · exact .inl (.inr ⟨a, b, Nat.lt_of_le_of_ne (Nat.le_of_lt_succ c) q⟩)
theorem ls_row {st k W i j : Nat} (h : st ≤ W) : ((st ≤ i ∧ i < st + k ∧ st ≤ j ∧ j < W) ∨ (i = st + k ∧ st ≤ j ∧ j < st + (W - st))) ↔ (st ≤ i ∧ i < st + (k + 1) ∧ st ≤ j ∧ j < W) := by
  rw [Nat.add_sub_cancel' h]
  constructor
  · rintro (⟨a, b, c, d⟩ | ⟨a, b, c⟩)
    · exact ⟨a, Nat.lt_succ_of_lt b, c, d⟩
    · exact ⟨a ▸ Nat.le_add_right _ _, a ▸ Nat.lt_succ_self _, b, c⟩
  · rintro ⟨a, b, c, d⟩
    by_cases q : i = st + k
    · exact .inr ⟨q, c, d⟩
    · exact .inl ⟨a, Nat.lt_of_le_of_ne (Nat.le_of_lt_succ b) q, c, d⟩
theorem lt_of_sub {a b c : Nat} (h : b < c - a) : a + b < c := by omega
theorem ls_in {st k k' R W i j : Nat} (hk : st + k < R) (hk' : st + k' < W) (h : (st ≤ i ∧ i < st + k ∧ st ≤ j ∧ j < W) ∨ (i = st + k ∧ st ≤ j ∧ j < st + k')) : i < R ∧ j < W := by
  rcases h with ⟨_, a, _, b⟩ | ⟨a, _, b⟩
  · exact ⟨Nat.lt_trans a hk, b⟩
  · exact ⟨a ▸ hk, Nat.lt_trans b hk'⟩
theorem ls_first {st k k' W : Nat} (hW : st < W) : (st + k = st ∧ st + k' = st) ∨ ((st ≤ st ∧ st < st + k ∧ st ≤ st ∧ st < W) ∨ (st = st + k ∧ st ≤ st ∧ st < st + k')) := by
  cases k with
  | zero => cases k' with
    | zero => exact .inl ⟨rfl, rfl⟩
    | succ m => exact .inr (.inr ⟨rfl, Nat.le_refl _, Nat.lt_add_of_pos_right (Nat.succ_pos m)⟩)
  | succ m => exact .inr (.inl ⟨Nat.le_refl _, Nat.lt_add_of_pos_right (Nat.succ_pos m), Nat.le_refl _, hW⟩)
theorem leastSpot_ok {n st : Nat} (H : St μ0 μ P R W RP M) (hd : Dims R W) (hs : st ≤ R 0) (hs' : st ≤ W 0)
    (h : ∀ μ' v, St μ0 μ' P R W RP M → Best (M 0) st (fun i j => st ≤ i ∧ i < R 0 ∧ st ≤ j ∧ j < W 0) μ' v → Q v μ') : Phk (n + 1) .leastSpot [.ref (P 0), .int (st : Nat), .int (W 0 : Nat)] μ Q := by
  refine ⟨rfl, ?_⟩
  have hR := hd.r 0 (by decide)
  have hW := hd.w 0 (by decide)
  refine wSs_cons (wS_assign (wE_none ?_))
  refine wSs_cons (wS_for (wI_range2 (wE_var (v := .int (st : Nat)) rfl (wE_len (wE_var (v := .ref (P 0)) rfl ⟨P 0, rfl, .inl ⟨_, H.top 0 (by decide), by first | exact szM (by assumption) | (rw [rngM_len, sizeLine_eq]; omega), ⟨_, _, rfl, rfl, by first | assumption | exact Nat.le_of_lt (by assumption) | exact Nat.lt_of_lt_of_le (by assumption) (by assumption) | exact Nat.lt_of_le_of_lt (by assumption) (by assumption) | exact Nat.le_trans (by assumption) (by decide) | exact Nat.lt_of_le_of_lt (by assumption) (by decide) | exact Nat.lt_of_lt_of_le (by assumption) (Nat.le_trans (by assumption) (by decide)) | exact Nat.ne_of_gt (by assumption) | exact Nat.ne_of_lt (by assumption) | exact i3a (by assumption) | exact i3b | omega, by first | assumption | exact Nat.le_of_lt (by assumption) | exact Nat.lt_of_lt_of_le (by assumption) (by assumption) | exact Nat.lt_of_le_of_lt (by assumption) (by assumption) | exact Nat.le_trans (by assumption) (by decide) | exact Nat.lt_of_le_of_lt (by assumption) (by decide) | exact Nat.lt_of_lt_of_le (by assumption) (Nat.le_trans (by assumption) (by decide)) | exact Nat.ne_of_gt (by assumption) | exact Nat.ne_of_lt (by assumption) | exact i3a (by assumption) | exact i3b | omega, by first | assumption | exact Nat.le_of_lt (by assumption) | exact Nat.lt_of_lt_of_le (by assumption) (by assumption) | exact Nat.lt_of_le_of_lt (by assumption) (by assumption) | exact Nat.le_trans (by assumption) (by decide) | exact Nat.lt_of_le_of_lt (by assumption) (by decide) | exact Nat.lt_of_lt_of_le (by assumption) (Nat.le_trans (by assumption) (by decide)) | exact Nat.ne_of_gt (by assumption) | exact Nat.ne_of_lt (by assumption) | exact i3a (by assumption) | exact i3b | omega, by rw [rngM_len]; omega, ?_⟩⟩⟩)))))
  rw [rngM_len, rangeV_eq st (R 0) rfl rfl]
  refine forP_all (fun k ρ μ => ρ .a = some (.ref (P 0)) ∧ ρ .step = some (.int (st : Nat)) ∧ ρ .width = some (.int (W 0 : Nat)) ∧ ∃ v, ρ .found = some v ∧ St μ0 μ P R W RP M ∧ Best (M 0) st (fun i j => st ≤ i ∧ i < st + k ∧ st ≤ j ∧ j < W 0) μ v) _
    ⟨rfl, rfl, rfl, .none, rfl, H, .inl ⟨rfl, fun i j hij => by first | assumption | exact Nat.le_of_lt (by assumption) | exact Nat.lt_of_lt_of_le (by assumption) (by assumption) | exact Nat.lt_of_le_of_lt (by assumption) (by assumption) | exact Nat.le_trans (by assumption) (by decide) | exact Nat.lt_of_le_of_lt (by assumption) (by decide) | exact Nat.lt_of_lt_of_le (by assumption) (Nat.le_trans (by assumption) (by decide)) | exact Nat.ne_of_gt (by assumption) | exact Nat.ne_of_lt (by assumption) | exact i3a (by assumption) | exact i3b | omega⟩⟩ (fun _ _ _ _ => trivial) ?_ ?_
  · rintro k v ρi μi hv ⟨c1, c2, c3, f, c4, J, B⟩ K hn _
    obtain ⟨hk, rfl⟩ := rng_at hv
    refine wSs_cons (wS_for (wI_range2 (wE_var (v := .int (st : Nat)) (by first | exact c2 | simp [bnd, c2]) (wE_var (v := .int (W 0 : Nat)) (by first | exact c3 | simp [bnd, c3]) ⟨_, _, rfl, rfl, by first | assumption | exact Nat.le_of_lt (by assumption) | exact Nat.lt_of_lt_of_le (by assumption) (by assumption) | exact Nat.lt_of_le_of_lt (by assumption) (by assumption) | exact Nat.le_trans (by assumption) (by decide) | exact Nat.lt_of_le_of_lt (by assumption) (by decide) | exact Nat.lt_of_lt_of_le (by assumption) (Nat.le_trans (by assumption) (by decide)) | exact Nat.ne_of_gt (by assumption) | exact Nat.ne_of_lt (by assumption) | exact i3a (by assumption) | exact i3b | omega, by first | assumption | exact Nat.le_of_lt (by assumption) | exact Nat.lt_of_lt_of_le (by assumption) (by assumption) | exact Nat.lt_of_le_of_lt (by assumption) (by assumption) | exact Nat.le_trans (by assumption) (by decide) | exact Nat.lt_of_le_of_lt (by assumption) (by decide) | exact Nat.lt_of_lt_of_le (by assumption) (Nat.le_trans (by assumption) (by decide)) | exact Nat.ne_of_gt (by assumption) | exact Nat.ne_of_lt (by assumption) | exact i3a (by assumption) | exact i3b | omega, by first | assumption | exact Nat.le_of_lt (by assumption) | exact Nat.lt_of_lt_of_le (by assumption) (by assumption) | exact Nat.lt_of_le_of_lt (by assumption) (by assumption) | exact Nat.le_trans (by assumption) (by decide) | exact Nat.lt_of_le_of_lt (by assumption) (by decide) | exact Nat.lt_of_lt_of_le (by assumption) (Nat.le_trans (by assumption) (by decide)) | exact Nat.ne_of_gt (by assumption) | exact Nat.ne_of_lt (by assumption) | exact i3a (by assumption) | exact i3b | omega, by first | assumption | exact Nat.le_of_lt (by assumption) | exact Nat.lt_of_lt_of_le (by assumption) (by assumption) | exact Nat.lt_of_le_of_lt (by assumption) (by assumption) | exact Nat.le_trans (by assumption) (by decide) | exact Nat.lt_of_le_of_lt (by assumption) (by decide) | exact Nat.lt_of_lt_of_le (by assumption) (Nat.le_trans (by assumption) (by decide)) | exact Nat.ne_of_gt (by assumption) | exact Nat.ne_of_lt (by assumption) | exact i3a (by assumption) | exact i3b | omega, ?_⟩))))
    rw [rangeV_eq st (W 0) rfl rfl]
    refine forP_all (fun k' ρ μ => ρ .a = some (.ref (P 0)) ∧ ρ .step = some (.int (st : Nat)) ∧ ρ .width = some (.int (W 0 : Nat)) ∧ ρ .row = some (.int ((st + k : Nat) : Int)) ∧ ∃ v, ρ .found = some v ∧ St μ0 μ P R W RP M ∧
        Best (M 0) st (fun i j => (st ≤ i ∧ i < st + k ∧ st ≤ j ∧ j < W 0) ∨ (i = st + k ∧ st ≤ j ∧ j < st + k')) μ v) _
      ⟨by first | exact c1 | simp [bnd, c1], by first | exact c2 | simp [bnd, c2], by first | exact c3 | simp [bnd, c3], by first | rfl | simp [bnd], f, by first | exact c4 | simp [bnd, c4], J, B.congr fun i j => ls_zero⟩ (fun _ _ _ _ => trivial) ?_ ?_
    · rintro k' v' ρj μj hv' ⟨d1, d2, d3, d4, f', d5, J', B'⟩ K' hn' _
      have hk' : k' < W 0 - st := by
        have := (List.getElem?_eq_some_iff.mp hv').1; rwa [rngM_len] at this
      rw [rngM_get _ _ _ hk'] at hv'
      cases hv'
      refine leastTurn (row := st + k) (col := st + k') (w := 0) J' hd (lt_of_sub hk) (lt_of_sub hk') (fun i j hij => ls_in (lt_of_sub hk) (lt_of_sub hk') hij) (ls_first (Nat.lt_of_le_of_lt (Nat.le_add_right _ _) (lt_of_sub hk'))) (by first | exact d1 | simp [bnd, d1]) (by first | exact d4 | simp [bnd, d4]) (by first | rfl | simp [bnd]) (by first | exact d5 | simp [bnd, d5]) B' fun ρ' μ' v'' hk1 hk2 J'' B'' => ?_
      refine hn' _ _ ⟨by rw [hk1 _ (by decide) (by decide)]; simp [bnd, d1], by rw [hk1 _ (by decide) (by decide)]; simp [bnd, d2], by rw [hk1 _ (by decide) (by decide)]; simp [bnd, d3], by rw [hk1 _ (by decide) (by decide)]; simp [bnd, d4], v'', hk2, J'', B''.congr fun i j => ls_step⟩
    · rintro ρj μj ⟨d1, d2, d3, d4, f', d5, J', B'⟩
      refine wSs_nil (hn _ _ ⟨by first | exact d1 | simp [unb, d1], by first | exact d2 | simp [unb, d2], by first | exact d3 | simp [unb, d3], f', by first | exact d5 | simp [unb, d5], J', B'.congr fun i j => ?_⟩)
      rw [rngM_len]; exact ls_row hs'
  · rintro ρi μi ⟨c1, c2, c3, f, c4, J, B⟩
    refine wSs_cons (wS_ret (wE_var (v := f) (by first | exact c4 | simp [unb, c4]) ?_))
    refine h _ _ J (B.congr fun i j => ?_)
    rw [rngM_len, Nat.add_sub_cancel' hs]
end
end Mine

end PartML26

section PartML27
open PySem
set_option linter.unusedVariables false
set_option linter.unusedSimpArgs false
set_option linter.constructorNameAsVariable false
set_option maxRecDepth 100000
namespace Mine

section
variable {Φ : Phi} {ρ : Rho} {μ0 μ1 μ : Mu} {Q : QV} {QQ : QS} {P R W : Nat → Nat} {RP : Nat → Nat → Nat} {M N M' : Nat → Nat → Nat → Int}

theorem flat_if {α : Type} (p : α → Bool) (v : V) : ∀ l : List α, l.flatMap (fun x => if p x then [v] else []) = List.replicate (l.filter p).length v
  | [] => rfl
  | x :: r => by
    rw [List.flatMap_cons, flat_if p v r, List.filter_cons]
    split <;> simp [List.replicate_succ]
theorem ones_int (n : Nat) : List.replicate n (V.int 1) = (List.replicate n (1 : Int)).map V.int := by simp

theorem rng2_all {st W : Nat} {p : Nat → Prop} : (∀ j < W - (st + 1), p (st + 1 + j)) ↔ ∀ j, st < j → j < W → p j := by
  constructor
  · intro h j h1 h2
    have := h (j - (st + 1)) (Nat.sub_lt_sub_right h1 h2)
    rwa [Nat.add_sub_cancel' h1] at this
  · intro h j hj
    exact h _ (Nat.lt_of_lt_of_le (Nat.lt_succ_self st) (Nat.le_add_right _ _)) (Nat.add_lt_of_lt_sub' hj)
theorem undivided_list {i st : Nat} (J : St μ0 μ P R W RP M) (hd : Dims R W) (hi : i < R 0) (hs : st < R 0) (hs' : st < W 0) (hl : M 0 st st ≠ 0) (d1 : ρ .s = some (.ref (P 0))) (d2 : ρ .step = some (.int (st : Nat))) (d3 : ρ .width = some (.int (W 0 : Nat))) (d4 : ρ .column = Option.none) (d5 : ρ .row = some (.int (i : Nat)))
    (h : ∀ c (ns : List Int), (ns = [] ↔ ∀ j, st < j → j < W 0 → (M 0 i j).fmod (M 0 st st) = 0) → μ c = Option.none → Q (.ref c) (upd μ c (.list (ns.map V.int)))) :
    wpE Φ (.comp (.int 1) .column (.range2 (.bin .add (vr .step) (.int 1)) (vr .width)) (.yes (.cmp .ne (.bin .mod (ix2 (vr .s) (vr .row) (vr .column)) (ix2 (vr .s) (vr .step) (vr .step))) (.int 0)))) ρ μ Q := by
  have hW := hd.w 0 (by decide)
  have hst : st < 3 := Nat.lt_of_lt_of_le hs' hW
  have hlen : W 0 - (st + 1) ≤ 3 := Nat.le_trans (Nat.sub_le _ _) hW
  refine ⟨d4, wI_range2 (wE_bin (wE_var d2 (wE_int (binP_add (wE_var d3 ⟨_, _, rfl, rfl, by omega, by omega, by omega, by omega, ?_⟩)))))⟩
  rw [rangeV_eq (st + 1) (W 0) (by simp) rfl]
  refine ⟨szM hlen, ?_⟩
  refine compP_pure (fun x => if (fun x : V => match x with | .int j => !decide ((M 0 i j.toNat).fmod (M 0 st st) = 0) | _ => false) x then [V.int 1] else []) trivial _ _ (fun x hx K hK => ?_) ?_
  · obtain ⟨j, hj, rfl⟩ := List.mem_map.mp hx
    have hj' : st + 1 + j < W 0 := Nat.add_lt_of_lt_sub' (List.mem_range.mp hj)
    show wpT Φ (.cmp .ne (.bin .mod (ix2 (vr .s) (vr .row) (vr .column)) (ix2 (vr .s) (vr .step) (vr .step))) (.int 0)) (bnd ρ .column (.int ((st + 1 + j : Nat) : Int))) μ _
    refine wT_cmp (wE_bin (J.ix2 hd (k := 0) (i := i) (j := st + 1 + j) (by decide) hi hj' d1 d5 rfl (J.ix2 hd (k := 0) (by decide) hs hs' d1 d2 d2 ⟨hl, wE_int (cmp_ne ?_)⟩)))
    simp only [Int.toNat_natCast] at hK
    by_cases hz : (M 0 i (st + 1 + j)).fmod (M 0 st st) = 0
    · simp only [hz, decide_true, Bool.not_true, Bool.false_eq_true, if_false] at hK
      exact ifF (fun q => q hz) hK
    · simp only [hz, decide_false, Bool.not_false, if_true] at hK
      exact ifT hz (wE_int hK)
  · rw [List.nil_append, flat_if, ones_int]
    intro c hcn
    refine h c _ ?_ hcn
    rw [List.replicate_eq_nil_iff, List.length_eq_zero_iff, List.filter_eq_nil_iff, ← rng2_all (p := fun j => (M 0 i j).fmod (M 0 st st) = 0)]
    constructor
    · intro H j hj
      have this : ¬ ((!decide ((M 0 i ((((st + 1 + j : Nat) : Int)).toNat)).fmod (M 0 st st) = 0)) = true) := H _ (List.mem_map.mpr ⟨j, List.mem_range.mpr hj, rfl⟩)
      rw [Int.toNat_natCast] at this
      simpa using this
    · intro H x hx
      obtain ⟨j, hj, rfl⟩ := List.mem_map.mp hx
      show ¬ ((!decide ((M 0 i ((((st + 1 + j : Nat) : Int)).toNat)).fmod (M 0 st st) = 0)) = true)
      rw [Int.toNat_natCast, decide_eq_true (H j (List.mem_range.mp hj))]
      exact fun q => by cases q

theorem undividedRow_ok {n st : Nat} (H : St μ0 μ P R W RP M) (hd : Dims R W) (hs : st < R 0) (hs' : st < W 0) (hl : M 0 st st ≠ 0)
    (h : ∀ μ' v, St μ0 μ' P R W RP M → ((v = .none ∧ ∀ i j, st < i → i < R 0 → st < j → j < W 0 → (M 0 i j).fmod (M 0 st st) = 0) ∨
      ∃ i : Nat, v = .int (i : Nat) ∧ st < i ∧ i < R 0 ∧ ∃ j, st < j ∧ j < W 0 ∧ (M 0 i j).fmod (M 0 st st) ≠ 0) → Q v μ') : Phk (n + 1) .undividedRow [.ref (P 0), .int (st : Nat), .int (W 0 : Nat)] μ Q := by
  refine ⟨rfl, ?_⟩
  have hR := hd.r 0 (by decide)
  refine wSs_cons (wS_for (wI_range2 (wE_bin (wE_var (v := .int (st : Nat)) rfl (wE_int (binP_add (wE_len (wE_var (v := .ref (P 0)) rfl ⟨P 0, rfl, .inl ⟨_, H.top 0 (by decide), szM hR, ⟨_, _, rfl, rfl, by omega, by omega, by omega, by rw [rngM_len]; omega, ?_⟩⟩⟩))))))))
  rw [rngM_len, rangeV_eq (st + 1) (R 0) (by simp) rfl]
  refine forP_all (fun k ρ μ => ρ .s = some (.ref (P 0)) ∧ ρ .step = some (.int (st : Nat)) ∧ ρ .width = some (.int (W 0 : Nat)) ∧ ρ .column = Option.none ∧ St μ0 μ P R W RP M ∧ ∀ i j, st < i → i < st + 1 + k → st < j → j < W 0 → (M 0 i j).fmod (M 0 st st) = 0) _
    ⟨rfl, rfl, rfl, rfl, H, fun i j h1 h2 => absurd h2 (Nat.not_lt.mpr h1)⟩ (fun _ _ _ _ => trivial) ?_ ?_
  · rintro k v ρi μi hv ⟨c1, c2, c3, c4, J, B⟩ K hn hret
    obtain ⟨hk, rfl⟩ := rng_at hv
    have hi : st + 1 + k < R 0 := Nat.add_lt_of_lt_sub' hk
    have hsi : st < st + 1 + k := Nat.lt_of_lt_of_le (Nat.lt_succ_self st) (Nat.le_add_right _ _)
    refine wSs_cons (wS_ite (wT_cmp (undivided_list (i := st + 1 + k) J hd hi hs hs' hl c1 c2 c3 c4 rfl fun c ns hns hc => ?_)))
    refine wE_list (wEs_nil ⟨by simp, fun c' hc' => ?_⟩)
    have hne : c ≠ c' := fun q => by rw [q, upd_self] at hc'; cases hc'
    refine ⟨ns, (upd_ne _ _ hne).trans (upd_self _ _ _), upd_self _ _ _, ?_⟩
    have J1 := (J.alloc hc (.list (ns.map V.int))).alloc hc' (.list [])
    cases ns with
    | nil =>
      have hall := hns.mp rfl
      refine iF (wSs_nil (wSs_nil (hn _ _ ⟨c1, c2, c3, c4, J1, fun i j h1 h2 h3 h4 => ?_⟩)))
      by_cases e : i = st + 1 + k
      · subst e; exact hall j h3 h4
      · exact B i j h1 (Nat.lt_of_le_of_ne (Nat.le_of_lt_succ h2) e) h3 h4
    | cons x ns =>
      have hex : ∃ j, st < j ∧ j < W 0 ∧ (M 0 (st + 1 + k) j).fmod (M 0 st st) ≠ 0 := by
        apply Classical.byContradiction; intro hno
        have := hns.mpr fun j h1 h2 => Classical.byContradiction fun h3 => hno ⟨j, h1, h2, h3⟩
        cases this
      exact iT (wSs_cons (wS_ret (wE_var (v := .int ((st + 1 + k : Nat) : Int)) rfl (hret _ _ _ (h _ _ J1 (.inr ⟨st + 1 + k, rfl, hsi, hi, hex⟩))))))
  · rintro ρi μi ⟨c1, c2, c3, c4, J, B⟩
    rw [rngM_len, Nat.add_sub_cancel' (show st + 1 ≤ R 0 from hs)] at B
    exact wSs_cons (wS_ret (wE_none (h _ _ J (.inl ⟨rfl, B⟩))))
end
end Mine

end PartML27

section PartML28
open PySem
set_option linter.unusedVariables false
set_option linter.unusedSimpArgs false
set_option linter.constructorNameAsVariable false
set_option maxRecDepth 100000
namespace Mine

noncomputable abbrev Ext (μ μ' : Mu) : Prop := ∀ b o, μ b = some o → μ' b = some o
theorem Ext.alloc {μ μ' : Mu} (h : Ext μ μ') {c : Nat} (hc : μ' c = Option.none) (o : O) : Ext μ (upd μ' c o) := fun b o' e => by
  have h1 := h b o' e
  have : b ≠ c := fun q => by rw [q, hc] at h1; cases h1
  exact (upd_ne _ _ this).trans h1
theorem Ext.none {μ μ' : Mu} (h : Ext μ μ') {c : Nat} (hc : μ' c = Option.none) : μ c = Option.none := by
  cases e : μ c with
  | none => rfl
  | some o => rw [h c o e] at hc; cases hc

structure Fresh (μ μ' : Mu) (p r w : Nat) (rp : Nat → Nat) (f : Nat → Nat → Int) : Prop where
  ext : Ext μ μ'
  np : μ p = Option.none
  nr : ∀ i < r, μ (rp i) = Option.none
  top : μ' p = some (.list (rngM r fun i => V.ref (rp i)))
  row : ∀ i < r, μ' (rp i) = some (.list (rngM w fun j => V.int (f i j)))
  inj : ∀ i < r, ∀ i' < r, rp i = rp i' → i = i'
  pr : ∀ i < r, p ≠ rp i

section
variable {Φ : Phi} {ρ : Rho} {μ0 μ1 μ : Mu} {Q : QV} {QQ : QS}

theorem rngM_succ {α : Type} (n : Nat) (f : Nat → α) : rngM (n + 1) f = rngM n f ++ [f n] := by simp [rngM, List.range_succ]

/-- a comprehension whose every turn makes a row -/
theorem rows_comp {α : Type} {items : List α} {src : Mu → Prop} {body : α → Mu → (List V → Mu → Prop) → Prop} {w : Nat} {f : Nat → Nat → Int} (hs : ∀ μk, Ext μ μk → src μk)
    (turn : ∀ k x, items[k]? = some x → ∀ μk, Ext μ μk → ∀ K : List V → Mu → Prop, (∀ c, μk c = Option.none → K [.ref c] (upd μk c (.list (rngM w fun j => V.int (f k j))))) → body x μk K)
    (h : ∀ p rp μ', Fresh μ μ' p items.length w rp f → Q (.ref p) μ') : compP src body items [] μ (fun acc μ₅ => ∀ c, μ₅ c = Option.none → Q (.ref c) (upd μ₅ c (.list acc))) := by
  refine compP_inv (fun k acc μk => ∃ rp : Nat → Nat, acc = rngM k (fun i => V.ref (rp i)) ∧ Ext μ μk ∧ (∀ i < k, μ (rp i) = Option.none) ∧ (∀ i < k, μk (rp i) = some (.list (rngM w fun j => V.int (f i j)))) ∧ ∀ i < k, ∀ i' < k, rp i = rp i' → i = i') items
    ⟨fun _ => 0, rfl, fun _ _ e => e, fun i hi => absurd hi (Nat.not_lt_zero _), fun i hi => absurd hi (Nat.not_lt_zero _), fun i hi => absurd hi (Nat.not_lt_zero _)⟩ (fun k acc μk ⟨_, _, e, _⟩ => hs μk e) ?_ ?_
  · rintro k x acc μk hx ⟨rp, rfl, e, h1, h2, h3⟩ K hK
    refine turn k x hx μk e K fun c hc => hK _ _ ⟨fun i => if i = k then c else rp i, ?_, e.alloc hc _, fun i hi => ?_, fun i hi => ?_, fun i hi i' hi' q => ?_⟩
    · rw [rngM_succ]
      congr 1
      · refine rngM_congr fun i hi => ?_
        simp [Nat.ne_of_lt hi]
      · simp
    · by_cases q : i = k
      · simp only [q, if_true]; exact e.none hc
      · simp only [q, if_false]; exact h1 i (Nat.lt_of_le_of_ne (Nat.le_of_lt_succ hi) q)
    · by_cases q : i = k
      · simp only [q, if_true]; rw [upd_self]
      · simp only [q, if_false]
        have h4 := h2 i (Nat.lt_of_le_of_ne (Nat.le_of_lt_succ hi) q)
        rw [upd_ne _ _ fun r => by rw [r, hc] at h4; cases h4]; exact h4
    · have ne : ∀ i < k, rp i ≠ c := fun i hi r => by have := h2 i hi; rw [r, hc] at this; cases this
      by_cases q1 : i = k <;> by_cases q2 : i' = k
      · exact q1.trans q2.symm
      · simp only [q1, q2, if_true, if_false] at q; exact absurd q.symm (ne i' (Nat.lt_of_le_of_ne (Nat.le_of_lt_succ hi') q2))
      · simp only [q1, q2, if_true, if_false] at q; exact absurd q (ne i (Nat.lt_of_le_of_ne (Nat.le_of_lt_succ hi) q1))
      · simp only [q1, q2, if_false] at q; exact h3 i (Nat.lt_of_le_of_ne (Nat.le_of_lt_succ hi) q1) i' (Nat.lt_of_le_of_ne (Nat.le_of_lt_succ hi') q2) q
  · rintro acc μk ⟨rp, rfl, e, h1, h2, h3⟩ c hc
    have ne : ∀ i < items.length, rp i ≠ c := fun i hi r => by have := h2 i hi; rw [r, hc] at this; cases this
    exact h c rp _ ⟨e.alloc hc _, e.none hc, h1, upd_self _ _ _, fun i hi => (upd_ne _ _ (ne i hi)).trans (h2 i hi), h3, fun i hi q => ne i hi q.symm⟩

theorem rangeV_0 (m : Nat) : rangeV 0 (m : Nat) = rngM m fun n => V.int (n : Nat) := by
  rw [show (0 : Int) = ((0 : Nat) : Int) from rfl, rangeV_eq 0 m rfl rfl]; simp
theorem wI_rng1 {x : X} {K : List V → (Mu → Prop) → Mu → Prop} {n : Nat} (hx : ρ x = some (.int (n : Nat))) (hn : n ≤ 100) (h : K (rngM n fun i => V.int (i : Nat)) (fun _ => True) μ) : wpI Φ (.range1 (vr x)) ρ μ K :=
  ⟨_, hx, _, rfl, by first | assumption | exact Nat.le_of_lt (by assumption) | exact Nat.lt_of_lt_of_le (by assumption) (by assumption) | exact Nat.lt_of_le_of_lt (by assumption) (by assumption) | exact Nat.le_trans (by assumption) (by decide) | exact Nat.lt_of_le_of_lt (by assumption) (by decide) | exact Nat.lt_of_lt_of_le (by assumption) (Nat.le_trans (by assumption) (by decide)) | exact Nat.ne_of_gt (by assumption) | exact Nat.ne_of_lt (by assumption) | exact i3a (by assumption) | exact i3b | omega, by first | assumption | exact Nat.le_of_lt (by assumption) | exact Nat.lt_of_lt_of_le (by assumption) (by assumption) | exact Nat.lt_of_le_of_lt (by assumption) (by assumption) | exact Nat.le_trans (by assumption) (by decide) | exact Nat.lt_of_le_of_lt (by assumption) (by decide) | exact Nat.lt_of_lt_of_le (by assumption) (Nat.le_trans (by assumption) (by decide)) | exact Nat.ne_of_gt (by assumption) | exact Nat.ne_of_lt (by assumption) | exact i3a (by assumption) | exact i3b | omega, by rw [rangeV_0]; exact h⟩
noncomputable def unitF : Nat → Nat → Int := fun i j => if i = j then 1 else 0
theorem unitRows_ok {n m : Nat} (hm : m ≤ 3) (h : ∀ p rp μ', Fresh μ μ' p m m rp unitF → Q (.ref p) μ') : Phk (n + 1) .unitRows [.int (m : Nat)] μ Q := by
  refine ⟨rfl, ?_⟩
  refine wSs_cons (wS_ret ⟨rfl, wI_rng1 rfl (by first | assumption | exact Nat.le_of_lt (by assumption) | exact Nat.lt_of_lt_of_le (by assumption) (by assumption) | exact Nat.lt_of_le_of_lt (by assumption) (by assumption) | exact Nat.le_trans (by assumption) (by decide) | exact Nat.lt_of_le_of_lt (by assumption) (by decide) | exact Nat.lt_of_lt_of_le (by assumption) (Nat.le_trans (by assumption) (by decide)) | exact Nat.ne_of_gt (by assumption) | exact Nat.ne_of_lt (by assumption) | exact i3a (by assumption) | exact i3b | omega) ?_⟩)
  refine ⟨by first | exact szM (by assumption) | (rw [rngM_len, sizeLine_eq]; omega), ?_⟩
  refine rows_comp (w := m) (f := unitF) (fun _ _ => trivial) (fun k x hx μk e K hK => ?_) (fun p rp μ' F => h p rp μ' (by rw [rngM_len] at F; exact F))
  obtain ⟨hk, rfl⟩ := rng_at hx
  show wpE (Phk n) (.comp (.ite (.cmp .eq (vr .row) (vr .column)) (.int 1) (.int 0)) .column (.range1 (vr .n)) .no) (bnd _ .row (.int ((k : Nat) : Int))) μk fun y μ₄ => K [y] μ₄
  refine ⟨rfl, wI_rng1 rfl (by first | assumption | exact Nat.le_of_lt (by assumption) | exact Nat.lt_of_lt_of_le (by assumption) (by assumption) | exact Nat.lt_of_le_of_lt (by assumption) (by assumption) | exact Nat.le_trans (by assumption) (by decide) | exact Nat.lt_of_le_of_lt (by assumption) (by decide) | exact Nat.lt_of_lt_of_le (by assumption) (Nat.le_trans (by assumption) (by decide)) | exact Nat.ne_of_gt (by assumption) | exact Nat.ne_of_lt (by assumption) | exact i3a (by assumption) | exact i3b | omega) ?_⟩
  refine ⟨by first | exact szM (by assumption) | (rw [rngM_len, sizeLine_eq]; omega), ?_⟩
  refine compP_pure (fun x => [match x with | .int j => V.int (unitF k j.toNat) | v => v]) trivial _ _ (fun x hx K2 hK2 => ?_) ?_
  · obtain ⟨j, hj, rfl⟩ := List.mem_map.mp hx
    show wpE (Phk n) (.ite (.cmp .eq (vr .row) (vr .column)) (.int 1) (.int 0)) (bnd _ .column (.int ((j : Nat) : Int))) μk fun y μ₄ => K2 [y] μ₄
    refine wE_ite (wT_cmp (wE_var (v := .int ((k : Nat) : Int)) rfl (wE_var (v := .int ((j : Nat) : Int)) rfl (cmp_eq ?_))))
    simp only [Int.toNat_natCast, unitF] at hK2 ⊢
    by_cases q : k = j
    · subst q; simp only [decide_true, if_true] at hK2 ⊢; exact wE_int hK2
    · have q' : ¬ ((k : Nat) : Int) = ((j : Nat) : Int) := by first | assumption | exact Nat.le_of_lt (by assumption) | exact Nat.lt_of_lt_of_le (by assumption) (by assumption) | exact Nat.lt_of_le_of_lt (by assumption) (by assumption) | exact Nat.le_trans (by assumption) (by decide) | exact Nat.lt_of_le_of_lt (by assumption) (by decide) | exact Nat.lt_of_lt_of_le (by assumption) (Nat.le_trans (by assumption) (by decide)) | exact Nat.ne_of_gt (by assumption) | exact Nat.ne_of_lt (by assumption) | exact i3a (by assumption) | exact i3b | omega
      simp only [q, q', decide_false, Bool.false_eq_true, if_false] at hK2 ⊢; exact wE_int hK2
  · rw [List.nil_append, flat_sing]
    have : (rngM m fun n => V.int (n : Nat)).map (fun x => match x with | .int j => V.int (unitF k j.toNat) | v => v) = rngM m fun j => V.int (unitF k j) := by
      simp [rngM, List.map_map, Function.comp_def]
    rw [this]; exact hK

/-- a matrix that is only read -/
structure MatIn (μ : Mu) (p r w : Nat) (rp : Nat → Nat) (A : Nat → Nat → Int) : Prop where
  top : μ p = some (.list (rngM r fun i => V.ref (rp i)))
  row : ∀ i < r, μ (rp i) = some (.list (rngM w fun j => V.int (A i j)))
theorem MatIn.ext {μ μ' : Mu} {p r w : Nat} {rp : Nat → Nat} {A : Nat → Nat → Int} (H : MatIn μ p r w rp A) (e : Ext μ μ') : MatIn μ' p r w rp A := ⟨e _ _ H.top, fun i hi => e _ _ (H.row i hi)⟩

/-- [list(row) for row in a] -/
theorem copy_ok {p r w : Nat} {rp : Nat → Nat} {A : Nat → Nat → Int} (H : MatIn μ p r w rp A) (hr : r ≤ 3) (hw : w ≤ 3) (ha : ρ .a = some (.ref p)) (hrow : ρ .row = Option.none) (h : ∀ p rp μ', Fresh μ μ' p r w rp A → Q (.ref p) μ') :
    wpE Φ (.comp (.toList (vr .row)) .row (.val (vr .a)) .no) ρ μ Q := by
  refine ⟨hrow, wI_val (wE_var ha ⟨p, _, _, rfl, H.top, rfl, by first | exact szM (by assumption) | (rw [rngM_len, sizeLine_eq]; omega), ?_⟩)⟩
  refine rows_comp (w := w) (f := A) (fun μk e => e _ _ H.top) (fun k x hx μk e K hK => ?_) (fun p rp μ' F => h p rp μ' (by rw [rngM_len] at F; exact F))
  obtain ⟨hk, rfl⟩ := rng_at hx
  show wpE Φ (.toList (vr .row)) (bnd ρ .row (.ref (rp k))) μk fun y μ₄ => K [y] μ₄
  exact wE_var (Φ := Φ) (Q := fun x μ₁ => ∃ p vs, x = V.ref p ∧ μ₁ p = some (.list vs) ∧ vs.length ≤ sizeLine ∧ ∀ c, μ₁ c = Option.none → K [.ref c] (upd μ₁ c (.list vs))) (x := .row) (v := .ref (rp k)) (by first | rfl | simp [bnd]) ⟨rp k, _, rfl, e _ _ (H.row k hk), by first | exact szM (by assumption) | (rw [rngM_len, sizeLine_eq]; omega), hK⟩
end
end Mine

end PartML28

section PartML29
open PySem
set_option linter.unusedVariables false
set_option linter.unusedSimpArgs false
set_option linter.constructorNameAsVariable false
set_option maxRecDepth 100000
namespace Mine

noncomputable def startM (A : Nat → Nat → Int) : Nat → Nat → Nat → Int := fun k i j => if k = 0 then A i j else unitF i j
noncomputable def addM (C : Nat → Nat → Nat → Int) (i st : Nat) : Nat → Nat → Nat → Int := setRowM (setRowM C 0 st fun j => C 0 st j + C 0 i j) 1 st fun j => C 1 st j + C 1 i j
noncomputable def negM (C : Nat → Nat → Nat → Int) (st : Nat) : Nat → Nat → Nat → Int := setRowM (setRowM C 0 st fun j => - C 0 st j) 1 st fun j => - C 1 st j

/-- the plain law of the loop -/
structure Plan (A : Nat → Nat → Int) (r w : Nat) (Inv : Nat → Nat → (Nat → Nat → Nat → Int) → Prop) (Done : (Nat → Nat → Nat → Int) → Prop) : Prop where
  init : ∃ n, Inv n 0 (startM A)
  stop : ∀ n st M, Inv n st M → (¬ (st < r ∧ st < w) ∨ ∀ i j, st ≤ i → i < r → st ≤ j → j < w → M 0 i j = 0) → Done M
  small : ∀ n st M i j, Inv n st M → st < r → st < w → st ≤ i → i < r → st ≤ j → j < w → M 0 i j ≠ 0 → (∀ i' j', st ≤ i' → i' < r → st ≤ j' → j' < w → M 0 i' j' ≠ 0 → (M 0 i j).natAbs ≤ (M 0 i' j').natAbs) →
    ((i = st ∧ j = st) ∨ M 0 st st = 0 ∨ (M 0 i j).natAbs < (M 0 st st).natAbs) → ∀ i' < r, ∀ j' < w, (bringM M i j st 0 i' j').natAbs < 2 ^ 64
  turn : ∀ n st M i j, Inv n st M → st < r → st < w → st ≤ i → i < r → st ≤ j → j < w → M 0 i j ≠ 0 → (∀ i' j', st ≤ i' → i' < r → st ≤ j' → j' < w → M 0 i' j' ≠ 0 → (M 0 i j).natAbs ≤ (M 0 i' j').natAbs) →
    ((i = st ∧ j = st) ∨ M 0 st st = 0 ∨ (M 0 i j).natAbs < (M 0 st st).natAbs) → ∀ B C, B = bringM M i j st → C = clearM B st r w →
    (¬ ((∀ i, st < i → i < r → B 0 i st - (B 0 i st).fdiv (B 0 st st) * B 0 st st = 0) ∧ ∀ j, st < j → j < w → B 0 st j - (B 0 st j).fdiv (B 0 st st) * B 0 st st = 0) → ∃ n' < n, Inv n' st C) ∧
    (((∀ i, st < i → i < r → B 0 i st - (B 0 i st).fdiv (B 0 st st) * B 0 st st = 0) ∧ ∀ j, st < j → j < w → B 0 st j - (B 0 st j).fdiv (B 0 st st) * B 0 st st = 0) →
      (∀ i, st < i → i < r → (∃ j, st < j ∧ j < w ∧ (C 0 i j).fmod (C 0 st st) ≠ 0) → ∃ n' < n, Inv n' st (addM C i st)) ∧
      ((∀ i j, st < i → i < r → st < j → j < w → (C 0 i j).fmod (C 0 st st) = 0) → ∃ n' < n, Inv n' (st + 1) (if C 0 st st < 0 then negM C st else C)))

section
variable {Φ : Phi} {ρ : Rho} {μ0 μ1 μ : Mu} {Q : QV} {QQ : QS}

theorem wE_min {l r : ME} (h : wpE Φ l ρ μ fun x μ₁ => wpE Φ r ρ μ₁ fun y μ₂ => ∃ i j, x = .int i ∧ y = .int j ∧ Q (.int (Min.min i j)) μ₂) : wpE Φ (.min l r) ρ μ Q := h
theorem wT_not {t : MT} {K : Bool → Mu → Prop} (h : wpT Φ t ρ μ fun t μ₁ => K (!t) μ₁) : wpT Φ (.not t) ρ μ K := h
theorem wT_truth {e : ME} {K : Bool → Mu → Prop} (h : wpE Φ e ρ μ fun x μ₁ => truthP x fun t => K t μ₁) : wpT Φ (.truth e) ρ μ K := h
theorem wS_cont (h : QQ .cont ρ μ) : wpS Φ .cont ρ μ QQ := h

noncomputable def dimR (r w : Nat) : Nat → Nat := fun k => if k = 2 then w else r
noncomputable def dimW (r w : Nat) : Nat → Nat := fun k => if k = 1 then r else w
theorem bring_st (M : Nat → Nat → Nat → Int) (i j st : Nat) : bringM M i j st 0 st st = M 0 i j := by
  have h1 : swp i st st = i := by unfold swp; by_cases h : st = i <;> simp [h]
  have h2 : swp j st st = j := by unfold swp; by_cases h : st = j <;> simp [h]
  simp [bringM, swapColsM, swapRowsM, h1, h2]
theorem clear_st (M : Nat → Nat → Nat → Int) (st r w : Nat) : clearM M st r w 0 st st = M 0 st st := by simp [clearM, colPh, rowPh]

structure SmC (P : Nat → Nat) (st w : Nat) (ρ : Rho) : Prop where
  s : ρ .s = some (.ref (P 0))
  u : ρ .u = some (.ref (P 1))
  v : ρ .v = some (.ref (P 2))
  step : ρ .step = some (.int (st : Nat))
  width : ρ .width = some (.int (w : Nat))
  at_ : ρ .at_ = Option.none
  one : ρ .one = Option.none
theorem SmC.bnd {P : Nat → Nat} {st w : Nat} {ρ : Rho} (C : SmC P st w ρ) {x : X} {v : V} (hx : x = .spot ∨ x = .row ∨ x = .b) : SmC P st w (Mine.bnd ρ x v) := by
  rcases hx with rfl | rfl | rfl <;> exact ⟨by simp [Mine.bnd, C.s], by simp [Mine.bnd, C.u], by simp [Mine.bnd, C.v], by simp [Mine.bnd, C.step], by simp [Mine.bnd, C.width], by simp [Mine.bnd, C.at_], by simp [Mine.bnd, C.one]⟩
theorem SmC.unb {P : Nat → Nat} {st w : Nat} {ρ : Rho} (C : SmC P st w ρ) : SmC P st w (Mine.unb ρ .b) :=
  ⟨by simp [Mine.unb, C.s], by simp [Mine.unb, C.u], by simp [Mine.unb, C.v], by simp [Mine.unb, C.step], by simp [Mine.unb, C.width], by simp [Mine.unb, C.at_], by simp [Mine.unb, C.one]⟩

/-- three fresh matrices stand -/
theorem St.start {μ2 μ3 : Mu} {r w p0 p1 p2 : Nat} {rp0 rp1 rp2 : Nat → Nat} {A : Nat → Nat → Int} (F0 : Fresh μ μ1 p0 r w rp0 A) (F1 : Fresh μ1 μ2 p1 r r rp1 unitF) (F2 : Fresh μ2 μ3 p2 w w rp2 unitF) :
    St μ μ3 (fun k => if k = 0 then p0 else if k = 1 then p1 else p2) (dimR r w) (dimW r w) (fun k => if k = 0 then rp0 else if k = 1 then rp1 else rp2) (startM A) := by
  have k3 := k3all
  have e02 : Ext μ1 μ3 := fun b o e => F2.ext b o (F1.ext b o e)
  have n1 : ∀ {x : Nat}, μ1 x = Option.none → ∀ {y : Nat} {o : O}, μ1 y = some o → y ≠ x := fun h _ _ h' q => by rw [q, h] at h'; cases h'
  have n2 : ∀ {x : Nat}, μ2 x = Option.none → ∀ {y : Nat} {o : O}, μ2 y = some o → y ≠ x := fun h _ _ h' q => by rw [q, h] at h'; cases h'
  have n0 : ∀ {x : Nat}, μ x = Option.none → ∀ {y : Nat} {o : O}, μ y = some o → y ≠ x := fun h _ _ h' q => by rw [q, h] at h'; cases h'
  have e01 : ∀ {x : Nat} {o : O}, μ1 x = some o → μ2 x = some o := fun h => F1.ext _ _ h
  refine ⟨fun k hk => ?_, fun k hk i hi => ?_, fun k hk k' hk' e => ?_, fun k hk i hi k' hk' i' hi' e => ?_, fun k hk k' hk' i' hi' e => ?_, fun b o e => ⟨e02 _ _ (F0.ext _ _ e), fun k hk q => ?_, fun k hk i hi q => ?_⟩⟩
  · rcases k3 k hk with rfl | rfl | rfl
    · exact e02 _ _ F0.top
    · exact F2.ext _ _ F1.top
    · exact F2.top
  · rcases k3 k hk with rfl | rfl | rfl
    · exact e02 _ _ (F0.row i hi)
    · exact F2.ext _ _ (F1.row i hi)
    · exact F2.row i hi
  · rcases k3 k hk with rfl | rfl | rfl <;> rcases k3 k' hk' with rfl | rfl | rfl <;> simp at e ⊢
    · exact n1 F1.np F0.top e
    · exact n2 F2.np (e01 F0.top) e
    · exact n1 F1.np F0.top e.symm
    · exact n2 F2.np F1.top e
    · exact n2 F2.np (e01 F0.top) e.symm
    · exact n2 F2.np F1.top e.symm
  · rcases k3 k hk with rfl | rfl | rfl <;> rcases k3 k' hk' with rfl | rfl | rfl <;> simp at e ⊢
    · exact F0.inj i hi i' hi' e
    · exact n1 (F1.nr i' hi') (F0.row i hi) e
    · exact n2 (F2.nr i' hi') (e01 (F0.row i hi)) e
    · exact n1 (F1.nr i hi) (F0.row i' hi') e.symm
    · exact F1.inj i hi i' hi' e
    · exact n2 (F2.nr i' hi') (F1.row i hi) e
    · exact n2 (F2.nr i hi) (e01 (F0.row i' hi')) e.symm
    · exact n2 (F2.nr i hi) (F1.row i' hi') e.symm
    · exact F2.inj i hi i' hi' e
  · rcases k3 k hk with rfl | rfl | rfl <;> rcases k3 k' hk' with rfl | rfl | rfl <;> simp at e
    · exact F0.pr i' hi' e
    · exact n1 (F1.nr i' hi') F0.top e
    · exact n2 (F2.nr i' hi') (e01 F0.top) e
    · exact n1 F1.np (F0.row i' hi') e.symm
    · exact F1.pr i' hi' e
    · exact n2 (F2.nr i' hi') F1.top e
    · exact n2 F2.np (e01 (F0.row i' hi')) e.symm
    · exact n2 F2.np (F1.row i' hi') e.symm
    · exact F2.pr i' hi' e
  · rcases k3 k hk with rfl | rfl | rfl
    · exact n0 F0.np e q
    · exact n1 F1.np (F0.ext _ _ e) q
    · exact n2 F2.np (e01 (F0.ext _ _ e)) q
  · rcases k3 k hk with rfl | rfl | rfl
    · exact n0 (F0.nr i hi) e q
    · exact n1 (F1.nr i hi) (F0.ext _ _ e) q
    · exact n2 (F2.nr i hi) (e01 (F0.ext _ _ e)) q

/-- for b in (s, u): a row of each is put anew -/
theorem two_rows {P R W : Nat → Nat} {RP : Nat → Nat → Nat} {M : Nat → Nat → Nat → Int} {st : Nat} {e : ME} (H : St μ0 μ P R W RP M) (hd : Dims R W) (C : SmC P st (W 0) ρ) (g0 g1 : Nat → Int) {Ext1 : Rho → Prop} (hE : Ext1 ρ) (hE' : ∀ ρ v, Ext1 ρ → Ext1 (bnd ρ .b v))
    (h0 : ∀ {ρ : Rho} {μ0 μ : Mu} {RP} {QQ : QS}, St μ0 μ P R W RP M → SmC P st (W 0) ρ → Ext1 ρ → ρ .b = some (.ref (P 0)) → (∀ μ' RP', St μ0 μ' P R W RP' (setRowM M 0 st g0) → QQ .next ρ μ') → wpS Φ (.store (vr .b) (vr .step) e) ρ μ QQ)
    (h1 : ∀ {ρ : Rho} {μ0 μ : Mu} {RP} {QQ : QS}, St μ0 μ P R W RP (setRowM M 0 st g0) → SmC P st (W 0) ρ → Ext1 ρ → ρ .b = some (.ref (P 1)) → (∀ μ' RP', St μ0 μ' P R W RP' (setRowM (setRowM M 0 st g0) 1 st g1) → QQ .next ρ μ') → wpS Φ (.store (vr .b) (vr .step) e) ρ μ QQ)
    (h : ∀ ρ' μ' RP', SmC P st (W 0) ρ' → St μ0 μ' P R W RP' (setRowM (setRowM M 0 st g0) 1 st g1) → QQ .next ρ' μ') :
    wpS Φ (.for_ .b (.val (.tuple (esL [vr .s, vr .u]))) (ssL [.store (vr .b) (vr .step) e])) ρ μ QQ := by
  refine for_two (va := .ref (P 0)) (vb := .ref (P 1)) C.s C.u fun c hc => ?_
  have J0 := H.allocKeep hc (.tuple [.ref (P 0), .ref (P 1)])
  refine forP_step J0.kept (wSs_cons (h0 J0 (C.bnd (.inr (.inr rfl))) (hE' _ _ hE) (by first | rfl | simp [bnd]) fun μ1 RP1 J1 => wSs_nil ?_))
  refine forP_step J1.kept (wSs_cons (h1 J1 ((C.bnd (.inr (.inr rfl))).bnd (.inr (.inr rfl))) (hE' _ _ (hE' _ _ hE)) (by first | rfl | simp [bnd]) fun μ2 RP2 J2 => wSs_nil ?_))
  exact forP_end J2.kept (h _ _ _ (((C.bnd (.inr (.inr rfl))).bnd (.inr (.inr rfl))).unb) (J2.weaken (H.below hc _)))
end
end Mine

end PartML29

section PartML30
open PySem
set_option linter.unusedVariables false
set_option linter.unusedSimpArgs false
set_option linter.constructorNameAsVariable false
set_option maxRecDepth 100000
namespace Mine

section
variable {Φ : Phi} {ρ : Rho} {μ0 μ1 μ : Mu} {Q : QV} {QQ : QS}

theorem dims_ok {r w : Nat} (hr : r ≤ 3) (hw : w ≤ 3) : Dims (dimR r w) (dimW r w) := ⟨fun k _ => by unfold dimR; split <;> assumption, fun k _ => by unfold dimW; split <;> assumption⟩

theorem retThree {P : Nat → Nat} {R W : Nat → Nat} {RP : Nat → Nat → Nat} {M : Nat → Nat → Nat → Int} {st w : Nat} (H : St μ0 μ P R W RP M) (C : SmC P st w ρ)
    (h : ∀ t μ', μ' t = some (.tuple [.ref (P 0), .ref (P 1), .ref (P 2)]) → St μ0 μ' P R W RP M → QQ (.ret (.ref t)) ρ μ') : wpS Φ (.ret (.tuple (esL [vr .s, vr .u, vr .v]))) ρ μ QQ :=
  wS_ret (wE_tuple (wEs_cons (wE_var C.s (wEs_cons (wE_var C.u (wEs_cons (wE_var C.v (wEs_nil ⟨by simp, fun c hc => h c _ (upd_self _ _ _) (H.alloc hc _)⟩))))))))

theorem wS_while {c : MT} {b : MSs} (I : Nat → Rho → Mu → Prop) (n : Nat) (h0 : I n ρ μ) (turn : ∀ n ρ μ, I n ρ μ → ∀ K : QS, (∀ v ρ' μ', QQ (.ret v) ρ' μ' → K (.ret v) ρ' μ') → (∀ f ρ' μ' n', (f = .next ∨ f = .cont) → n' < n → I n' ρ' μ' → K f ρ' μ') →
    wpT Φ c ρ μ fun t μ₁ => if t then wpSs Φ b ρ μ₁ K else QQ .next ρ μ₁) : wpS Φ (.while_ c b) ρ μ QQ :=
  ⟨I, n, h0, fun n ρ μ hI => turn n ρ μ hI _ (fun _ _ _ q => q) fun f ρ' μ' n' hf hn q => by rcases hf with rfl | rfl <;> exact ⟨n', hn, q⟩⟩

set_option maxHeartbeats 2000000 in
theorem smithForm_ok {n a r w : Nat} {rpa : Nat → Nat} {A : Nat → Nat → Int} {Inv : Nat → Nat → (Nat → Nat → Nat → Int) → Prop} {Done : (Nat → Nat → Nat → Int) → Prop} (Pl : Plan A r w Inv Done) (hr : r ≤ 3) (hw : w ≤ 3) (H : MatIn μ a r w rpa A)
    (h : ∀ t μ' P RP M, μ' t = some (.tuple [.ref (P 0), .ref (P 1), .ref (P 2)]) → St μ μ' P (dimR r w) (dimW r w) RP M → Done M → Q (.ref t) μ') : Phk (n + 3) .smithForm [.ref a, .int (w : Nat)] μ Q := by
  refine ⟨rfl, ?_⟩
  have hd := dims_ok hr hw
  refine wSs_cons (wS_tup (by decide) (wEs_cons (copy_ok H hr hw rfl rfl fun p0 rp0 μ1 F0 => wEs_cons (wE_call (wEs_cons (wE_len (wE_var (v := .ref a) rfl ⟨a, rfl, .inl ⟨_, F0.ext _ _ H.top, by rw [rngM_len, sizeLine_eq]; omega, wEs_nil ?_⟩⟩)))))))
  rw [rngM_len]
  refine unitRows_ok (n := n + 1) hr fun p1 rp1 μ2 F1 => wEs_cons (wE_call (wEs_cons (wE_var (v := .int (w : Nat)) rfl (wEs_nil (unitRows_ok (n := n + 1) hw fun p2 rp2 μ3 F2 => wEs_nil ⟨rfl, fun c hc => ?_⟩)))))
  have S0 := (St.start F0 F1 F2).alloc hc (.tuple [.ref p0, .ref p1, .ref p2])
  generalize hP : (fun k => if k = 0 then p0 else if k = 1 then p1 else p2) = P at S0
  have hP0 : P 0 = p0 := by rw [← hP]; rfl
  have hP1 : P 1 = p1 := by rw [← hP]; rfl
  have hP2 : P 2 = p2 := by rw [← hP]; rfl
  generalize (fun k => if k = 0 then rp0 else if k = 1 then rp1 else rp2) = RP0 at S0
  refine wSs_cons (wS_assign (wE_int ?_))
  obtain ⟨m0, I0⟩ := Pl.init
  refine wSs_cons (wS_while (fun k ρ μ' => ∃ st RP M, SmC P st w ρ ∧ St μ μ' P (dimR r w) (dimW r w) RP M ∧ Inv k st M) m0
    ⟨0, RP0, startM A, ⟨by rw [hP0]; rfl, by rw [hP1]; rfl, by rw [hP2]; rfl, rfl, rfl, rfl, rfl⟩, S0, I0⟩ ?_)
  clear S0 I0 m0 hP0 hP1 hP2 hP F0 F1 F2 H hc
  rintro k ρ μk ⟨st, RP, M, C, J, I⟩ K hret hK
  refine wT_cmp (wE_var C.step (wE_min (wE_len (wE_var C.s ⟨P 0, rfl, .inl ⟨_, J.top 0 (by decide), by rw [rngM_len, sizeLine_eq]; have := hd.r 0 (by decide); omega, wE_var C.width ⟨_, _, rfl, rfl, cmp_lt ?_⟩⟩⟩))))
  rw [rngM_len]
  by_cases hlt : ¬ (st < r ∧ st < w)
  · have hf : ¬ ((st : Nat) : Int) < Min.min ((dimR r w 0 : Nat) : Int) ((w : Nat) : Int) := by
      rw [show dimR r w 0 = r from rfl]; omega
    refine ifF hf ?_
    refine wSs_cons (retThree J C fun t μ' ht J' => ?_)
    exact h t μ' P RP M ht J' (Pl.stop k st M I (.inl hlt))
  have hlt := Classical.not_not.mp hlt
  have ht : ((st : Nat) : Int) < Min.min ((dimR r w 0 : Nat) : Int) ((w : Nat) : Int) := by
    rw [show dimR r w 0 = r from rfl]; omega
  refine ifT ht ?_
  obtain ⟨hsr, hsw⟩ := hlt
  -- the spot
  refine wSs_cons (wS_assign (wE_call (wEs_cons (wE_var C.s (wEs_cons (wE_var C.step (wEs_cons (wE_var C.width (wEs_nil
    (leastSpot_ok (n := n + 1) J hd (Nat.le_of_lt hsr) (Nat.le_of_lt hsw) fun μ1' v J1 B => ?_))))))))))
  have C1 := C.bnd (x := .spot) (v := v) (.inl rfl)
  have hsp : bnd ρ .spot v .spot = some v := by first | rfl | simp [bnd]
  refine wSs_cons (wS_ite (wT_cmp (wE_var hsp (wE_none (cmp_isNone ?_)))))
  rcases B with ⟨rfl, hz⟩ | ⟨sp, i, j, rfl, esp, ⟨hi1, hi2, hj1, hj2⟩, hne, hmin, hfst⟩
  · refine ifT rfl ?_
    refine wSs_cons (retThree J1 C1 fun t μ' ht' J' => ?_)
    exact hret _ _ _ (h t μ' P RP M ht' J' (Pl.stop k st M I (.inr fun i j a b c d => hz i j ⟨a, b, c, d⟩)))
  have hnn : ¬ (V.ref sp = V.none) := fun q => by cases q
  refine ifF hnn ?_
  refine wSs_nil ?_
  have hmin' : ∀ i' j', st ≤ i' → i' < r → st ≤ j' → j' < w → M 0 i' j' ≠ 0 → (M 0 i j).natAbs ≤ (M 0 i' j').natAbs := fun i' j' a b c d => hmin i' j' ⟨a, b, c, d⟩
  have small := Pl.small k st M i j I hsr hsw hi1 hi2 hj1 hj2 hne hmin' hfst
  have turn := Pl.turn k st M i j I hsr hsw hi1 hi2 hj1 hj2 hne hmin' hfst _ _ rfl rfl
  have hB := bring_st M i j st
  -- brought
  refine wSs_cons (wS_expr (wE_call (wEs_cons (wE_var C1.s (wEs_cons (wE_var C1.u (wEs_cons (wE_var C1.v (wEs_cons (wE_var hsp (wEs_cons (wE_var C1.step (wEs_nil
    (bring_ok (n := n) J1 hd rfl rfl esp hi2 hj2 hsr hsw fun μ2' RP2 J2 => ⟨rfl, ?_⟩))))))))))))))
  generalize bringM M i j st = B at J2 small turn hB
  have hB0 : B 0 st st ≠ 0 := by rw [hB]; exact hne
  -- cleared
  refine wSs_cons (wS_ite (wT_not (wT_truth (wE_call (wEs_cons (wE_var C1.s (wEs_cons (wE_var C1.u (wEs_cons (wE_var C1.v (wEs_cons (wE_var C1.step (wEs_cons (wE_var C1.width (wEs_nil ?_)))))))))))))))
  refine clearCross_ok (n := n + 1) J2 hd rfl rfl hsr hsw hB0 small fun μ3' RP3 b J3 hb => ?_
  have e1 : clearM B st (dimR r w 0) (dimW r w 0) = clearM B st r w := rfl
  rw [e1] at J3
  have hC0 : clearM B st r w 0 st st ≠ 0 := by rw [clear_st]; exact hB0
  generalize clearM B st r w = D at J3 turn hC0
  show if (!b) = true then _ else _
  cases b with
  | false =>
    refine iT ?_
    obtain ⟨n', hn', I'⟩ := turn.1 fun q => by have := hb.mpr q; cases this
    exact wSs_cons (wS_cont (hK _ _ _ n' (.inr rfl) hn' ⟨st, RP3, D, C1, J3, I'⟩))
  | true =>
    refine iF ?_
    refine wSs_nil ?_
    have turn2 := turn.2 (hb.mp rfl)
    refine wSs_cons (wS_assign (wE_call (wEs_cons (wE_var C1.s (wEs_cons (wE_var C1.step (wEs_cons (wE_var C1.width (wEs_nil
      (undividedRow_ok (n := n + 1) J3 hd hsr hsw hC0 fun μ4' v J4 hv => ?_))))))))))
    generalize hρ2 : bnd ρ .spot (.ref sp) = ρ2 at C1
    have C2 := C1.bnd (x := .row) (v := v) (.inr (.inl rfl))
    have hrow : bnd ρ2 .row v .row = some v := by first | rfl | simp [bnd]
    refine wSs_cons (wS_ite (wT_cmp (wE_var hrow (wE_none (cmp_isNotNone ?_)))))
    rcases hv with ⟨rfl, hall⟩ | ⟨i', rfl, hi1', hi2', hex⟩
    · refine ifF (fun q => q rfl) ?_
      refine wSs_nil ?_
      obtain ⟨n', hn', I'⟩ := turn2.2 hall
      refine wSs_cons (wS_ite (wT_cmp (J4.ix2 hd (k := 0) (by decide) hsr hsw C2.s C2.step C2.step (wE_int (cmp_lt ?_)))))
      have fin : ∀ {ρ' μ' RP' D'}, SmC P st w ρ' → St μ μ' P (dimR r w) (dimW r w) RP' D' → Inv n' (st + 1) D' → wpSs (Phk (n + 2)) (ssL [.assign .step (.bin .add (vr .step) (.int 1))]) ρ' μ' K := fun {ρ' μ' RP' D'} C' J' I' =>
        wSs_cons (wS_assign (wE_bin (wE_var C'.step (wE_int (binP_add (wSs_nil (hK _ _ _ n' (.inl rfl) hn' ⟨st + 1, RP', D', ⟨C'.s, C'.u, C'.v, rfl, C'.width, C'.at_, C'.one⟩, J', I'⟩)))))))
      by_cases hneg : D 0 st st < 0
      · rw [if_pos hneg] at I'
        refine ifT hneg ?_
        refine wSs_cons (two_rows (Ext1 := fun _ => True) J4 hd C2 (fun j => - D 0 st j) (fun j => - D 1 st j) trivial (fun _ _ _ => trivial) (fun J C _ hb h => negRow_st J hd (k := 0) (by decide) hsr hb C.step C.one h)
          (fun J C _ hb h => negRow_st J hd (k := 1) (by decide) hsr hb C.step C.one (by simpa [setRowM] using h)) fun ρ' μ' RP' C' J' => wSs_nil ?_)
        exact fin C' J' I'
      · rw [if_neg hneg] at I'
        refine ifF hneg ?_
        exact wSs_nil (fin C2 J4 I')
    · have hnn : V.int (i' : Nat) ≠ V.none := fun q => by cases q
      refine ifT hnn ?_
      obtain ⟨n', hn', I'⟩ := turn2.1 i' hi1' hi2' hex
      have hst : st ≠ i' := by first | assumption | exact Nat.le_of_lt (by assumption) | exact Nat.lt_of_lt_of_le (by assumption) (by assumption) | exact Nat.lt_of_le_of_lt (by assumption) (by assumption) | exact Nat.le_trans (by assumption) (by decide) | exact Nat.lt_of_le_of_lt (by assumption) (by decide) | exact Nat.lt_of_lt_of_le (by assumption) (Nat.le_trans (by assumption) (by decide)) | exact Nat.ne_of_gt (by assumption) | exact Nat.ne_of_lt (by assumption) | exact i3a (by assumption) | exact i3b | omega
      refine wSs_cons (two_rows (Ext1 := fun ρ => ρ .row = some (.int (i' : Nat))) J4 hd C2 (fun j => D 0 st j + D 0 i' j) (fun j => D 1 st j + D 1 i' j) hrow (fun ρ v e => by first | exact e | simp [bnd, e]) (fun J C e hb h => addRow_st J hd (k := 0) (by decide) hi2' hsr hb e C.step C.at_ C.one h)
          (fun J C e hb h => addRow_st J hd (k := 1) (by decide) hi2' hsr hb e C.step C.at_ C.one (by simpa [setRowM] using h)) fun ρ' μ' RP' C' J' => ?_)
      exact wSs_cons (wS_cont (hK _ _ _ n' (.inr rfl) hn' ⟨st, RP', _, C', J', I'⟩))
end
end Mine

end PartML30

section PartML31
open PySem
set_option linter.unusedVariables false
set_option linter.unusedSimpArgs false
set_option linter.constructorNameAsVariable false
set_option maxRecDepth 100000
namespace Mine

section
variable {Φ : Phi} {ρ : Rho} {μ0 μ1 μ : Mu} {Q : QV} {QQ : QS}

theorem wE_toTuple {e : ME} (h : wpE Φ e ρ μ fun x μ₁ => ∃ p vs, x = .ref p ∧ μ₁ p = some (.list vs) ∧ vs.length ≤ sizeLine ∧ ∀ c, μ₁ c = Option.none → Q (.ref c) (upd μ₁ c (.tuple vs))) : wpE Φ (.toTuple e) ρ μ Q := h
theorem wE_sum {e : ME} (h : wpE Φ e ρ μ fun x μ₁ => ∃ (p : Nat) (ns : List Int), x = .ref p ∧ μ₁ p = some (.list (ns.map V.int)) ∧ Q (.int ns.sum) μ₁) : wpE Φ (.sum e) ρ μ Q := h
theorem wE_comp {elt : ME} {x : X} {it : MI} {c : MC} (hx : ρ x = Option.none) (h : wpI Φ it ρ μ fun items src μ₁ => items.length ≤ sizeLine ∧ compP src (fun v μ₂ k => wpC Φ c (bnd ρ x v) μ₂ fun t μ₃ => if t then wpE Φ elt (bnd ρ x v) μ₃ fun y μ₄ => k [y] μ₄ else k [] μ₃) items [] μ₁
      fun acc μ₅ => ∀ c, μ₅ c = Option.none → Q (.ref c) (upd μ₅ c (.list acc))) : wpE Φ (.comp elt x it c) ρ μ Q := ⟨hx, h⟩
theorem nat_fmod (x y : Nat) : ((x : Nat) : Int).fmod (y : Nat) = ((x % y : Nat) : Int) := by
  rw [Int.fmod_eq_emod_of_nonneg _ (Int.natCast_nonneg y)]; exact (Int.natCast_emod x y).symm

theorem common_ok {n : Nat} {a b : Int} (h : ∀ μ', Ext μ μ' → Q (.int (Nat.gcd a.natAbs b.natAbs : Nat)) μ') : Phk (n + 1) .lawCommon [.int a, .int b] μ Q := by
  refine ⟨rfl, ?_⟩
  refine wSs_cons (wS_tup (by decide) (wEs_cons (wE_abs (wE_var (v := .int a) rfl ⟨_, rfl, wEs_cons (wE_abs (wE_var (v := .int b) rfl ⟨_, rfl, wEs_nil ⟨rfl, fun c hc => ?_⟩⟩))⟩))))
  refine wSs_cons (wS_while (fun k ρ μ' => ∃ x : Nat, ρ .a = some (.int (x : Nat)) ∧ ρ .b = some (.int (k : Nat)) ∧ Nat.gcd x k = Nat.gcd a.natAbs b.natAbs ∧ Ext μ μ') b.natAbs
    ⟨a.natAbs, rfl, rfl, rfl, Ext.alloc (fun _ _ e => e) hc _⟩ ?_)
  rintro y ρ μk ⟨x, ha, hb, hg, e⟩ K hret hK
  refine wT_cmp (wE_var hb (wE_int (cmp_gt ?_)))
  by_cases hy : y = 0
  · subst hy
    simp only [Int.natCast_zero, gt_iff_lt, Int.lt_irrefl, decide_false, Bool.false_eq_true, if_false]
    refine wSs_cons (wS_ret (wE_var ha ?_))
    rw [Nat.gcd_zero_right] at hg
    subst hg
    exact h _ e
  · refine ifT (show ((y : Nat) : Int) > 0 by first | assumption | exact Nat.le_of_lt (by assumption) | exact Nat.lt_of_lt_of_le (by assumption) (by assumption) | exact Nat.lt_of_le_of_lt (by assumption) (by assumption) | exact Nat.le_trans (by assumption) (by decide) | exact Nat.lt_of_le_of_lt (by assumption) (by decide) | exact Nat.lt_of_lt_of_le (by assumption) (Nat.le_trans (by assumption) (by decide)) | exact Nat.ne_of_gt (by assumption) | exact Nat.ne_of_lt (by assumption) | exact i3a (by assumption) | exact i3b | omega) ?_
    refine wSs_cons (wS_tup (by decide) (wEs_cons (wE_var hb (wEs_cons (wE_bin (wE_var ha (wE_var hb ⟨by first | assumption | exact Nat.le_of_lt (by assumption) | exact Nat.lt_of_lt_of_le (by assumption) (by assumption) | exact Nat.lt_of_le_of_lt (by assumption) (by assumption) | exact Nat.le_trans (by assumption) (by decide) | exact Nat.lt_of_le_of_lt (by assumption) (by decide) | exact Nat.lt_of_lt_of_le (by assumption) (Nat.le_trans (by assumption) (by decide)) | exact Nat.ne_of_gt (by assumption) | exact Nat.ne_of_lt (by assumption) | exact i3a (by assumption) | exact i3b | omega, wEs_nil ⟨rfl, fun c' hc' => ?_⟩⟩)))))))
    rw [nat_fmod]
    refine wSs_nil (hK _ _ _ (x % y) (.inl rfl) (Nat.mod_lt _ (by first | assumption | exact Nat.le_of_lt (by assumption) | exact Nat.lt_of_lt_of_le (by assumption) (by assumption) | exact Nat.lt_of_le_of_lt (by assumption) (by assumption) | exact Nat.le_trans (by assumption) (by decide) | exact Nat.lt_of_le_of_lt (by assumption) (by decide) | exact Nat.lt_of_lt_of_le (by assumption) (Nat.le_trans (by assumption) (by decide)) | exact Nat.ne_of_gt (by assumption) | exact Nat.ne_of_lt (by assumption) | exact i3a (by assumption) | exact i3b | omega)) ⟨y, rfl, rfl, ?_, e.alloc hc' _⟩)
    rw [← hg, Nat.gcd_comm y, Nat.gcd_comm x y, Nat.gcd_rec y x]

/-- diagonal -/
theorem diagonal_ok {n p r w : Nat} {rp : Nat → Nat} {S : Nat → Nat → Int} (H : MatIn μ p r w rp S) (hr : r ≤ 3) (hw : w ≤ 3) (h : ∀ c μ', Ext μ μ' → μ' c = some (.list (rngM (Min.min r w) fun i => V.int (S i i))) → Q (.ref c) μ') :
    Phk (n + 1) .diagonal [.ref p, .int (w : Nat)] μ Q := by
  refine ⟨rfl, ?_⟩
  refine wSs_cons (wS_ret ⟨rfl, wI_range1 (wE_min (wE_len (wE_var (v := .ref p) rfl ⟨p, rfl, .inl ⟨_, H.top, by first | exact szM (by assumption) | (rw [rngM_len, sizeLine_eq]; omega), wE_var (v := .int (w : Nat)) rfl ⟨_, _, rfl, rfl, _, rfl, ?_⟩⟩⟩)))⟩)
  rw [rngM_len, show Min.min ((r : Nat) : Int) ((w : Nat) : Int) = ((Min.min r w : Nat) : Int) by first | assumption | exact Nat.le_of_lt (by assumption) | exact Nat.lt_of_lt_of_le (by assumption) (by assumption) | exact Nat.lt_of_le_of_lt (by assumption) (by assumption) | exact Nat.le_trans (by assumption) (by decide) | exact Nat.lt_of_le_of_lt (by assumption) (by decide) | exact Nat.lt_of_lt_of_le (by assumption) (Nat.le_trans (by assumption) (by decide)) | exact Nat.ne_of_gt (by assumption) | exact Nat.ne_of_lt (by assumption) | exact i3a (by assumption) | exact i3b | omega]
  refine ⟨by first | assumption | exact Nat.le_of_lt (by assumption) | exact Nat.lt_of_lt_of_le (by assumption) (by assumption) | exact Nat.lt_of_le_of_lt (by assumption) (by assumption) | exact Nat.le_trans (by assumption) (by decide) | exact Nat.lt_of_le_of_lt (by assumption) (by decide) | exact Nat.lt_of_lt_of_le (by assumption) (Nat.le_trans (by assumption) (by decide)) | exact Nat.ne_of_gt (by assumption) | exact Nat.ne_of_lt (by assumption) | exact i3a (by assumption) | exact i3b | omega, by first | assumption | exact Nat.le_of_lt (by assumption) | exact Nat.lt_of_lt_of_le (by assumption) (by assumption) | exact Nat.lt_of_le_of_lt (by assumption) (by assumption) | exact Nat.le_trans (by assumption) (by decide) | exact Nat.lt_of_le_of_lt (by assumption) (by decide) | exact Nat.lt_of_lt_of_le (by assumption) (Nat.le_trans (by assumption) (by decide)) | exact Nat.ne_of_gt (by assumption) | exact Nat.ne_of_lt (by assumption) | exact i3a (by assumption) | exact i3b | omega, ?_⟩
  rw [rangeV_0]
  refine ⟨by first | exact szM (by assumption) | (rw [rngM_len, sizeLine_eq]; omega), ?_⟩
  refine compP_pure (fun x => [match x with | .int j => V.int (S j.toNat j.toNat) | v => v]) trivial _ _ (fun x hx K hK => ?_) ?_
  · obtain ⟨j, hj, rfl⟩ := List.mem_map.mp hx
    have hj' := List.mem_range.mp hj
    show wpE (Phk n) (ix2 (vr .s) (vr .at_) (vr .at_)) (bnd _ .at_ (.int ((j : Nat) : Int))) μ fun y μ₄ => K [y] μ₄
    simp only [Int.toNat_natCast] at hK
    exact wE_sub (wE_sub (wE_var (v := .ref p) rfl (wE_var (v := .int (j : Nat)) rfl (subP_list H.top (by first | assumption | exact Nat.le_of_lt (by assumption) | exact Nat.lt_of_lt_of_le (by assumption) (by assumption) | exact Nat.lt_of_le_of_lt (by assumption) (by assumption) | exact Nat.le_trans (by assumption) (by decide) | exact Nat.lt_of_le_of_lt (by assumption) (by decide) | exact Nat.lt_of_lt_of_le (by assumption) (Nat.le_trans (by assumption) (by decide)) | exact Nat.ne_of_gt (by assumption) | exact Nat.ne_of_lt (by assumption) | exact i3a (by assumption) | exact i3b | omega) (rngM_get _ _ _ (by first | assumption | exact Nat.le_of_lt (by assumption) | exact Nat.lt_of_lt_of_le (by assumption) (by assumption) | exact Nat.lt_of_le_of_lt (by assumption) (by assumption) | exact Nat.le_trans (by assumption) (by decide) | exact Nat.lt_of_le_of_lt (by assumption) (by decide) | exact Nat.lt_of_lt_of_le (by assumption) (Nat.le_trans (by assumption) (by decide)) | exact Nat.ne_of_gt (by assumption) | exact Nat.ne_of_lt (by assumption) | exact i3a (by assumption) | exact i3b | omega)) (wE_var (v := .int (j : Nat)) rfl (subP_list (H.row j (by first | assumption | exact Nat.le_of_lt (by assumption) | exact Nat.lt_of_lt_of_le (by assumption) (by assumption) | exact Nat.lt_of_le_of_lt (by assumption) (by assumption) | exact Nat.le_trans (by assumption) (by decide) | exact Nat.lt_of_le_of_lt (by assumption) (by decide) | exact Nat.lt_of_lt_of_le (by assumption) (Nat.le_trans (by assumption) (by decide)) | exact Nat.ne_of_gt (by assumption) | exact Nat.ne_of_lt (by assumption) | exact i3a (by assumption) | exact i3b | omega)) (by first | assumption | exact Nat.le_of_lt (by assumption) | exact Nat.lt_of_lt_of_le (by assumption) (by assumption) | exact Nat.lt_of_le_of_lt (by assumption) (by assumption) | exact Nat.le_trans (by assumption) (by decide) | exact Nat.lt_of_le_of_lt (by assumption) (by decide) | exact Nat.lt_of_lt_of_le (by assumption) (Nat.le_trans (by assumption) (by decide)) | exact Nat.ne_of_gt (by assumption) | exact Nat.ne_of_lt (by assumption) | exact i3a (by assumption) | exact i3b | omega) (rngM_get _ _ _ (by first | assumption | exact Nat.le_of_lt (by assumption) | exact Nat.lt_of_lt_of_le (by assumption) (by assumption) | exact Nat.lt_of_le_of_lt (by assumption) (by assumption) | exact Nat.le_trans (by assumption) (by decide) | exact Nat.lt_of_le_of_lt (by assumption) (by decide) | exact Nat.lt_of_lt_of_le (by assumption) (Nat.le_trans (by assumption) (by decide)) | exact Nat.ne_of_gt (by assumption) | exact Nat.ne_of_lt (by assumption) | exact i3a (by assumption) | exact i3b | omega)) hK))))))
  · rw [List.nil_append, flat_sing]
    have : (rngM (Min.min r w) fun n => V.int (n : Nat)).map (fun x => match x with | .int j => V.int (S j.toNat j.toNat) | v => v) = rngM (Min.min r w) fun i => V.int (S i i) := by
      simp [rngM, List.map_map, Function.comp_def]
    rw [this]
    exact fun c hc => h c _ (Ext.alloc (fun _ _ e => e) hc _) (upd_self _ _ _)

/-- sum over a row -/
noncomputable def rowSum (w : Nat) (f : Nat → Int) (x : Nat → Int) : Int := (rngM w fun j => f j * x j).sum
theorem image_ok {n p cp r w m : Nat} {rp : Nat → Nat} {A : Nat → Nat → Int} {x : Nat → Int} (H : MatIn μ p r w rp A) (hr : r ≤ 3) (hw : w ≤ 3) (hc : μ cp = some (.list (rngM w fun j => V.int (x j)))) (hx : ∀ j < w, (x j).natAbs < 2 ^ 64) (hm : m ≠ 0)
    (h : ∀ t μ', Ext μ μ' → μ' t = some (.tuple (rngM r fun i => V.int ((rowSum w (A i) x).fmod (m : Nat)))) → Q (.ref t) μ') : Phk (n + 1) .lawImage [.ref p, .ref cp, .int (m : Nat)] μ Q := by
  refine ⟨rfl, ?_⟩
  refine wSs_cons (wS_ret (wE_toTuple (wE_comp rfl (wI_val (wE_var (v := .ref p) rfl ⟨p, _, _, rfl, H.top, rfl, by first | exact szM (by assumption) | (rw [rngM_len, sizeLine_eq]; omega), ?_⟩)))))
  refine compP_inv (fun k acc μk => Ext μ μk ∧ acc = rngM k fun i => V.int ((rowSum w (A i) x).fmod (m : Nat))) _ ⟨fun _ _ e => e, rfl⟩ (fun k acc μk J => J.1 _ _ H.top) ?_ ?_
  · rintro k v acc μk hv ⟨e, rfl⟩ K hK
    obtain ⟨hk, rfl⟩ := rng_at hv
    show wpE (Phk n) (.bin .mod (.sum (.compE (.bin .mul (vr .one) (.sub (vr .column) (vr .at_))) .at_ .one (vr .row) .no)) (vr .m)) (bnd _ .row (.ref (rp k))) μk fun y μ₄ => K [y] μ₄
    refine wE_bin (wE_sum ?_)
    refine wE_compE (f := fun j => A k j) (g := fun j => A k j * x j) rfl rfl hw (e _ _ (H.row k hk)) (fun K hK => wE_var (v := .ref (rp k)) rfl hK) (fun j hj K hK => ?_) fun c hc' => ?_
    · refine wE_bin (wE_var (v := .int (A k j)) rfl (wE_sub (wE_var (v := .ref cp) rfl (wE_var (v := .int (j : Nat)) rfl (subP_list (e _ _ hc) (by first | assumption | exact Nat.le_of_lt (by assumption) | exact Nat.lt_of_lt_of_le (by assumption) (by assumption) | exact Nat.lt_of_le_of_lt (by assumption) (by assumption) | exact Nat.le_trans (by assumption) (by decide) | exact Nat.lt_of_le_of_lt (by assumption) (by decide) | exact Nat.lt_of_lt_of_le (by assumption) (Nat.le_trans (by assumption) (by decide)) | exact Nat.ne_of_gt (by assumption) | exact Nat.ne_of_lt (by assumption) | exact i3a (by assumption) | exact i3b | omega) (rngM_get _ _ _ hj) ⟨?_, hK⟩)))))
      have := hx j hj
      exact IntMulOk.of_right (intBits_le_64 (by first | assumption | exact Nat.le_of_lt (by assumption) | exact Nat.lt_of_lt_of_le (by assumption) (by assumption) | exact Nat.lt_of_le_of_lt (by assumption) (by assumption) | exact Nat.le_trans (by assumption) (by decide) | exact Nat.lt_of_le_of_lt (by assumption) (by decide) | exact Nat.lt_of_lt_of_le (by assumption) (Nat.le_trans (by assumption) (by decide)) | exact Nat.ne_of_gt (by assumption) | exact Nat.ne_of_lt (by assumption) | exact i3a (by assumption) | exact i3b | omega) (by first | assumption | exact Nat.le_of_lt (by assumption) | exact Nat.lt_of_lt_of_le (by assumption) (by assumption) | exact Nat.lt_of_le_of_lt (by assumption) (by assumption) | exact Nat.le_trans (by assumption) (by decide) | exact Nat.lt_of_le_of_lt (by assumption) (by decide) | exact Nat.lt_of_lt_of_le (by assumption) (Nat.le_trans (by assumption) (by decide)) | exact Nat.ne_of_gt (by assumption) | exact Nat.ne_of_lt (by assumption) | exact i3a (by assumption) | exact i3b | omega))
    · refine ⟨c, rngM w fun j => A k j * x j, rfl, by rw [upd_self]; simp [rngM, List.map_map, Function.comp_def], wE_var (v := .int (m : Nat)) rfl ⟨by first | assumption | exact Nat.le_of_lt (by assumption) | exact Nat.lt_of_lt_of_le (by assumption) (by assumption) | exact Nat.lt_of_le_of_lt (by assumption) (by assumption) | exact Nat.le_trans (by assumption) (by decide) | exact Nat.lt_of_le_of_lt (by assumption) (by decide) | exact Nat.lt_of_lt_of_le (by assumption) (Nat.le_trans (by assumption) (by decide)) | exact Nat.ne_of_gt (by assumption) | exact Nat.ne_of_lt (by assumption) | exact i3a (by assumption) | exact i3b | omega, hK _ _ ⟨e.alloc hc' _, ?_⟩⟩⟩
      rw [rngM_succ]; rfl
  · rintro acc μk ⟨e, rfl⟩ c hc'
    rw [rngM_len]
    refine ⟨c, _, rfl, upd_self _ _ _, by first | exact szM (by assumption) | (rw [rngM_len, sizeLine_eq]; omega), fun t ht => ?_⟩
    exact h t _ ((e.alloc hc' _).alloc ht _) (upd_self _ _ _)
end
end Mine

end PartML31

section PartML32
open PySem
set_option linter.unusedVariables false
set_option linter.unusedSimpArgs false
set_option linter.constructorNameAsVariable false
set_option maxRecDepth 100000
namespace Mine

/-- all columns modulo m -/
noncomputable def cols (m : Nat) : Nat → List (List Int)
  | 0 => [[]]
  | k + 1 => (cols m k).flatMap fun row => rngM m fun t => row ++ [(t : Int)]
theorem cols_len_row {m : Nat} : ∀ {k : Nat} {x : List Int}, x ∈ cols m k → x.length = k
  | 0, x, h => by simp [cols] at h; subst h; rfl
  | k + 1, x, h => by
    simp only [cols, List.mem_flatMap] at h
    obtain ⟨row, h1, h2⟩ := h
    obtain ⟨t, _, rfl⟩ := List.mem_map.mp h2
    rw [List.length_append, cols_len_row h1]; rfl

structure ListIn (μ : Mu) (p : Nat) (rs : List Nat) (xs : List (List Int)) : Prop where
  top : μ p = some (.list (rs.map V.ref))
  len : rs.length = xs.length
  row : ∀ q ∈ rs.zip xs, μ q.1 = some (.list (q.2.map V.int))

section
variable {Φ : Phi} {ρ : Rho} {μ0 μ1 μ : Mu} {Q : QV} {QQ : QS}

theorem zip_get {α β : Type} {rs : List α} {xs : List β} {i : Nat} {r : α} {x : β} (h1 : rs[i]? = some r) (h2 : xs[i]? = some x) : (r, x) ∈ rs.zip xs := by
  refine List.mem_of_getElem? (i := i) ?_
  rw [List.getElem?_zip_eq_some]; exact ⟨h1, h2⟩

theorem columns_turn {p m k : Nat} {rs : List Nat} {X' : List (List Int)} (H : ListIn μ p rs X') (hX : ∀ x ∈ X', x.length = k) (hk : k ≤ 3) (hs : X'.length ≤ 1000) (hm : m ≤ 6) (hf : ρ .found = some (.ref p)) (hm' : ρ .m = some (.int (m : Nat))) (h1 : ρ .row = Option.none) (h2 : ρ .one = Option.none)
    (h : ∀ c rs' μ', Ext μ μ' → ListIn μ' c rs' (X'.flatMap fun row => rngM m fun t => row ++ [(t : Int)]) → Q (.ref c) μ') :
    wpE Φ (.comp2 (.bin .add (vr .row) (.list (esL [vr .one]))) .row (.val (vr .found)) .one (.range1 (vr .m))) ρ μ Q := by
  refine ⟨h1, h2, by decide, wI_val (wE_var hf ⟨p, _, _, rfl, H.top, rfl, by rw [List.length_map, H.len]; exact hs, ?_⟩)⟩
  refine compP_inv (fun i acc μi => Ext μ μi ∧ ∃ rs' : List Nat, acc = rs'.map V.ref ∧ rs'.length = ((X'.take i).flatMap fun row => rngM m fun t => row ++ [(t : Int)]).length ∧ ∀ q ∈ rs'.zip ((X'.take i).flatMap fun row => rngM m fun t => row ++ [(t : Int)]), μi q.1 = some (.list (q.2.map V.int))) _
    ⟨fun _ _ e => e, [], rfl, rfl, fun q hq => by cases hq⟩ (fun i acc μi J => J.1 _ _ H.top) ?_ ?_
  · rintro i v acc μi hv ⟨e, rs', rfl, hlen, hrow⟩ K hK
    rw [List.getElem?_map] at hv
    obtain ⟨r, hr, rfl⟩ := Option.map_eq_some_iff.mp hv
    have hi : i < X'.length := by have := (List.getElem?_eq_some_iff.mp hr).1; rw [← H.len]; exact this
    obtain ⟨x, hx⟩ : ∃ x, X'[i]? = some x := ⟨_, List.getElem?_eq_getElem hi⟩
    have hxr := H.row _ (zip_get hr hx)
    have hxl := hX x (List.mem_of_getElem? hx)
    have htake : (X'.take (i + 1)).flatMap (fun row => rngM m fun t => row ++ [(t : Int)]) = ((X'.take i).flatMap fun row => rngM m fun t => row ++ [(t : Int)]) ++ rngM m fun t => x ++ [(t : Int)] := by
      rw [List.take_add_one, hx]; simp [List.flatMap_append]
    refine wI_rng1 (by first | exact hm' | simp [bnd, hm']) (by first | assumption | exact Nat.le_of_lt (by assumption) | exact Nat.lt_of_lt_of_le (by assumption) (by assumption) | exact Nat.lt_of_le_of_lt (by assumption) (by assumption) | exact Nat.le_trans (by assumption) (by decide) | exact Nat.lt_of_le_of_lt (by assumption) (by decide) | exact Nat.lt_of_lt_of_le (by assumption) (Nat.le_trans (by assumption) (by decide)) | exact Nat.ne_of_gt (by assumption) | exact Nat.ne_of_lt (by assumption) | exact i3a (by assumption) | exact i3b | omega) ?_
    refine ⟨by rw [rngM_len]; omega, ?_⟩
    refine compP_inv (fun j acc2 μj => Ext μ μj ∧ Ext μi μj ∧ ∃ rs2 : List Nat, acc2 = rs2.map V.ref ∧ rs2.length = j ∧ ∀ q ∈ rs2.zip (rngM j fun t => x ++ [(t : Int)]), μj q.1 = some (.list (q.2.map V.int))) _
      ⟨e, fun _ _ e => e, [], rfl, rfl, fun q hq => by cases hq⟩ (fun _ _ _ _ => trivial) ?_ ?_
    · rintro j w acc2 μj hw ⟨ej, eij, rs2, rfl, hl2, hr2⟩ K2 hK2
      obtain ⟨hj, rfl⟩ := rng_at hw
      refine wE_bin (wE_var (v := .ref r) (by first | rfl | simp [bnd]) (wE_list (wEs_cons (wE_var (v := .int (j : Nat)) (by first | rfl | simp [bnd]) (wEs_nil ⟨by simp, fun c hc => ?_⟩)))))
      have ec : Ext μ (upd μj c (.list [.int (j : Nat)])) := ej.alloc hc _
      refine ⟨x.map V.int, [.int (j : Nat)], ec _ _ hxr, upd_self _ _ _, by rw [List.length_map, hxl, sizeLine_eq]; simp; omega, fun c' hc' => ?_⟩
      refine hK2 _ _ ⟨ec.alloc hc' _, (Ext.alloc (eij) hc _).alloc hc' _, rs2 ++ [c'], by simp, by simp [hl2], fun q hq => ?_⟩
      rw [rngM_succ, List.zip_append (by rw [hl2, rngM_len])] at hq
      rcases List.mem_append.mp hq with hq | hq
      · have h3 := hr2 q hq
        exact ((Ext.alloc (fun _ _ e => e) hc _).alloc hc' _) _ _ h3
      · simp only [List.zip_cons_cons, List.zip_nil_left, List.mem_singleton] at hq
        subst hq
        simp [upd_self]
    · rintro acc2 μj ⟨ej, eij, rs2, rfl, hl2, hr2⟩
      rw [rngM_len] at hl2 hr2
      refine hK _ _ ⟨ej, rs' ++ rs2, by simp, ?_, fun q hq => ?_⟩
      · rw [htake, List.length_append, List.length_append, hlen, hl2, rngM_len]
      · rw [htake, List.zip_append hlen] at hq
        rcases List.mem_append.mp hq with hq | hq
        · exact eij _ _ (hrow q hq)
        · exact hr2 q hq
  · rintro acc μi ⟨e, rs', rfl, hlen, hrow⟩ c hc
    rw [List.length_map, H.len, List.take_length] at hlen hrow
    exact h c rs' _ (e.alloc hc _) ⟨upd_self _ _ _, hlen, fun q hq => Ext.alloc (fun _ _ e => e) hc _ _ _ (hrow q hq)⟩

theorem wS_assignC {x : X} {e : ME} (h : wpE Φ e ρ μ fun v μ₁ => QQ .next (bnd ρ x v) μ₁) : wpS Φ (.assignC x e) ρ μ QQ := h
theorem columns_ok {n k m : Nat} (hk : k ≤ 3) (hm : m ≤ 6) (hs : ∀ i < k, (cols m i).length ≤ 1000) (h : ∀ c rs μ', Ext μ μ' → ListIn μ' c rs (cols m k) → Q (.ref c) μ') : Phk (n + 1) .lawColumns [.int (k : Nat), .int (m : Nat)] μ Q := by
  refine ⟨rfl, ?_⟩
  refine wSs_cons (wS_assign (wE_list (wEs_cons (wE_list (wEs_nil ⟨by simp, fun c hc => wEs_nil ⟨by simp, fun c2 hc2 => ?_⟩⟩)))))
  have e0 : Ext μ (upd (upd μ c (.list [])) c2 (.list [.ref c])) := (Ext.alloc (fun _ _ e => e) hc _).alloc hc2 _
  have hne : c ≠ c2 := fun q => by rw [← q, upd_self] at hc2; cases hc2
  refine wSs_cons (wS_for (wI_rng1 rfl (by first | assumption | exact Nat.le_of_lt (by assumption) | exact Nat.lt_of_lt_of_le (by assumption) (by assumption) | exact Nat.lt_of_le_of_lt (by assumption) (by assumption) | exact Nat.le_trans (by assumption) (by decide) | exact Nat.lt_of_le_of_lt (by assumption) (by decide) | exact Nat.lt_of_lt_of_le (by assumption) (Nat.le_trans (by assumption) (by decide)) | exact Nat.ne_of_gt (by assumption) | exact Nat.ne_of_lt (by assumption) | exact i3a (by assumption) | exact i3b | omega) ?_))
  refine forP_all (fun i ρ μi => Ext μ μi ∧ ρ .m = some (.int (m : Nat)) ∧ ρ .row = Option.none ∧ ρ .one = Option.none ∧ ∃ p rs, ρ .found = some (.ref p) ∧ ListIn μi p rs (cols m i)) _
    ⟨e0, rfl, rfl, rfl, c2, [c], rfl, upd_self _ _ _, rfl, fun q hq => by simp [cols] at hq; subst hq; rw [upd_ne _ _ hne, upd_self]; rfl⟩ (fun _ _ _ _ => trivial) ?_ ?_
  · rintro i v ρi μi hv ⟨e, h1, h2, h3, p, rs, h4, L⟩ K hn _
    have hi : i < k := by
      have := (List.getElem?_eq_some_iff.mp hv).1; rwa [rngM_len] at this
    refine wSs_cons (wS_assignC (columns_turn L (k := i) (fun x hx => cols_len_row hx) (by first | assumption | exact Nat.le_of_lt (by assumption) | exact Nat.lt_of_lt_of_le (by assumption) (by assumption) | exact Nat.lt_of_le_of_lt (by assumption) (by assumption) | exact Nat.le_trans (by assumption) (by decide) | exact Nat.lt_of_le_of_lt (by assumption) (by decide) | exact Nat.lt_of_lt_of_le (by assumption) (Nat.le_trans (by assumption) (by decide)) | exact Nat.ne_of_gt (by assumption) | exact Nat.ne_of_lt (by assumption) | exact i3a (by assumption) | exact i3b | omega) (hs i hi) hm (by first | exact h4 | simp [bnd, h4]) (by first | exact h1 | simp [bnd, h1]) (by first | exact h2 | simp [bnd, h2]) (by first | exact h3 | simp [bnd, h3]) fun c' rs' μ' e' L' => wSs_nil (hn _ _ ⟨fun b o q => e' _ _ (e _ _ q), by first | exact h1 | simp [bnd, h1], by first | exact h2 | simp [bnd, h2], by first | exact h3 | simp [bnd, h3], c', rs', by first | rfl | simp [bnd], L'⟩)))
  · rintro ρi μi ⟨e, h1, h2, h3, p, rs, h4, L⟩
    rw [rngM_len] at L
    exact wSs_cons (wS_ret (wE_var (v := .ref p) (by first | exact h4 | simp [unb, h4]) (h p rs _ e L)))

/-- the box of the script -/
structure BoxIn (μ : Mu) (bx lx : Nat) : Prop where
  ex : ∃ (c : Int) (ns : List Int), μ bx = some (.list [.ref lx, .int c]) ∧ μ lx = some (.list (ns.map V.int)) ∧ ns.length ≤ 100
  ne : bx ≠ lx
theorem take_ok {n bx lx k : Nat} (B : BoxIn μ bx lx) (hk : 0 < k) (h : ∀ (v : Nat) μ', v < k → BoxIn μ' bx lx → (∀ b o, b ≠ bx → b ≠ lx → μ b = some o → μ' b = some o) → Q (.int (v : Nat)) μ') : Phk (n + 1) .lawTake [.ref bx, .int (k : Nat)] μ Q := by
  refine ⟨rfl, ?_⟩
  obtain ⟨⟨c, ns, e1, e2, hns⟩, hne⟩ := B
  have fm : ∀ x : Int, ∃ v : Nat, v < k ∧ x.fmod (k : Nat) = (v : Nat) := fun x => by
    have h1 := Int.fmod_nonneg_of_pos x (show (0 : Int) < (k : Nat) by first | assumption | exact Nat.le_of_lt (by assumption) | exact Nat.lt_of_lt_of_le (by assumption) (by assumption) | exact Nat.lt_of_le_of_lt (by assumption) (by assumption) | exact Nat.le_trans (by assumption) (by decide) | exact Nat.lt_of_le_of_lt (by assumption) (by decide) | exact Nat.lt_of_lt_of_le (by assumption) (Nat.le_trans (by assumption) (by decide)) | exact Nat.ne_of_gt (by assumption) | exact Nat.ne_of_lt (by assumption) | exact i3a (by assumption) | exact i3b | omega)
    have h2 := Int.fmod_lt_of_pos x (show (0 : Int) < (k : Nat) by first | assumption | exact Nat.le_of_lt (by assumption) | exact Nat.lt_of_lt_of_le (by assumption) (by assumption) | exact Nat.lt_of_le_of_lt (by assumption) (by assumption) | exact Nat.le_trans (by assumption) (by decide) | exact Nat.lt_of_le_of_lt (by assumption) (by decide) | exact Nat.lt_of_lt_of_le (by assumption) (Nat.le_trans (by assumption) (by decide)) | exact Nat.ne_of_gt (by assumption) | exact Nat.ne_of_lt (by assumption) | exact i3a (by assumption) | exact i3b | omega)
    exact ⟨(x.fmod (k : Nat)).toNat, by first | assumption | exact Nat.le_of_lt (by assumption) | exact Nat.lt_of_lt_of_le (by assumption) (by assumption) | exact Nat.lt_of_le_of_lt (by assumption) (by assumption) | exact Nat.le_trans (by assumption) (by decide) | exact Nat.lt_of_le_of_lt (by assumption) (by decide) | exact Nat.lt_of_lt_of_le (by assumption) (Nat.le_trans (by assumption) (by decide)) | exact Nat.ne_of_gt (by assumption) | exact Nat.ne_of_lt (by assumption) | exact i3a (by assumption) | exact i3b | omega, by first | assumption | exact Nat.le_of_lt (by assumption) | exact Nat.lt_of_lt_of_le (by assumption) (by assumption) | exact Nat.lt_of_le_of_lt (by assumption) (by assumption) | exact Nat.le_trans (by assumption) (by decide) | exact Nat.lt_of_le_of_lt (by assumption) (by decide) | exact Nat.lt_of_lt_of_le (by assumption) (Nat.le_trans (by assumption) (by decide)) | exact Nat.ne_of_gt (by assumption) | exact Nat.ne_of_lt (by assumption) | exact i3a (by assumption) | exact i3b | omega⟩
  refine wSs_cons (wS_store (wE_bin (wE_sub (wE_var (v := .ref bx) rfl (wE_int (subP_list (i := 1) e1 (by first | assumption | exact Nat.le_of_lt (by assumption) | exact Nat.lt_of_lt_of_le (by assumption) (by assumption) | exact Nat.lt_of_le_of_lt (by assumption) (by assumption) | exact Nat.le_trans (by assumption) (by decide) | exact Nat.lt_of_le_of_lt (by assumption) (by decide) | exact Nat.lt_of_lt_of_le (by assumption) (Nat.le_trans (by assumption) (by decide)) | exact Nat.ne_of_gt (by assumption) | exact Nat.ne_of_lt (by assumption) | exact i3a (by assumption) | exact i3b | omega) rfl (wE_int (binP_add ?_))))))))
  refine wE_var (v := .ref bx) rfl (wE_int (storeP_list (i := 1) e1 (by first | assumption | exact Nat.le_of_lt (by assumption) | exact Nat.lt_of_lt_of_le (by assumption) (by assumption) | exact Nat.lt_of_le_of_lt (by assumption) (by assumption) | exact Nat.le_trans (by assumption) (by decide) | exact Nat.lt_of_le_of_lt (by assumption) (by decide) | exact Nat.lt_of_lt_of_le (by assumption) (Nat.le_trans (by assumption) (by decide)) | exact Nat.ne_of_gt (by assumption) | exact Nat.ne_of_lt (by assumption) | exact i3a (by assumption) | exact i3b | omega) (by simp) ?_))
  have f1 : upd μ bx (.list (List.set [V.ref lx, .int c] 1 (.int (c + 1)))) bx = some (.list [.ref lx, .int (c + 1)]) := upd_self _ _ _
  have f2 : upd μ bx (.list (List.set [V.ref lx, .int c] 1 (.int (c + 1)))) lx = some (.list (ns.map V.int)) := (upd_ne _ _ (Ne.symm hne)).trans e2
  have f3 : ∀ b o, b ≠ bx → b ≠ lx → μ b = some o → upd μ bx (.list (List.set [V.ref lx, .int c] 1 (.int (c + 1)))) b = some o := fun b o h1 _ e => (upd_ne _ _ h1).trans e
  generalize upd μ bx (.list (List.set [V.ref lx, .int c] 1 (.int (c + 1)))) = μ1 at f1 f2 f3 ⊢
  refine wSs_cons (wS_ite (wT_cmp (wE_sub (wE_var (v := .ref bx) rfl (wE_int (subP_list (i := 0) f1 (by first | assumption | exact Nat.le_of_lt (by assumption) | exact Nat.lt_of_lt_of_le (by assumption) (by assumption) | exact Nat.lt_of_le_of_lt (by assumption) (by assumption) | exact Nat.le_trans (by assumption) (by decide) | exact Nat.lt_of_le_of_lt (by assumption) (by decide) | exact Nat.lt_of_lt_of_le (by assumption) (Nat.le_trans (by assumption) (by decide)) | exact Nat.ne_of_gt (by assumption) | exact Nat.ne_of_lt (by assumption) | exact i3a (by assumption) | exact i3b | omega) rfl (wE_list (wEs_nil ⟨by simp, fun c2 hc2 => ?_⟩))))))))
  have hl2 : lx ≠ c2 := fun q => by rw [q, hc2] at f2; cases f2
  have hb2 : bx ≠ c2 := fun q => by rw [q, hc2] at f1; cases f1
  have g1 := (upd_ne μ1 (.list []) hb2).trans f1
  have g2 := (upd_ne μ1 (.list []) hl2).trans f2
  have g3 : ∀ b o, b ≠ bx → b ≠ lx → μ b = some o → upd μ1 c2 (.list []) b = some o := fun b o h1 h2 e => Ext.alloc (fun _ _ e => e) hc2 _ _ _ (f3 b o h1 h2 e)
  refine ⟨ns, g2, upd_self _ _ _, ?_⟩
  generalize upd μ1 c2 (.list []) = μ2 at g1 g2 g3 ⊢
  cases ns with
  | nil =>
    refine iF ?_
    refine wSs_nil (wSs_cons (wS_ret (wE_bin (wE_bin (wE_bin (wE_int (wE_sub (wE_var (v := .ref bx) rfl (wE_int (subP_list (i := 1) g1 (by first | assumption | exact Nat.le_of_lt (by assumption) | exact Nat.lt_of_lt_of_le (by assumption) (by assumption) | exact Nat.lt_of_le_of_lt (by assumption) (by assumption) | exact Nat.le_trans (by assumption) (by decide) | exact Nat.lt_of_le_of_lt (by assumption) (by decide) | exact Nat.lt_of_lt_of_le (by assumption) (Nat.le_trans (by assumption) (by decide)) | exact Nat.ne_of_gt (by assumption) | exact Nat.ne_of_lt (by assumption) | exact i3a (by assumption) | exact i3b | omega) rfl ⟨IntMulOk.of_left (intBits_le_64 (by decide) (by decide)), ?_⟩))))))))))
    refine wE_bin (wE_sub (wE_var (v := .ref bx) rfl (wE_int (subP_list (i := 1) g1 (by first | assumption | exact Nat.le_of_lt (by assumption) | exact Nat.lt_of_lt_of_le (by assumption) (by assumption) | exact Nat.lt_of_le_of_lt (by assumption) (by assumption) | exact Nat.le_trans (by assumption) (by decide) | exact Nat.lt_of_le_of_lt (by assumption) (by decide) | exact Nat.lt_of_lt_of_le (by assumption) (Nat.le_trans (by assumption) (by decide)) | exact Nat.ne_of_gt (by assumption) | exact Nat.ne_of_lt (by assumption) | exact i3a (by assumption) | exact i3b | omega) rfl (wE_int ⟨by decide, by decide, binP_add (wE_var (v := .int (k : Nat)) rfl ⟨by first | assumption | exact Nat.le_of_lt (by assumption) | exact Nat.lt_of_lt_of_le (by assumption) (by assumption) | exact Nat.lt_of_le_of_lt (by assumption) (by assumption) | exact Nat.le_trans (by assumption) (by decide) | exact Nat.lt_of_le_of_lt (by assumption) (by decide) | exact Nat.lt_of_lt_of_le (by assumption) (Nat.le_trans (by assumption) (by decide)) | exact Nat.ne_of_gt (by assumption) | exact Nat.ne_of_lt (by assumption) | exact i3a (by assumption) | exact i3b | omega, ?_⟩)⟩)))))
    obtain ⟨v, hv, ev⟩ := fm (5 * (c + 1) + (c + 1).fdiv 3)
    rw [ev]
    exact h v _ hv ⟨⟨c + 1, [], g1, g2, by simp⟩, hne⟩ g3
  | cons x ns =>
    refine iT ?_
    refine wSs_cons (wS_ret (wE_bin (show wpE _ (.pop0 _) _ _ _ from wE_sub (wE_var (v := .ref bx) rfl (wE_int (subP_list (i := 0) g1 (by first | assumption | exact Nat.le_of_lt (by assumption) | exact Nat.lt_of_lt_of_le (by assumption) (by assumption) | exact Nat.lt_of_le_of_lt (by assumption) (by assumption) | exact Nat.le_trans (by assumption) (by decide) | exact Nat.lt_of_le_of_lt (by assumption) (by decide) | exact Nat.lt_of_lt_of_le (by assumption) (Nat.le_trans (by assumption) (by decide)) | exact Nat.ne_of_gt (by assumption) | exact Nat.ne_of_lt (by assumption) | exact i3a (by assumption) | exact i3b | omega) rfl ⟨lx, .int x, ns.map V.int, rfl, g2, by rw [List.length_map, sizeLine_eq]; simp at hns; omega, wE_var (v := .int (k : Nat)) rfl ⟨by first | assumption | exact Nat.le_of_lt (by assumption) | exact Nat.lt_of_lt_of_le (by assumption) (by assumption) | exact Nat.lt_of_le_of_lt (by assumption) (by assumption) | exact Nat.le_trans (by assumption) (by decide) | exact Nat.lt_of_le_of_lt (by assumption) (by decide) | exact Nat.lt_of_lt_of_le (by assumption) (Nat.le_trans (by assumption) (by decide)) | exact Nat.ne_of_gt (by assumption) | exact Nat.ne_of_lt (by assumption) | exact i3a (by assumption) | exact i3b | omega, ?_⟩⟩))))))
    obtain ⟨v, hv, ev⟩ := fm x
    rw [ev]
    exact h v _ hv ⟨⟨c + 1, ns, (upd_ne _ _ hne).trans g1, upd_self _ _ _, by simp at hns; omega⟩, hne⟩ fun b o h1 h2 e => (upd_ne _ _ h2).trans (g3 b o h1 h2 e)
end
end Mine

end PartML32

section PartML40
open PySem
set_option linter.unusedVariables false
set_option linter.unusedSimpArgs false
set_option maxRecDepth 100000
namespace Mine

/-! sums over a full period -/
noncomputable def sm : Nat → (Int → Nat) → Nat
  | 0, _ => 0
  | n + 1, f => sm n f + f n
theorem sm_congr {f g : Int → Nat} : ∀ n : Nat, (∀ t : Nat, t < n → f t = g t) → sm n f = sm n g
  | 0, _ => rfl
  | n + 1, h => by rw [sm, sm, sm_congr n fun t ht => h t (by first | assumption | exact Nat.le_of_lt (by assumption) | exact Nat.lt_of_lt_of_le (by assumption) (by assumption) | exact Nat.lt_of_le_of_lt (by assumption) (by assumption) | exact Nat.le_trans (by assumption) (by decide) | exact Nat.lt_of_le_of_lt (by assumption) (by decide) | exact Nat.lt_of_lt_of_le (by assumption) (Nat.le_trans (by assumption) (by decide)) | exact Nat.ne_of_gt (by assumption) | exact Nat.ne_of_lt (by assumption) | exact i3a (by assumption) | exact i3b | omega), h n (by first | assumption | exact Nat.le_of_lt (by assumption) | exact Nat.lt_of_lt_of_le (by assumption) (by assumption) | exact Nat.lt_of_le_of_lt (by assumption) (by assumption) | exact Nat.le_trans (by assumption) (by decide) | exact Nat.lt_of_le_of_lt (by assumption) (by decide) | exact Nat.lt_of_lt_of_le (by assumption) (Nat.le_trans (by assumption) (by decide)) | exact Nat.ne_of_gt (by assumption) | exact Nat.ne_of_lt (by assumption) | exact i3a (by assumption) | exact i3b | omega)]
theorem sm_add (n : Nat) (f g : Int → Nat) : sm n (fun t => f t + g t) = sm n f + sm n g := by
  induction n with
  | zero => rfl
  | succ n ih => rw [sm, sm, sm, ih]; omega
theorem sm_zero (n : Nat) : sm n (fun _ => 0) = 0 := by
  induction n with
  | zero => rfl
  | succ n ih => rw [sm, ih]
theorem sm_comm (n m : Nat) (f : Int → Int → Nat) : sm n (fun a => sm m fun b => f a b) = sm m (fun b => sm n fun a => f a b) := by
  induction n with
  | zero => rw [sm]; exact (sm_zero m).symm
  | succ n ih => rw [sm, ih, ← sm_add]; rfl
theorem sm_step (n : Nat) (f : Int → Nat) : sm n (fun t => f (t + 1)) + f 0 = sm n f + f n := by
  induction n with
  | zero => rfl
  | succ n ih =>
    rw [sm, sm]
    have : f ((n : Int) + 1) = f ((n + 1 : Nat) : Int) := by congr 1
    rw [this]; omega
theorem sm_shift_nat {m : Nat} {f : Int → Nat} (hf : ∀ t, f (t + m) = f t) : ∀ s : Nat, sm m (fun t => f (t + s)) = sm m f
  | 0 => by simp
  | s + 1 => by
    have h1 := sm_step m (fun t => f (t + s))
    have h2 : f ((0 : Int) + s) = f ((m : Int) + s) := by
      have := hf s
      rw [Int.zero_add, ← this]; congr 1; omega
    rw [← sm_shift_nat hf s]
    have h3 : sm m (fun t => f (t + (s + 1 : Nat))) = sm m (fun t => f (t + 1 + s)) := sm_congr m fun t _ => by congr 1; omega
    rw [h3]
    omega
theorem sm_shift {m : Nat} {f : Int → Nat} (hf : ∀ t, f (t + m) = f t) (s : Int) : sm m (fun t => f (t + s)) = sm m f := by
  by_cases h : 0 ≤ s
  · obtain ⟨n, rfl⟩ := Int.eq_ofNat_of_zero_le h
    exact sm_shift_nat hf n
  · obtain ⟨n, hn⟩ := Int.eq_ofNat_of_zero_le (show 0 ≤ -s by first | assumption | exact Nat.le_of_lt (by assumption) | exact Nat.lt_of_lt_of_le (by assumption) (by assumption) | exact Nat.lt_of_le_of_lt (by assumption) (by assumption) | exact Nat.le_trans (by assumption) (by decide) | exact Nat.lt_of_le_of_lt (by assumption) (by decide) | exact Nat.lt_of_lt_of_le (by assumption) (Nat.le_trans (by assumption) (by decide)) | exact Nat.ne_of_gt (by assumption) | exact Nat.ne_of_lt (by assumption) | exact i3a (by assumption) | exact i3b | omega)
    have hs : s = -(n : Int) := by first | assumption | exact Nat.le_of_lt (by assumption) | exact Nat.lt_of_lt_of_le (by assumption) (by assumption) | exact Nat.lt_of_le_of_lt (by assumption) (by assumption) | exact Nat.le_trans (by assumption) (by decide) | exact Nat.lt_of_le_of_lt (by assumption) (by decide) | exact Nat.lt_of_lt_of_le (by assumption) (Nat.le_trans (by assumption) (by decide)) | exact Nat.ne_of_gt (by assumption) | exact Nat.ne_of_lt (by assumption) | exact i3a (by assumption) | exact i3b | omega
    subst hs
    have := sm_shift_nat (f := fun t => f (t + -(n : Int))) (m := m) (fun t => by
      have := hf (t + -(n : Int)); rw [← this]; congr 1; omega) n
    rw [← this]
    exact sm_congr m fun t _ => by congr 1; omega

noncomputable def ind (p : Prop) : Nat := by classical exact if p then 1 else 0
theorem ind_congr {p q : Prop} (h : p ↔ q) : ind p = ind q := by rw [propext h]
theorem ind_true {p : Prop} (h : p) : ind p = 1 := by unfold ind; exact if_pos h
theorem ind_false {p : Prop} (h : ¬ p) : ind p = 0 := by unfold ind; exact if_neg h

noncomputable def mv (S : Nat → Nat → Int) (i : Nat) (y : Nat → Int) : Int := S i 0 * y 0 + S i 1 * y 1 + S i 2 * y 2
noncomputable def v3 (a b d : Int) : Nat → Int := fun k => if k = 0 then a else if k = 1 then b else d
noncomputable def sat (m r : Nat) (S : Nat → Nat → Int) (c : Nat → Int) (y : Nat → Int) : Prop := ∀ i < r, (m : Int) ∣ mv S i y - c i
noncomputable def cnt (m w r : Nat) (S : Nat → Nat → Int) (c : Nat → Int) : Nat := sm m fun a => sm m fun b => sm (if w = 3 then m else 1) fun d => ind (sat m r S c (v3 a b d))

theorem cnt_congr {m w r : Nat} {S S' : Nat → Nat → Int} {c c' : Nat → Int} (h : ∀ y, (w = 2 → y 2 = 0) → (sat m r S c y ↔ sat m r S' c' y)) (hw : w = 2 ∨ w = 3) : cnt m w r S c = cnt m w r S' c' := by
  unfold cnt
  refine sm_congr _ fun a _ => sm_congr _ fun b _ => sm_congr _ fun d hd => ind_congr (h _ fun e => ?_)
  subst e
  have : d = 0 := by simp at hd; exact hd
  subst this; rfl

theorem mv_v3 (S : Nat → Nat → Int) (i : Nat) (a b d : Int) : mv S i (v3 a b d) = S i 0 * a + S i 1 * b + S i 2 * d := by simp [mv, v3]
theorem dvd_shift {m x y k : Int} (h : x = y + m * k) : m ∣ x ↔ m ∣ y := by
  subst h
  constructor
  · intro h; have := Int.dvd_sub h (Int.dvd_mul_right m k); rwa [Int.add_sub_cancel] at this
  · intro h; exact Int.dvd_add h (Int.dvd_mul_right m k)
theorem sat_per0 {m r : Nat} {S : Nat → Nat → Int} {c : Nat → Int} (a b d : Int) : ind (sat m r S c (v3 (a + m) b d)) = ind (sat m r S c (v3 a b d)) :=
  ind_congr ⟨fun h i hi => (dvd_shift (k := S i 0) (by rw [mv_v3, mv_v3]; grind)).mp (h i hi), fun h i hi => (dvd_shift (k := S i 0) (by rw [mv_v3, mv_v3]; grind)).mpr (h i hi)⟩
theorem sat_per1 {m r : Nat} {S : Nat → Nat → Int} {c : Nat → Int} (a b d : Int) : ind (sat m r S c (v3 a (b + m) d)) = ind (sat m r S c (v3 a b d)) :=
  ind_congr ⟨fun h i hi => (dvd_shift (k := S i 1) (by rw [mv_v3, mv_v3]; grind)).mp (h i hi), fun h i hi => (dvd_shift (k := S i 1) (by rw [mv_v3, mv_v3]; grind)).mpr (h i hi)⟩

/-- the first coordinate is shifted by what hangs on the others -/
theorem cnt_shift0 {m w r : Nat} {S S' : Nat → Nat → Int} {c : Nat → Int} (s : Int → Int → Int) (hw : w = 2 ∨ w = 3) (h : ∀ a b d, (w = 2 → d = 0) → ∀ i < r, mv S' i (v3 a b d) = mv S i (v3 (a + s b d) b d)) : cnt m w r S' c = cnt m w r S c := by
  have e : cnt m w r S' c = sm m fun a => sm m fun b => sm (if w = 3 then m else 1) fun d => ind (sat m r S c (v3 (a + s b d) b d)) := by
    unfold cnt
    refine sm_congr _ fun a _ => sm_congr _ fun b _ => sm_congr _ fun d hd => ind_congr ?_
    have hd' : w = 2 → (d : Int) = 0 := fun e => by subst e; simp at hd; omega
    exact ⟨fun g i hi => by rw [← h _ _ _ hd' i hi]; exact g i hi, fun g i hi => by rw [h _ _ _ hd' i hi]; exact g i hi⟩
  rw [e]
  unfold cnt
  refine (sm_comm _ _ _).trans (Eq.trans (sm_congr _ fun b _ => ?_) (sm_comm _ _ _).symm)
  refine (sm_comm _ _ _).trans (Eq.trans (sm_congr _ fun d _ => ?_) (sm_comm _ _ _).symm)
  exact sm_shift (f := fun a => ind (sat m r S c (v3 a b d))) (fun t => sat_per0 _ _ _) (s b d)
theorem cnt_shift1 {m w r : Nat} {S S' : Nat → Nat → Int} {c : Nat → Int} (s : Int → Int) (hw : w = 2 ∨ w = 3) (h : ∀ a b d, (w = 2 → d = 0) → ∀ i < r, mv S' i (v3 a b d) = mv S i (v3 a (b + s d) d)) : cnt m w r S' c = cnt m w r S c := by
  have e : cnt m w r S' c = sm m fun a => sm m fun b => sm (if w = 3 then m else 1) fun d => ind (sat m r S c (v3 a (b + s d) d)) := by
    unfold cnt
    refine sm_congr _ fun a _ => sm_congr _ fun b _ => sm_congr _ fun d hd => ind_congr ?_
    have hd' : w = 2 → (d : Int) = 0 := fun e => by subst e; simp at hd; omega
    exact ⟨fun g i hi => by rw [← h _ _ _ hd' i hi]; exact g i hi, fun g i hi => by rw [h _ _ _ hd' i hi]; exact g i hi⟩
  rw [e]
  unfold cnt
  refine sm_congr _ fun a _ => ?_
  refine (sm_comm _ _ _).trans (Eq.trans (sm_congr _ fun d _ => ?_) (sm_comm _ _ _).symm)
  exact sm_shift (f := fun b => ind (sat m r S c (v3 a b d))) (fun t => sat_per1 _ _ _) (s d)

/-- two columns change places -/
theorem sj : ∀ j < 3, ∀ st ≤ j, st ≠ j → (st = 0 ∧ j = 1) ∨ (st = 0 ∧ j = 2) ∨ (st = 1 ∧ j = 2) := by decide
theorem cnt_swap {m w r : Nat} {S : Nat → Nat → Int} {c : Nat → Int} {j st : Nat} (hw : w = 2 ∨ w = 3) (hj : j < w) (hs : st ≤ j) : cnt m w r (fun a b => S a (swp j st b)) c = cnt m w r S c := by
  by_cases e : st = j
  · subst e
    have : (fun a b => S a (swp st st b)) = S := by
      funext a b; congr 1; unfold swp; by_cases h : b = st <;> simp [h]
    rw [this]
  have key : ∀ {f : Int → Int → Int → Nat}, (∀ a b d : Int, (w = 2 → d = 0) → ind (sat m r (fun a b => S a (swp j st b)) c (v3 a b d)) = f a b d) → cnt m w r (fun a b => S a (swp j st b)) c = sm m fun a => sm m fun b => sm (if w = 3 then m else 1) fun d => f a b d := fun {f} h => by
    unfold cnt
    exact sm_congr _ fun a _ => sm_congr _ fun b _ => sm_congr _ fun d hd => h _ _ _ fun e => by subst e; simp at hd; omega
  have sw : ∀ {y y' : Nat → Int}, (∀ i, mv (fun a b => S a (swp j st b)) i y = mv S i y') → ind (sat m r (fun a b => S a (swp j st b)) c y) = ind (sat m r S c y') := fun h => ind_congr ⟨fun g i hi => by rw [← h i]; exact g i hi, fun g i hi => by rw [h i]; exact g i hi⟩
  rcases (sj j (Nat.lt_of_lt_of_le hj (by rcases hw with rfl | rfl <;> decide)) st hs e) with ⟨rfl, rfl⟩ | ⟨rfl, rfl⟩ | ⟨rfl, rfl⟩
  · rw [key (f := fun a b d => ind (sat m r S c (v3 b a d))) fun a b d _ => sw fun i => by rw [mv_v3, mv_v3]; simp [swp]; grind]
    unfold cnt
    rw [sm_comm]
  · have h3 : w = 3 := by first | assumption | exact Nat.le_of_lt (by assumption) | exact Nat.lt_of_lt_of_le (by assumption) (by assumption) | exact Nat.lt_of_le_of_lt (by assumption) (by assumption) | exact Nat.le_trans (by assumption) (by decide) | exact Nat.lt_of_le_of_lt (by assumption) (by decide) | exact Nat.lt_of_lt_of_le (by assumption) (Nat.le_trans (by assumption) (by decide)) | exact Nat.ne_of_gt (by assumption) | exact Nat.ne_of_lt (by assumption) | exact i3a (by assumption) | exact i3b | omega
    subst h3
    rw [key (f := fun a b d => ind (sat m r S c (v3 d b a))) fun a b d _ => sw fun i => by rw [mv_v3, mv_v3]; simp [swp]; grind]
    unfold cnt
    simp only [if_true]
    rw [sm_comm]
    have : (fun b => sm m fun a => sm m fun d => ind (sat m r S c (v3 d b a))) = fun b => sm m fun a => sm m fun d => ind (sat m r S c (v3 a b d)) := by
      funext b; exact sm_comm m m _
    rw [this, sm_comm]
  · have h3 : w = 3 := by first | assumption | exact Nat.le_of_lt (by assumption) | exact Nat.lt_of_lt_of_le (by assumption) (by assumption) | exact Nat.lt_of_le_of_lt (by assumption) (by assumption) | exact Nat.le_trans (by assumption) (by decide) | exact Nat.lt_of_le_of_lt (by assumption) (by decide) | exact Nat.lt_of_lt_of_le (by assumption) (Nat.le_trans (by assumption) (by decide)) | exact Nat.ne_of_gt (by assumption) | exact Nat.ne_of_lt (by assumption) | exact i3a (by assumption) | exact i3b | omega
    subst h3
    rw [key (f := fun a b d => ind (sat m r S c (v3 a d b))) fun a b d _ => sw fun i => by rw [mv_v3, mv_v3]; simp [swp]; grind]
    unfold cnt
    simp only [if_true]
    refine sm_congr _ fun a _ => ?_
    exact sm_comm m m _
end Mine

end PartML40

section PartML41
open PySem
set_option linter.unusedVariables false
set_option linter.unusedSimpArgs false
set_option maxRecDepth 100000
namespace Mine

/-- what the counts of A say, the counts of S say behind U -/
noncomputable def KI (A : Nat → Nat → Int) (r w : Nat) (M : Nat → Nat → Nat → Int) : Prop := ∀ m (b : Nat → Int), (∀ k, r ≤ k → b k = 0) → cnt m w r A b = cnt m w r (M 0) (fun i => mv (M 1) i b)

theorem KI.start {A : Nat → Nat → Int} {r w : Nat} (hr : r ≤ 3) (hw : w = 2 ∨ w = 3) : KI A r w (startM A) := fun m b hb => by
  refine cnt_congr (fun y _ => ?_) hw
  have e : ∀ i < r, mv (startM A 1) i b = b i := fun i hi => by
    rcases (k3all i (Nat.lt_of_lt_of_le hi hr)) with rfl | rfl | rfl <;> simp [mv, startM, unitF]
  have e0 : startM A 0 = A := by funext i j; simp [startM]
  unfold sat
  rw [e0]
  exact ⟨fun h i hi => by show (m : Int) ∣ _ - mv (startM A 1) i b; rw [e i hi]; exact h i hi, fun h i hi => by rw [← e i hi]; exact h i hi⟩

theorem swp_swp {i st t : Nat} : swp i st (swp i st t) = t := swp_twice
theorem bringM0 (M : Nat → Nat → Nat → Int) (i j st : Nat) : bringM M i j st 0 = fun a c => M 0 (swp i st a) (swp j st c) := by
  funext a c; simp [bringM, swapColsM, swapRowsM]
theorem bringM1 (M : Nat → Nat → Nat → Int) (i j st : Nat) : bringM M i j st 1 = fun a c => M 1 (swp i st a) c := by
  funext a c; simp [bringM, swapColsM, swapRowsM]
theorem KI.bring {A : Nat → Nat → Int} {r w i j st : Nat} {M : Nat → Nat → Nat → Int} (K : KI A r w M) (hw : w = 2 ∨ w = 3) (hi : i < r) (hs : st < r) (hj : j < w) (hsj : st ≤ j) : KI A r w (bringM M i j st) := fun m b hb => by
  rw [K m b hb, bringM0, bringM1]
  have := cnt_swap (m := m) (r := r) (S := fun a c => M 0 (swp i st a) c) (c := fun a => mv (fun a c => M 1 (swp i st a) c) a b) hw hj hsj
  rw [this]
  refine cnt_congr (fun y _ => ?_) hw
  constructor
  · intro h a ha
    exact h (swp i st a) (swp_lt hi hs ha)
  · intro h a ha
    have := h (swp i st a) (swp_lt hi hs ha)
    have e : ∀ c, M 0 (swp i st (swp i st a)) c = M 0 a c := fun c => by rw [swp_swp]
    have e1 : ∀ c, M 1 (swp i st (swp i st a)) c = M 1 a c := fun c => by rw [swp_swp]
    simp only [mv, e, e1] at this ⊢
    exact this

theorem KI.rows {A : Nat → Nat → Int} {r w st : Nat} {M : Nat → Nat → Nat → Int} (K : KI A r w M) (hw : w = 2 ∨ w = 3) (hs : st < r) (lead : Int) (n : Nat) (hn : st + n < r) : KI A r w (rowPh M st lead n) := fun m b hb => by
  rw [K m b hb]
  refine cnt_congr (fun y _ => ?_) hw
  have e : ∀ a, mv (rowPh M st lead n 0) a y - mv (rowPh M st lead n 1) a b = if st < a ∧ a ≤ st + n then (mv (M 0) a y - mv (M 1) a b) - (M 0 a st).fdiv lead * (mv (M 0) st y - mv (M 1) st b) else mv (M 0) a y - mv (M 1) a b := fun a => by
    by_cases h : st < a ∧ a ≤ st + n
    · rw [if_pos h]; simp only [mv, rowPh, h, and_self, if_true, show (0 : Nat) < 2 by decide, show (1 : Nat) < 2 by decide, true_and]; grind
    · rw [if_neg h]; simp only [mv, rowPh, h, and_false, if_false]
  have est : mv (rowPh M st lead n 0) st y - mv (rowPh M st lead n 1) st b = mv (M 0) st y - mv (M 1) st b := by rw [e, if_neg (by first | assumption | exact Nat.le_of_lt (by assumption) | exact Nat.lt_of_lt_of_le (by assumption) (by assumption) | exact Nat.lt_of_le_of_lt (by assumption) (by assumption) | exact Nat.le_trans (by assumption) (by decide) | exact Nat.lt_of_le_of_lt (by assumption) (by decide) | exact Nat.lt_of_lt_of_le (by assumption) (Nat.le_trans (by assumption) (by decide)) | exact Nat.ne_of_gt (by assumption) | exact Nat.ne_of_lt (by assumption) | exact i3a (by assumption) | exact i3b | omega)]
  constructor
  · intro h a ha
    show (m : Int) ∣ mv (rowPh M st lead n 0) a y - mv (rowPh M st lead n 1) a b
    rw [e]
    split
    · exact Int.dvd_sub (h a ha) (Int.dvd_mul_of_dvd_right (h st hs))
    · exact h a ha
  · intro h a ha
    have h1 : (m : Int) ∣ mv (rowPh M st lead n 0) a y - mv (rowPh M st lead n 1) a b := h a ha
    have h2 : (m : Int) ∣ mv (rowPh M st lead n 0) st y - mv (rowPh M st lead n 1) st b := h st hs
    rw [est] at h2
    rw [e] at h1
    split at h1
    · have := Int.dvd_add h1 (Int.dvd_mul_of_dvd_right (b := (M 0 a st).fdiv lead) h2)
      rwa [Int.sub_add_cancel] at this
    · exact h1

theorem colPh1 (M : Nat → Nat → Nat → Int) (st : Nat) (lead : Int) (n : Nat) : colPh M st lead n 1 = M 1 := by funext a c; simp [colPh]
theorem colPh0 (M : Nat → Nat → Nat → Int) (st : Nat) (lead : Int) (n a c : Nat) : colPh M st lead n 0 a c = if st < c ∧ c ≤ st + n then M 0 a c - (M 0 st c).fdiv lead * M 0 a st else M 0 a c := by simp [colPh]
theorem KI.cols {A : Nat → Nat → Int} {r w st : Nat} {M : Nat → Nat → Nat → Int} (K : KI A r w M) (hw : w = 2 ∨ w = 3) (hs : st < w) (lead : Int) : KI A r w (colPh M st lead (w - (st + 1))) := fun m b hb => by
  rw [K m b hb, colPh1]
  rcases (show st = 0 ∨ st = 1 ∨ st = 2 by first | assumption | exact Nat.le_of_lt (by assumption) | exact Nat.lt_of_lt_of_le (by assumption) (by assumption) | exact Nat.lt_of_le_of_lt (by assumption) (by assumption) | exact Nat.le_trans (by assumption) (by decide) | exact Nat.lt_of_le_of_lt (by assumption) (by decide) | exact Nat.lt_of_lt_of_le (by assumption) (Nat.le_trans (by assumption) (by decide)) | exact Nat.ne_of_gt (by assumption) | exact Nat.ne_of_lt (by assumption) | exact i3a (by assumption) | exact i3b | omega) with rfl | rfl | rfl
  · refine (cnt_shift0 (fun b d => -((M 0 0 1).fdiv lead * b + (M 0 0 2).fdiv lead * d)) hw fun a b d hd i hi => ?_).symm
    rw [mv_v3, mv_v3, colPh0, colPh0, colPh0]
    rcases hw with rfl | rfl
    · have := hd rfl; subst this; simp; grind
    · simp; grind
  · refine (cnt_shift1 (fun d => -((M 0 1 2).fdiv lead * d)) hw fun a b d hd i hi => ?_).symm
    rw [mv_v3, mv_v3, colPh0, colPh0, colPh0]
    rcases hw with rfl | rfl
    · have := hd rfl; subst this; simp
    · simp; grind
  · have h3 : w = 3 := by first | assumption | exact Nat.le_of_lt (by assumption) | exact Nat.lt_of_lt_of_le (by assumption) (by assumption) | exact Nat.lt_of_le_of_lt (by assumption) (by assumption) | exact Nat.le_trans (by assumption) (by decide) | exact Nat.lt_of_le_of_lt (by assumption) (by decide) | exact Nat.lt_of_lt_of_le (by assumption) (Nat.le_trans (by assumption) (by decide)) | exact Nat.ne_of_gt (by assumption) | exact Nat.ne_of_lt (by assumption) | exact i3a (by assumption) | exact i3b | omega
    subst h3
    refine cnt_congr (fun y _ => ?_) hw
    have : colPh M 2 lead (3 - (2 + 1)) 0 = M 0 := by funext a c; rw [colPh0, if_neg (by first | assumption | exact Nat.le_of_lt (by assumption) | exact Nat.lt_of_lt_of_le (by assumption) (by assumption) | exact Nat.lt_of_le_of_lt (by assumption) (by assumption) | exact Nat.le_trans (by assumption) (by decide) | exact Nat.lt_of_le_of_lt (by assumption) (by decide) | exact Nat.lt_of_lt_of_le (by assumption) (Nat.le_trans (by assumption) (by decide)) | exact Nat.ne_of_gt (by assumption) | exact Nat.ne_of_lt (by assumption) | exact i3a (by assumption) | exact i3b | omega)]
    rw [this]
theorem KI.clear {A : Nat → Nat → Int} {r w st : Nat} {M : Nat → Nat → Nat → Int} (K : KI A r w M) (hw : w = 2 ∨ w = 3) (hr : st < r) (hs : st < w) : KI A r w (clearM M st r w) :=
  (K.rows hw hr _ _ (by first | assumption | exact Nat.le_of_lt (by assumption) | exact Nat.lt_of_lt_of_le (by assumption) (by assumption) | exact Nat.lt_of_le_of_lt (by assumption) (by assumption) | exact Nat.le_trans (by assumption) (by decide) | exact Nat.lt_of_le_of_lt (by assumption) (by decide) | exact Nat.lt_of_lt_of_le (by assumption) (Nat.le_trans (by assumption) (by decide)) | exact Nat.ne_of_gt (by assumption) | exact Nat.ne_of_lt (by assumption) | exact i3a (by assumption) | exact i3b | omega)).cols hw hs _

theorem KI.addRow {A : Nat → Nat → Int} {r w st i : Nat} {M : Nat → Nat → Nat → Int} (K : KI A r w M) (hw : w = 2 ∨ w = 3) (hi : i < r) (hs : st < r) (hne : st ≠ i) : KI A r w (addM M i st) := fun m b hb => by
  rw [K m b hb]
  refine cnt_congr (fun y _ => ?_) hw
  have e : ∀ a, mv (addM M i st 0) a y - mv (addM M i st 1) a b = if a = st then (mv (M 0) st y - mv (M 1) st b) + (mv (M 0) i y - mv (M 1) i b) else mv (M 0) a y - mv (M 1) a b := fun a => by
    by_cases h : a = st
    · subst h; rw [if_pos rfl]; simp [mv, addM, setRowM]; grind
    · rw [if_neg h]; simp [mv, addM, setRowM, h]
  constructor
  · intro h a ha
    show (m : Int) ∣ mv (addM M i st 0) a y - mv (addM M i st 1) a b
    rw [e]
    split
    · exact Int.dvd_add (h st hs) (h i hi)
    · exact h a ha
  · intro h a ha
    have h1 : (m : Int) ∣ mv (addM M i st 0) a y - mv (addM M i st 1) a b := h a ha
    have h2 : (m : Int) ∣ mv (addM M i st 0) i y - mv (addM M i st 1) i b := h i hi
    rw [e] at h1 h2
    rw [if_neg (Ne.symm hne)] at h2
    split at h1
    · rename_i q; subst q
      have := Int.dvd_sub h1 h2
      rwa [Int.add_sub_cancel] at this
    · exact h1
theorem KI.neg {A : Nat → Nat → Int} {r w st : Nat} {M : Nat → Nat → Nat → Int} (K : KI A r w M) (hw : w = 2 ∨ w = 3) : KI A r w (negM M st) := fun m b hb => by
  rw [K m b hb]
  refine cnt_congr (fun y _ => ?_) hw
  have e : ∀ a, mv (negM M st 0) a y - mv (negM M st 1) a b = if a = st then -(mv (M 0) st y - mv (M 1) st b) else mv (M 0) a y - mv (M 1) a b := fun a => by
    by_cases h : a = st
    · subst h; rw [if_pos rfl]; simp [mv, negM, setRowM]; grind
    · rw [if_neg h]; simp [mv, negM, setRowM, h]
  constructor
  · intro h a ha
    show (m : Int) ∣ mv (negM M st 0) a y - mv (negM M st 1) a b
    rw [e]
    split
    · rename_i q; subst q; exact (Int.dvd_neg).mpr (h a ha)
    · exact h a ha
  · intro h a ha
    have h1 : (m : Int) ∣ mv (negM M st 0) a y - mv (negM M st 1) a b := h a ha
    rw [e] at h1
    split at h1
    · rename_i q; subst q; exact (Int.dvd_neg).mp h1
    · exact h1
end Mine

end PartML41

section PartML42
open PySem
set_option linter.unusedVariables false
set_option linter.unusedSimpArgs false
set_option maxRecDepth 100000
namespace Mine

/-! the entries of what clear_cross makes -/
section
variable {B : Nat → Nat → Nat → Int} {st r w : Nat}
theorem clr_row (hj : st < j) (hj' : j < w) : clearM B st r w 0 st j = B 0 st j - (B 0 st j).fdiv (B 0 st st) * B 0 st st := by
  have h1 : j ≤ st + (w - (st + 1)) := by first | assumption | exact Nat.le_of_lt (by assumption) | exact Nat.lt_of_lt_of_le (by assumption) (by assumption) | exact Nat.lt_of_le_of_lt (by assumption) (by assumption) | exact Nat.le_trans (by assumption) (by decide) | exact Nat.lt_of_le_of_lt (by assumption) (by decide) | exact Nat.lt_of_lt_of_le (by assumption) (Nat.le_trans (by assumption) (by decide)) | exact Nat.ne_of_gt (by assumption) | exact Nat.ne_of_lt (by assumption) | exact i3a (by assumption) | exact i3b | omega
  simp [clearM, colPh, rowPh, hj, h1]
theorem clr_col (hi : st < i) (hi' : i < r) : clearM B st r w 0 i st = B 0 i st - (B 0 i st).fdiv (B 0 st st) * B 0 st st := by
  have h1 : i ≤ st + (r - (st + 1)) := by first | assumption | exact Nat.le_of_lt (by assumption) | exact Nat.lt_of_lt_of_le (by assumption) (by assumption) | exact Nat.lt_of_le_of_lt (by assumption) (by assumption) | exact Nat.le_trans (by assumption) (by decide) | exact Nat.lt_of_le_of_lt (by assumption) (by decide) | exact Nat.lt_of_lt_of_le (by assumption) (Nat.le_trans (by assumption) (by decide)) | exact Nat.ne_of_gt (by assumption) | exact Nat.ne_of_lt (by assumption) | exact i3a (by assumption) | exact i3b | omega
  simp [clearM, colPh, rowPh, hi, h1]
theorem clr_in (hi : st < i) (hi' : i < r) (hj : st < j) (hj' : j < w) : clearM B st r w 0 i j =
    (B 0 i j - (B 0 i st).fdiv (B 0 st st) * B 0 st j) - (B 0 st j).fdiv (B 0 st st) * (B 0 i st - (B 0 i st).fdiv (B 0 st st) * B 0 st st) := by
  have h1 : i ≤ st + (r - (st + 1)) := by first | assumption | exact Nat.le_of_lt (by assumption) | exact Nat.lt_of_lt_of_le (by assumption) (by assumption) | exact Nat.lt_of_le_of_lt (by assumption) (by assumption) | exact Nat.le_trans (by assumption) (by decide) | exact Nat.lt_of_le_of_lt (by assumption) (by decide) | exact Nat.lt_of_lt_of_le (by assumption) (Nat.le_trans (by assumption) (by decide)) | exact Nat.ne_of_gt (by assumption) | exact Nat.ne_of_lt (by assumption) | exact i3a (by assumption) | exact i3b | omega
  have h2 : j ≤ st + (w - (st + 1)) := by first | assumption | exact Nat.le_of_lt (by assumption) | exact Nat.lt_of_lt_of_le (by assumption) (by assumption) | exact Nat.lt_of_le_of_lt (by assumption) (by assumption) | exact Nat.le_trans (by assumption) (by decide) | exact Nat.lt_of_le_of_lt (by assumption) (by decide) | exact Nat.lt_of_lt_of_le (by assumption) (Nat.le_trans (by assumption) (by decide)) | exact Nat.ne_of_gt (by assumption) | exact Nat.ne_of_lt (by assumption) | exact i3a (by assumption) | exact i3b | omega
  simp [clearM, colPh, rowPh, hi, h1, hj, h2]
theorem clr_up (hi : i < st) (h0 : B 0 i st = 0) : clearM B st r w 0 i j = B 0 i j := by
  have h1 : ¬ st < i := by first | assumption | exact Nat.le_of_lt (by assumption) | exact Nat.lt_of_lt_of_le (by assumption) (by assumption) | exact Nat.lt_of_le_of_lt (by assumption) (by assumption) | exact Nat.le_trans (by assumption) (by decide) | exact Nat.lt_of_le_of_lt (by assumption) (by decide) | exact Nat.lt_of_lt_of_le (by assumption) (Nat.le_trans (by assumption) (by decide)) | exact Nat.ne_of_gt (by assumption) | exact Nat.ne_of_lt (by assumption) | exact i3a (by assumption) | exact i3b | omega
  simp [clearM, colPh, rowPh, h1, h0]
theorem clr_left (hj : j < st) (h0 : B 0 st j = 0) : clearM B st r w 0 i j = B 0 i j := by
  have h1 : ¬ st < j := by first | assumption | exact Nat.le_of_lt (by assumption) | exact Nat.lt_of_lt_of_le (by assumption) (by assumption) | exact Nat.lt_of_le_of_lt (by assumption) (by assumption) | exact Nat.le_trans (by assumption) (by decide) | exact Nat.lt_of_le_of_lt (by assumption) (by decide) | exact Nat.lt_of_lt_of_le (by assumption) (Nat.le_trans (by assumption) (by decide)) | exact Nat.ne_of_gt (by assumption) | exact Nat.ne_of_lt (by assumption) | exact i3a (by assumption) | exact i3b | omega
  simp [clearM, colPh, rowPh, h1, h0]
end

/-- the cross is empty up to a step -/
noncomputable def ZC (st r w : Nat) (S : Nat → Nat → Int) : Prop := ∀ i < r, ∀ j < w, i ≠ j → (i < st ∨ j < st) → S i j = 0
theorem swp_small {i st a : Nat} (h : st ≤ i) (ha : a < st) : swp i st a = a := by unfold swp; split <;> (try split) <;> omega
theorem swp_big {i st a : Nat} (h : st ≤ i) (ha : st ≤ a) : st ≤ swp i st a := by unfold swp; split <;> (try split) <;> omega
theorem ZC.bring {st r w i j : Nat} {M : Nat → Nat → Nat → Int} (Z : ZC st r w (M 0)) (hi : st ≤ i) (hi' : i < r) (hj : st ≤ j) (hj' : j < w) (hr : st < r) (hw : st < w) : ZC st r w (bringM M i j st 0) := fun a ha c hc hne h => by
  rw [bringM0]
  refine Z _ (swp_lt hi' hr ha) _ (swp_lt hj' hw hc) ?_ ?_
  · rcases h with h | h
    · rw [swp_small hi h]
      rcases Nat.lt_or_ge c st with h2 | h2
      · rw [swp_small hj h2]; exact hne
      · have := swp_big (i := j) hj h2; omega
    · rw [swp_small hj h]
      rcases Nat.lt_or_ge a st with h2 | h2
      · rw [swp_small hi h2]; exact hne
      · have := swp_big (i := i) hi h2; omega
  · rcases h with h | h
    · rw [swp_small hi h]; exact .inl h
    · rw [swp_small hj h]; exact .inr h
theorem ZC.clear {st r w : Nat} {B : Nat → Nat → Nat → Int} (Z : ZC st r w (B 0)) (hr : st < r) (hw : st < w) : ZC st r w (clearM B st r w 0) := fun a ha c hc hne h => by
  rcases h with h | h
  · rw [clr_up h (Z a ha st hw (by first | assumption | exact Nat.le_of_lt (by assumption) | exact Nat.lt_of_lt_of_le (by assumption) (by assumption) | exact Nat.lt_of_le_of_lt (by assumption) (by assumption) | exact Nat.le_trans (by assumption) (by decide) | exact Nat.lt_of_le_of_lt (by assumption) (by decide) | exact Nat.lt_of_lt_of_le (by assumption) (Nat.le_trans (by assumption) (by decide)) | exact Nat.ne_of_gt (by assumption) | exact Nat.ne_of_lt (by assumption) | exact i3a (by assumption) | exact i3b | omega) (.inl h))]; exact Z a ha c hc hne (.inl h)
  · rw [clr_left h (Z st hr c hc (by first | assumption | exact Nat.le_of_lt (by assumption) | exact Nat.lt_of_lt_of_le (by assumption) (by assumption) | exact Nat.lt_of_le_of_lt (by assumption) (by assumption) | exact Nat.le_trans (by assumption) (by decide) | exact Nat.lt_of_le_of_lt (by assumption) (by decide) | exact Nat.lt_of_lt_of_le (by assumption) (Nat.le_trans (by assumption) (by decide)) | exact Nat.ne_of_gt (by assumption) | exact Nat.ne_of_lt (by assumption) | exact i3a (by assumption) | exact i3b | omega) (.inr h))]; exact Z a ha c hc hne (.inr h)
theorem ZC.cleared {st r w : Nat} {B : Nat → Nat → Nat → Int} (Z : ZC st r w (B 0)) (hr : st < r) (hw : st < w)
    (h1 : ∀ i, st < i → i < r → B 0 i st - (B 0 i st).fdiv (B 0 st st) * B 0 st st = 0) (h2 : ∀ j, st < j → j < w → B 0 st j - (B 0 st j).fdiv (B 0 st st) * B 0 st st = 0) : ZC (st + 1) r w (clearM B st r w 0) := fun a ha c hc hne h => by
  by_cases h3 : a < st ∨ c < st
  · exact Z.clear hr hw a ha c hc hne h3
  · by_cases h4 : a = st
    · subst h4; rw [clr_row (by first | assumption | exact Nat.le_of_lt (by assumption) | exact Nat.lt_of_lt_of_le (by assumption) (by assumption) | exact Nat.lt_of_le_of_lt (by assumption) (by assumption) | exact Nat.le_trans (by assumption) (by decide) | exact Nat.lt_of_le_of_lt (by assumption) (by decide) | exact Nat.lt_of_lt_of_le (by assumption) (Nat.le_trans (by assumption) (by decide)) | exact Nat.ne_of_gt (by assumption) | exact Nat.ne_of_lt (by assumption) | exact i3a (by assumption) | exact i3b | omega) hc]; exact h2 c (by first | assumption | exact Nat.le_of_lt (by assumption) | exact Nat.lt_of_lt_of_le (by assumption) (by assumption) | exact Nat.lt_of_le_of_lt (by assumption) (by assumption) | exact Nat.le_trans (by assumption) (by decide) | exact Nat.lt_of_le_of_lt (by assumption) (by decide) | exact Nat.lt_of_lt_of_le (by assumption) (Nat.le_trans (by assumption) (by decide)) | exact Nat.ne_of_gt (by assumption) | exact Nat.ne_of_lt (by assumption) | exact i3a (by assumption) | exact i3b | omega) hc
    · have h5 : c = st := by first | assumption | exact Nat.le_of_lt (by assumption) | exact Nat.lt_of_lt_of_le (by assumption) (by assumption) | exact Nat.lt_of_le_of_lt (by assumption) (by assumption) | exact Nat.le_trans (by assumption) (by decide) | exact Nat.lt_of_le_of_lt (by assumption) (by decide) | exact Nat.lt_of_lt_of_le (by assumption) (Nat.le_trans (by assumption) (by decide)) | exact Nat.ne_of_gt (by assumption) | exact Nat.ne_of_lt (by assumption) | exact i3a (by assumption) | exact i3b | omega
      subst h5; rw [clr_col (by first | assumption | exact Nat.le_of_lt (by assumption) | exact Nat.lt_of_lt_of_le (by assumption) (by assumption) | exact Nat.lt_of_le_of_lt (by assumption) (by assumption) | exact Nat.le_trans (by assumption) (by decide) | exact Nat.lt_of_le_of_lt (by assumption) (by decide) | exact Nat.lt_of_lt_of_le (by assumption) (Nat.le_trans (by assumption) (by decide)) | exact Nat.ne_of_gt (by assumption) | exact Nat.ne_of_lt (by assumption) | exact i3a (by assumption) | exact i3b | omega) ha]; exact h1 a (by first | assumption | exact Nat.le_of_lt (by assumption) | exact Nat.lt_of_lt_of_le (by assumption) (by assumption) | exact Nat.lt_of_le_of_lt (by assumption) (by assumption) | exact Nat.le_trans (by assumption) (by decide) | exact Nat.lt_of_le_of_lt (by assumption) (by decide) | exact Nat.lt_of_lt_of_le (by assumption) (Nat.le_trans (by assumption) (by decide)) | exact Nat.ne_of_gt (by assumption) | exact Nat.ne_of_lt (by assumption) | exact i3a (by assumption) | exact i3b | omega) ha
theorem addM0 (C : Nat → Nat → Nat → Int) (i st a c : Nat) : addM C i st 0 a c = if a = st then C 0 st c + C 0 i c else C 0 a c := by simp [addM, setRowM]
theorem negM0 (C : Nat → Nat → Nat → Int) (st a c : Nat) : negM C st 0 a c = if a = st then - C 0 st c else C 0 a c := by simp [negM, setRowM]
theorem ZC.add {st r w i : Nat} {C : Nat → Nat → Nat → Int} (Z : ZC st r w (C 0)) (hi : st < i) (hi' : i < r) (hr : st < r) : ZC st r w (addM C i st 0) := fun a ha c hc hne h => by
  rw [addM0]
  split
  · rename_i q; subst q
    have : c < a := by first | assumption | exact Nat.le_of_lt (by assumption) | exact Nat.lt_of_lt_of_le (by assumption) (by assumption) | exact Nat.lt_of_le_of_lt (by assumption) (by assumption) | exact Nat.le_trans (by assumption) (by decide) | exact Nat.lt_of_le_of_lt (by assumption) (by decide) | exact Nat.lt_of_lt_of_le (by assumption) (Nat.le_trans (by assumption) (by decide)) | exact Nat.ne_of_gt (by assumption) | exact Nat.ne_of_lt (by assumption) | exact i3a (by assumption) | exact i3b | omega
    rw [Z a hr c hc hne h, Z i hi' c hc (by first | assumption | exact Nat.le_of_lt (by assumption) | exact Nat.lt_of_lt_of_le (by assumption) (by assumption) | exact Nat.lt_of_le_of_lt (by assumption) (by assumption) | exact Nat.le_trans (by assumption) (by decide) | exact Nat.lt_of_le_of_lt (by assumption) (by decide) | exact Nat.lt_of_lt_of_le (by assumption) (Nat.le_trans (by assumption) (by decide)) | exact Nat.ne_of_gt (by assumption) | exact Nat.ne_of_lt (by assumption) | exact i3a (by assumption) | exact i3b | omega) (.inr this)]; rfl
  · exact Z a ha c hc hne h
theorem ZC.neg {st k r w : Nat} {C : Nat → Nat → Nat → Int} (Z : ZC k r w (C 0)) (hr : st < r) : ZC k r w (negM C st 0) := fun a ha c hc hne h => by
  rw [negM0]
  split
  · rename_i q; subst q; rw [Z a hr c hc hne h]; rfl
  · exact Z a ha c hc hne h

/-! remainders -/
theorem rem_lt (a : Int) {p : Int} (hp : p ≠ 0) : (a - a.fdiv p * p).natAbs < p.natAbs := by
  have h := Int.mul_fdiv_add_fmod a p
  have e : a - a.fdiv p * p = a.fmod p := by rw [Int.mul_comm]; omega
  rw [e]
  rcases Int.lt_or_gt_of_ne hp with h1 | h1
  · have h2 : p < a.fmod p := by
      have := (Int.fdiv_fmod_unique' (a := a) (r := a.fmod p) (q := a.fdiv p) h1).mp ⟨rfl, rfl⟩
      exact this.2.1
    have h3 : a.fmod p ≤ 0 := by
      have := (Int.fdiv_fmod_unique' (a := a) (r := a.fmod p) (q := a.fdiv p) h1).mp ⟨rfl, rfl⟩
      exact this.2.2
    omega
  · have h2 := Int.fmod_nonneg_of_pos a h1
    have h3 := Int.fmod_lt_of_pos a h1
    omega
theorem quo_le (a : Int) {p : Int} (hp : p ≠ 0) : (a.fdiv p).natAbs * p.natAbs ≤ a.natAbs + (p.natAbs - 1) := by
  have h := rem_lt a hp
  have e : a.fdiv p * p = a - (a - a.fdiv p * p) := (Int.sub_sub_self a _).symm
  rw [← Int.natAbs_mul, e]
  exact Nat.le_trans (Int.natAbs_sub_le _ _) (Nat.add_le_add_left (Nat.le_sub_one_of_lt h) _)
theorem fmod_dvd {a p : Int} (h : p ∣ a) : a.fmod p = 0 := (Int.dvd_iff_fmod_eq_zero).mp h

/-! determinants -/
noncomputable def det3 (S : Nat → Nat → Int) : Int := S 0 0 * (S 1 1 * S 2 2 - S 1 2 * S 2 1) - S 0 1 * (S 1 0 * S 2 2 - S 1 2 * S 2 0) + S 0 2 * (S 1 0 * S 2 1 - S 1 1 * S 2 0)
noncomputable def det2 (S : Nat → Nat → Int) : Int := S 1 1 * S 2 2 - S 1 2 * S 2 1
theorem det3_rowswap (S : Nat → Nat → Int) (i : Nat) (hi : i < 3) : (det3 fun a c => S (swp i 0 a) c).natAbs = (det3 S).natAbs := by
  rcases (show i = 0 ∨ i = 1 ∨ i = 2 by first | assumption | exact Nat.le_of_lt (by assumption) | exact Nat.lt_of_lt_of_le (by assumption) (by assumption) | exact Nat.lt_of_le_of_lt (by assumption) (by assumption) | exact Nat.le_trans (by assumption) (by decide) | exact Nat.lt_of_le_of_lt (by assumption) (by decide) | exact Nat.lt_of_lt_of_le (by assumption) (Nat.le_trans (by assumption) (by decide)) | exact Nat.ne_of_gt (by assumption) | exact Nat.ne_of_lt (by assumption) | exact i3a (by assumption) | exact i3b | omega) with rfl | rfl | rfl
  · congr 1
  · have : (det3 fun a c => S (swp 1 0 a) c) = - det3 S := by simp [det3, swp]; grind
    rw [this, Int.natAbs_neg]
  · have : (det3 fun a c => S (swp 2 0 a) c) = - det3 S := by simp [det3, swp]; grind
    rw [this, Int.natAbs_neg]
theorem det3_colswap (S : Nat → Nat → Int) (j : Nat) (hj : j < 3) : (det3 fun a c => S a (swp j 0 c)).natAbs = (det3 S).natAbs := by
  rcases (show j = 0 ∨ j = 1 ∨ j = 2 by first | assumption | exact Nat.le_of_lt (by assumption) | exact Nat.lt_of_lt_of_le (by assumption) (by assumption) | exact Nat.lt_of_le_of_lt (by assumption) (by assumption) | exact Nat.le_trans (by assumption) (by decide) | exact Nat.lt_of_le_of_lt (by assumption) (by decide) | exact Nat.lt_of_lt_of_le (by assumption) (Nat.le_trans (by assumption) (by decide)) | exact Nat.ne_of_gt (by assumption) | exact Nat.ne_of_lt (by assumption) | exact i3a (by assumption) | exact i3b | omega) with rfl | rfl | rfl
  · congr 1
  · have : (det3 fun a c => S a (swp 1 0 c)) = - det3 S := by simp [det3, swp]; grind
    rw [this, Int.natAbs_neg]
  · have : (det3 fun a c => S a (swp 2 0 c)) = - det3 S := by simp [det3, swp]; grind
    rw [this, Int.natAbs_neg]
theorem det3_bring (M : Nat → Nat → Nat → Int) (i j : Nat) (hi : i < 3) (hj : j < 3) : (det3 (bringM M i j 0 0)).natAbs = (det3 (M 0)).natAbs := by
  rw [bringM0]
  exact (det3_colswap (fun a c => M 0 (swp i 0 a) c) j hj).trans (det3_rowswap (M 0) i hi)
theorem det3_rows (M : Nat → Nat → Nat → Int) (p : Int) : det3 (rowPh M 0 p 2 0) = det3 (M 0) := by simp [det3, rowPh]; grind
theorem det3_cols (M : Nat → Nat → Nat → Int) (p : Int) : det3 (colPh M 0 p 2 0) = det3 (M 0) := by simp [det3, colPh]; grind
theorem det3_clear (M : Nat → Nat → Nat → Int) : det3 (clearM M 0 3 3 0) = det3 (M 0) := by
  unfold clearM; exact (det3_cols _ _).trans (det3_rows _ _)
theorem det3_add (M : Nat → Nat → Nat → Int) (i : Nat) (h0 : 0 < i) (hi : i < 3) : det3 (addM M i 0 0) = det3 (M 0) := by
  rcases (show i = 1 ∨ i = 2 by first | assumption | exact Nat.le_of_lt (by assumption) | exact Nat.lt_of_lt_of_le (by assumption) (by assumption) | exact Nat.lt_of_le_of_lt (by assumption) (by assumption) | exact Nat.le_trans (by assumption) (by decide) | exact Nat.lt_of_le_of_lt (by assumption) (by decide) | exact Nat.lt_of_lt_of_le (by assumption) (Nat.le_trans (by assumption) (by decide)) | exact Nat.ne_of_gt (by assumption) | exact Nat.ne_of_lt (by assumption) | exact i3a (by assumption) | exact i3b | omega) with rfl | rfl <;> (simp only [det3, addM0]; simp; grind)
theorem det3_neg (M : Nat → Nat → Nat → Int) : (det3 (negM M 0 0)).natAbs = (det3 (M 0)).natAbs := by
  have : det3 (negM M 0 0) = - det3 (M 0) := by simp only [det3, negM0]; simp; grind
  rw [this, Int.natAbs_neg]
theorem det2_bring (M : Nat → Nat → Nat → Int) (i j : Nat) (hi : 1 ≤ i) (hi' : i < 3) (hj : 1 ≤ j) (hj' : j < 3) : (det2 (bringM M i j 1 0)).natAbs = (det2 (M 0)).natAbs := by
  rw [bringM0]
  rcases (show i = 1 ∨ i = 2 by first | assumption | exact Nat.le_of_lt (by assumption) | exact Nat.lt_of_lt_of_le (by assumption) (by assumption) | exact Nat.lt_of_le_of_lt (by assumption) (by assumption) | exact Nat.le_trans (by assumption) (by decide) | exact Nat.lt_of_le_of_lt (by assumption) (by decide) | exact Nat.lt_of_lt_of_le (by assumption) (Nat.le_trans (by assumption) (by decide)) | exact Nat.ne_of_gt (by assumption) | exact Nat.ne_of_lt (by assumption) | exact i3a (by assumption) | exact i3b | omega) with rfl | rfl <;> rcases (show j = 1 ∨ j = 2 by first | assumption | exact Nat.le_of_lt (by assumption) | exact Nat.lt_of_lt_of_le (by assumption) (by assumption) | exact Nat.lt_of_le_of_lt (by assumption) (by assumption) | exact Nat.le_trans (by assumption) (by decide) | exact Nat.lt_of_le_of_lt (by assumption) (by decide) | exact Nat.lt_of_lt_of_le (by assumption) (Nat.le_trans (by assumption) (by decide)) | exact Nat.ne_of_gt (by assumption) | exact Nat.ne_of_lt (by assumption) | exact i3a (by assumption) | exact i3b | omega) with rfl | rfl
  · congr 1
  · have : det2 (fun a c => M 0 (swp 1 1 a) (swp 2 1 c)) = - det2 (M 0) := by simp [det2, swp]; grind
    rw [this, Int.natAbs_neg]
  · have : det2 (fun a c => M 0 (swp 2 1 a) (swp 1 1 c)) = - det2 (M 0) := by simp [det2, swp]; grind
    rw [this, Int.natAbs_neg]
  · have : det2 (fun a c => M 0 (swp 2 1 a) (swp 2 1 c)) = det2 (M 0) := by simp [det2, swp]; grind
    rw [this]
theorem det2_clear (M : Nat → Nat → Nat → Int) : det2 (clearM M 1 3 3 0) = det2 (M 0) := by
  unfold clearM
  have h1 : ∀ (N : Nat → Nat → Nat → Int) p, det2 (colPh N 1 p 1 0) = det2 (N 0) := fun N p => by simp [det2, colPh]; grind
  have h2 : ∀ (N : Nat → Nat → Nat → Int) p, det2 (rowPh N 1 p 1 0) = det2 (N 0) := fun N p => by simp [det2, rowPh]; grind
  exact (h1 _ _).trans (h2 _ _)
theorem det2_add (M : Nat → Nat → Nat → Int) : det2 (addM M 2 1 0) = det2 (M 0) := by simp only [det2, addM0]; simp; grind
end Mine

end PartML42

section PartML43
open PySem
set_option linter.unusedVariables false
set_option linter.unusedSimpArgs false
set_option maxRecDepth 100000
namespace Mine

structure Least (S : Nat → Nat → Int) (st r w L : Nat) : Prop where
  low : ∀ i j, st ≤ i → i < r → st ≤ j → j < w → S i j ≠ 0 → L ≤ (S i j).natAbs
  hit : (∃ i j, st ≤ i ∧ i < r ∧ st ≤ j ∧ j < w ∧ S i j ≠ 0 ∧ (S i j).natAbs = L) ∨ (L = 0 ∧ ∀ i j, st ≤ i → i < r → st ≤ j → j < w → S i j = 0)
theorem least_below (p : Nat → Prop) : ∀ n, p n → ∃ L, p L ∧ ∀ m, p m → L ≤ m := by
  intro n
  induction n using Nat.strongRecOn with
  | ind n ih =>
    intro h
    by_cases hs : ∃ m, m < n ∧ p m
    · obtain ⟨m, hm, hp⟩ := hs; exact ih m hm hp
    · exact ⟨n, h, fun m hm => by
        apply Classical.byContradiction; intro hlt
        exact hs ⟨m, by first | assumption | exact Nat.le_of_lt (by assumption) | exact Nat.lt_of_lt_of_le (by assumption) (by assumption) | exact Nat.lt_of_le_of_lt (by assumption) (by assumption) | exact Nat.le_trans (by assumption) (by decide) | exact Nat.lt_of_le_of_lt (by assumption) (by decide) | exact Nat.lt_of_lt_of_le (by assumption) (Nat.le_trans (by assumption) (by decide)) | exact Nat.ne_of_gt (by assumption) | exact Nat.ne_of_lt (by assumption) | exact i3a (by assumption) | exact i3b | omega, hm⟩⟩
theorem exists_least (S : Nat → Nat → Int) (st r w : Nat) : ∃ L, Least S st r w L := by
  by_cases h : ∃ i j, st ≤ i ∧ i < r ∧ st ≤ j ∧ j < w ∧ S i j ≠ 0
  · obtain ⟨i, j, a, b, c, d, e⟩ := h
    obtain ⟨L, h1, h2⟩ := least_below (fun n => ∃ i j, st ≤ i ∧ i < r ∧ st ≤ j ∧ j < w ∧ S i j ≠ 0 ∧ (S i j).natAbs = n) _ ⟨i, j, a, b, c, d, e, rfl⟩
    exact ⟨L, fun i j a b c d e => h2 _ ⟨i, j, a, b, c, d, e, rfl⟩, .inl h1⟩
  · exact ⟨0, fun i j a b c d e => absurd ⟨i, j, a, b, c, d, e⟩ h, .inr ⟨rfl, fun i j a b c d => Classical.byContradiction fun e => h ⟨i, j, a, b, c, d, e⟩⟩⟩
theorem Least.pos {S : Nat → Nat → Int} {st r w L i j : Nat} (H : Least S st r w L) (a : st ≤ i) (b : i < r) (c : st ≤ j) (d : j < w) (e : S i j ≠ 0) : 0 < L ∧ L ≤ (S i j).natAbs := by
  refine ⟨?_, H.low i j a b c d e⟩
  rcases H.hit with ⟨i', j', _, _, _, _, h1, h2⟩ | ⟨_, h⟩
  · omega
  · exact absurd (h i j a b c d) e
theorem Least.eq {S : Nat → Nat → Int} {st r w L i j : Nat} (H : Least S st r w L) (a : st ≤ i) (b : i < r) (c : st ≤ j) (d : j < w) (e : S i j ≠ 0) (hmin : ∀ i' j', st ≤ i' → i' < r → st ≤ j' → j' < w → S i' j' ≠ 0 → (S i j).natAbs ≤ (S i' j').natAbs) : (S i j).natAbs = L := by
  have h1 := H.low i j a b c d e
  rcases H.hit with ⟨i', j', a', b', c', d', h1', h2⟩ | ⟨_, h⟩
  · have := hmin i' j' a' b' c' d' h1'; omega
  · exact absurd (h i j a b c d) e

noncomputable def AllLe (S : Nat → Nat → Int) (r w C : Nat) : Prop := ∀ i < r, ∀ j < w, (S i j).natAbs ≤ C
theorem AllLe.mono {S : Nat → Nat → Int} {r w C D : Nat} (h : AllLe S r w C) (l : C ≤ D) : AllLe S r w D := fun i hi j hj => Nat.le_trans (h i hi j hj) l
theorem AllLe.bring {M : Nat → Nat → Nat → Int} {r w C i j st : Nat} (h : AllLe (M 0) r w C) (hi : i < r) (hj : j < w) (hr : st < r) (hw : st < w) : AllLe (bringM M i j st 0) r w C := fun a ha c hc => by
  rw [bringM0]; exact h _ (swp_lt hi hr ha) _ (swp_lt hj hw hc)
theorem AllLe.clear {B : Nat → Nat → Nat → Int} {st r w K : Nat} (Z : ZC st r w (B 0)) (h : AllLe (B 0) r w K) (hr : st < r) (hw : st < w) (hp : B 0 st st ≠ 0) (hin : ∀ i j, st < i → i < r → st < j → j < w → (clearM B st r w 0 i j).natAbs ≤ K) : AllLe (clearM B st r w 0) r w K := fun i hi j hj => by
  have hk := h st hr st hw
  rcases Nat.lt_trichotomy i st with h1 | h1 | h1
  · rw [clr_up h1 (Z i hi st hw (by first | assumption | exact Nat.le_of_lt (by assumption) | exact Nat.lt_of_lt_of_le (by assumption) (by assumption) | exact Nat.lt_of_le_of_lt (by assumption) (by assumption) | exact Nat.le_trans (by assumption) (by decide) | exact Nat.lt_of_le_of_lt (by assumption) (by decide) | exact Nat.lt_of_lt_of_le (by assumption) (Nat.le_trans (by assumption) (by decide)) | exact Nat.ne_of_gt (by assumption) | exact Nat.ne_of_lt (by assumption) | exact i3a (by assumption) | exact i3b | omega) (.inl h1))]; exact h i hi j hj
  · subst h1
    rcases Nat.lt_trichotomy j i with h2 | h2 | h2
    · rw [clr_left h2 (Z i hi j hj (by first | assumption | exact Nat.le_of_lt (by assumption) | exact Nat.lt_of_lt_of_le (by assumption) (by assumption) | exact Nat.lt_of_le_of_lt (by assumption) (by assumption) | exact Nat.le_trans (by assumption) (by decide) | exact Nat.lt_of_le_of_lt (by assumption) (by decide) | exact Nat.lt_of_lt_of_le (by assumption) (Nat.le_trans (by assumption) (by decide)) | exact Nat.ne_of_gt (by assumption) | exact Nat.ne_of_lt (by assumption) | exact i3a (by assumption) | exact i3b | omega) (.inr h2))]; exact h i hi j hj
    · subst h2; rw [clear_st]; exact hk
    · rw [clr_row h2 hj]; have := rem_lt (B 0 i j) hp; omega
  · rcases Nat.lt_trichotomy j st with h2 | h2 | h2
    · rw [clr_left h2 (Z st hr j hj (by first | assumption | exact Nat.le_of_lt (by assumption) | exact Nat.lt_of_lt_of_le (by assumption) (by assumption) | exact Nat.lt_of_le_of_lt (by assumption) (by assumption) | exact Nat.le_trans (by assumption) (by decide) | exact Nat.lt_of_le_of_lt (by assumption) (by decide) | exact Nat.lt_of_lt_of_le (by assumption) (Nat.le_trans (by assumption) (by decide)) | exact Nat.ne_of_gt (by assumption) | exact Nat.ne_of_lt (by assumption) | exact i3a (by assumption) | exact i3b | omega) (.inr h2))]; exact h i hi j hj
    · subst h2; rw [clr_col h1 hi]; have := rem_lt (B 0 i j) hp; omega
    · exact hin i j h1 hi h2 hj
theorem AllLe.add {C : Nat → Nat → Nat → Int} {st r w K i : Nat} (h : AllLe (C 0) r w K) (hi : i < r) (h0 : ∀ j, st < j → j < w → C 0 st j = 0) (h1 : ∀ j, j ≤ st → j < w → C 0 i j = 0) : AllLe (addM C i st 0) r w K := fun a ha c hc => by
  rw [addM0]
  split
  · rename_i q; subst q
    rcases Nat.lt_or_ge a c with h2 | h2
    · rw [h0 c h2 hc, Int.zero_add]; exact h i hi c hc
    · rw [h1 c h2 hc, Int.add_zero]; exact h a ha c hc
  · exact h a ha c hc
theorem AllLe.neg {C : Nat → Nat → Nat → Int} {st r w K : Nat} (h : AllLe (C 0) r w K) (hr : st < r) : AllLe (negM C st 0) r w K := fun a ha c hc => by
  rw [negM0]
  split
  · rw [Int.natAbs_neg]; exact h st hr c hc
  · exact h a ha c hc

/-! the bounds of the first stage -/
noncomputable def FF : Nat := 64360184 + 64360184 * 64360184
noncomputable def Gf (L : Nat) : Nat := if L = 9 then 9 else if L = 6 then 26 else if L = 4 then 9 else if L = 3 then 181 else if L = 2 then 11344 else 64360184
noncomputable def Pf (L : Nat) : Nat := if L = 9 then 26 else if L = 6 then 181 else if L = 4 then 45 else if L = 3 then 11344 else if L = 2 then 64360184 else FF
noncomputable def Lok (L : Nat) : Prop := L = 1 ∨ L = 2 ∨ L = 3 ∨ L = 4 ∨ L = 6 ∨ L = 9
theorem Gf_le_Pf {L : Nat} (h : Lok L) : Gf L ≤ Pf L := by rcases h with rfl | rfl | rfl | rfl | rfl | rfl <;> decide
theorem Pf_le_FF {L : Nat} (h : Lok L) : Pf L ≤ FF := by rcases h with rfl | rfl | rfl | rfl | rfl | rfl <;> decide
theorem L_le_Pf {L : Nat} (h : Lok L) : L ≤ Pf L := by rcases h with rfl | rfl | rfl | rfl | rfl | rfl <;> decide
theorem Pf_le_Gf {L L' : Nat} (h : Lok L) (h' : Lok L') (hlt : L' < L) (h4 : L' ≤ 4 → L' ≠ 4) (h6 : L' = 6 → L = 9) : Pf L ≤ Gf L' := by
  rcases h with rfl | rfl | rfl | rfl | rfl | rfl <;> rcases h' with rfl | rfl | rfl | rfl | rfl | rfl <;> first | decide | omega
theorem inner_le {x y z u v : Int} {C Q e : Nat} (hx : x.natAbs ≤ C) (hq : u.natAbs ≤ Q) (hy : y.natAbs ≤ C) (hv : v.natAbs ≤ Q) (hz : z.natAbs ≤ e) : ((x - u * y) - v * z).natAbs ≤ C + Q * C + Q * e := by
  have h1 : (u * y).natAbs ≤ Q * C := by rw [Int.natAbs_mul]; exact Nat.mul_le_mul hq hy
  have h2 : (v * z).natAbs ≤ Q * e := by rw [Int.natAbs_mul]; exact Nat.mul_le_mul hv hz
  exact Nat.le_trans (Int.natAbs_sub_le _ _) (Nat.add_le_add (Nat.le_trans (Int.natAbs_sub_le _ _) (Nat.add_le_add hx h1)) h2)
theorem quo_bound {a p : Int} {L C Q : Nat} (hp : p.natAbs = L) (hL : 0 < L) (ha : a.natAbs ≤ C) (hQ : C + (L - 1) < (Q + 1) * L) : (a.fdiv p).natAbs ≤ Q := by
  have h := quo_le a (p := p) (by first | assumption | exact Nat.le_of_lt (by assumption) | exact Nat.lt_of_lt_of_le (by assumption) (by assumption) | exact Nat.lt_of_le_of_lt (by assumption) (by assumption) | exact Nat.le_trans (by assumption) (by decide) | exact Nat.lt_of_le_of_lt (by assumption) (by decide) | exact Nat.lt_of_lt_of_le (by assumption) (Nat.le_trans (by assumption) (by decide)) | exact Nat.ne_of_gt (by assumption) | exact Nat.ne_of_lt (by assumption) | exact i3a (by assumption) | exact i3b | omega)
  rw [hp] at h
  have : (a.fdiv p).natAbs * L < (Q + 1) * L := by first | assumption | exact Nat.le_of_lt (by assumption) | exact Nat.lt_of_lt_of_le (by assumption) (by assumption) | exact Nat.lt_of_le_of_lt (by assumption) (by assumption) | exact Nat.le_trans (by assumption) (by decide) | exact Nat.lt_of_le_of_lt (by assumption) (by decide) | exact Nat.lt_of_lt_of_le (by assumption) (Nat.le_trans (by assumption) (by decide)) | exact Nat.ne_of_gt (by assumption) | exact Nat.ne_of_lt (by assumption) | exact i3a (by assumption) | exact i3b | omega
  have := Nat.lt_of_mul_lt_mul_right this
  omega
theorem grow0 {B : Nat → Nat → Nat → Int} {r w L : Nat} (hL : Lok L) (hp : (B 0 0 0).natAbs = L) (h : AllLe (B 0) r w (Gf L)) (hr : 0 < r) (hw : 0 < w) : AllLe (clearM B 0 r w 0) r w (Pf L) := by
  have hL0 : 0 < L := by rcases hL with rfl | rfl | rfl | rfl | rfl | rfl <;> decide
  have hp0 : B 0 0 0 ≠ 0 := by first | assumption | exact Nat.le_of_lt (by assumption) | exact Nat.lt_of_lt_of_le (by assumption) (by assumption) | exact Nat.lt_of_le_of_lt (by assumption) (by assumption) | exact Nat.le_trans (by assumption) (by decide) | exact Nat.lt_of_le_of_lt (by assumption) (by decide) | exact Nat.lt_of_lt_of_le (by assumption) (Nat.le_trans (by assumption) (by decide)) | exact Nat.ne_of_gt (by assumption) | exact Nat.ne_of_lt (by assumption) | exact i3a (by assumption) | exact i3b | omega
  refine AllLe.clear (fun i hi j hj _ q => by first | assumption | exact Nat.le_of_lt (by assumption) | exact Nat.lt_of_lt_of_le (by assumption) (by assumption) | exact Nat.lt_of_le_of_lt (by assumption) (by assumption) | exact Nat.le_trans (by assumption) (by decide) | exact Nat.lt_of_le_of_lt (by assumption) (by decide) | exact Nat.lt_of_lt_of_le (by assumption) (Nat.le_trans (by assumption) (by decide)) | exact Nat.ne_of_gt (by assumption) | exact Nat.ne_of_lt (by assumption) | exact i3a (by assumption) | exact i3b | omega) (h.mono (Gf_le_Pf hL)) hr hw hp0 fun i j h1 h2 h3 h4 => ?_
  rw [clr_in h1 h2 h3 h4]
  have a1 := h i h2 j h4
  have a2 := h i h2 0 hw
  have a3 := h 0 hr j h4
  have a4 := rem_lt (B 0 i 0) hp0
  rw [hp] at a4
  have go : ∀ Q, Gf L + (L - 1) < (Q + 1) * L → Gf L + Q * Gf L + Q * (L - 1) ≤ Pf L → ((B 0 i j - (B 0 i 0).fdiv (B 0 0 0) * B 0 0 j) - (B 0 0 j).fdiv (B 0 0 0) * (B 0 i 0 - (B 0 i 0).fdiv (B 0 0 0) * B 0 0 0)).natAbs ≤ Pf L := fun Q hQ hle =>
    Nat.le_trans (inner_le a1 (quo_bound hp hL0 a2 hQ) a3 (quo_bound hp hL0 a3 hQ) (show _ ≤ L - 1 by first | assumption | exact Nat.le_of_lt (by assumption) | exact Nat.lt_of_lt_of_le (by assumption) (by assumption) | exact Nat.lt_of_le_of_lt (by assumption) (by assumption) | exact Nat.le_trans (by assumption) (by decide) | exact Nat.lt_of_le_of_lt (by assumption) (by decide) | exact Nat.lt_of_lt_of_le (by assumption) (Nat.le_trans (by assumption) (by decide)) | exact Nat.ne_of_gt (by assumption) | exact Nat.ne_of_lt (by assumption) | exact i3a (by assumption) | exact i3b | omega)) hle
  rcases hL with rfl | rfl | rfl | rfl | rfl | rfl
  · exact go 64360184 (by decide) (by decide)
  · exact go 5672 (by decide) (by decide)
  · exact go 61 (by decide) (by decide)
  · exact go 3 (by decide) (by decide)
  · exact go 5 (by decide) (by decide)
  · exact go 1 (by decide) (by decide)
/-- a flagged state does not grow -/
theorem growF {B : Nat → Nat → Nat → Int} {st r w K : Nat} (Z : ZC st r w (B 0)) (hp : B 0 st st ≠ 0) (h : AllLe (B 0) r w K) (hr : st < r) (hw : st < w) (hc : ∀ i, st < i → i < r → B 0 i st = 0) : AllLe (clearM B st r w 0) r w K := by
  refine AllLe.clear Z h hr hw hp fun i j h1 h2 h3 h4 => ?_
  rw [clr_in h1 h2 h3 h4, hc i h1 h2]
  simp
  exact h i h2 j h4
/-- the block of two by two -/
theorem growD {B : Nat → Nat → Nat → Int} {D F : Nat} (Z : ZC 1 3 3 (B 0)) (hp : B 0 1 1 ≠ 0) (hF : (B 0 1 1).natAbs ≤ F) (h : AllLe (B 0) 3 3 (F + D)) (hd : (det2 (B 0)).natAbs ≤ D) : AllLe (clearM B 1 3 3 0) 3 3 (F + D) := by
  refine AllLe.clear Z h (by decide) (by decide) hp fun i j h1 h2 h3 h4 => ?_
  have ei : i = 2 := by first | assumption | exact Nat.le_of_lt (by assumption) | exact Nat.lt_of_lt_of_le (by assumption) (by assumption) | exact Nat.lt_of_le_of_lt (by assumption) (by assumption) | exact Nat.le_trans (by assumption) (by decide) | exact Nat.lt_of_le_of_lt (by assumption) (by decide) | exact Nat.lt_of_lt_of_le (by assumption) (Nat.le_trans (by assumption) (by decide)) | exact Nat.ne_of_gt (by assumption) | exact Nat.ne_of_lt (by assumption) | exact i3a (by assumption) | exact i3b | omega
  have ej : j = 2 := by first | assumption | exact Nat.le_of_lt (by assumption) | exact Nat.lt_of_lt_of_le (by assumption) (by assumption) | exact Nat.lt_of_le_of_lt (by assumption) (by assumption) | exact Nat.le_trans (by assumption) (by decide) | exact Nat.lt_of_le_of_lt (by assumption) (by decide) | exact Nat.lt_of_lt_of_le (by assumption) (Nat.le_trans (by assumption) (by decide)) | exact Nat.ne_of_gt (by assumption) | exact Nat.ne_of_lt (by assumption) | exact i3a (by assumption) | exact i3b | omega
  subst ei; subst ej
  have e := det2_clear B
  have hx : (clearM B 1 3 3 0 2 1).natAbs < (B 0 1 1).natAbs := by rw [clr_col (by decide) (by decide)]; exact rem_lt _ hp
  have hy : (clearM B 1 3 3 0 1 2).natAbs < (B 0 1 1).natAbs := by rw [clr_row (by decide) (by decide)]; exact rem_lt _ hp
  have hpp : clearM B 1 3 3 0 1 1 = B 0 1 1 := clear_st _ _ _ _
  unfold det2 at e hd
  rw [hpp] at e
  rw [← e] at hd
  generalize clearM B 1 3 3 0 2 1 = x at *
  generalize clearM B 1 3 3 0 1 2 = y at *
  generalize clearM B 1 3 3 0 2 2 = z at *
  generalize B 0 1 1 = p at *
  have h5 : (p * z).natAbs ≤ D + y.natAbs * x.natAbs := by
    have : p * z = (p * z - y * x) + y * x := by first | assumption | exact Nat.le_of_lt (by assumption) | exact Nat.lt_of_lt_of_le (by assumption) (by assumption) | exact Nat.lt_of_le_of_lt (by assumption) (by assumption) | exact Nat.le_trans (by assumption) (by decide) | exact Nat.lt_of_le_of_lt (by assumption) (by decide) | exact Nat.lt_of_lt_of_le (by assumption) (Nat.le_trans (by assumption) (by decide)) | exact Nat.ne_of_gt (by assumption) | exact Nat.ne_of_lt (by assumption) | exact i3a (by assumption) | exact i3b | omega
    rw [this, ← Int.natAbs_mul]
    exact Nat.le_trans (Int.natAbs_add_le _ _) (Nat.add_le_add_right hd _)
  rw [Int.natAbs_mul] at h5
  have h6 : y.natAbs * x.natAbs ≤ p.natAbs * F := Nat.mul_le_mul (by first | assumption | exact Nat.le_of_lt (by assumption) | exact Nat.lt_of_lt_of_le (by assumption) (by assumption) | exact Nat.lt_of_le_of_lt (by assumption) (by assumption) | exact Nat.le_trans (by assumption) (by decide) | exact Nat.lt_of_le_of_lt (by assumption) (by decide) | exact Nat.lt_of_lt_of_le (by assumption) (Nat.le_trans (by assumption) (by decide)) | exact Nat.ne_of_gt (by assumption) | exact Nat.ne_of_lt (by assumption) | exact i3a (by assumption) | exact i3b | omega) (by first | assumption | exact Nat.le_of_lt (by assumption) | exact Nat.lt_of_lt_of_le (by assumption) (by assumption) | exact Nat.lt_of_le_of_lt (by assumption) (by assumption) | exact Nat.le_trans (by assumption) (by decide) | exact Nat.lt_of_le_of_lt (by assumption) (by decide) | exact Nat.lt_of_lt_of_le (by assumption) (Nat.le_trans (by assumption) (by decide)) | exact Nat.ne_of_gt (by assumption) | exact Nat.ne_of_lt (by assumption) | exact i3a (by assumption) | exact i3b | omega)
  have h7 : p.natAbs * z.natAbs ≤ p.natAbs * (D + F) := by
    rw [Nat.mul_add]
    have : D ≤ p.natAbs * D := Nat.le_mul_of_pos_left _ (by first | assumption | exact Nat.le_of_lt (by assumption) | exact Nat.lt_of_lt_of_le (by assumption) (by assumption) | exact Nat.lt_of_le_of_lt (by assumption) (by assumption) | exact Nat.le_trans (by assumption) (by decide) | exact Nat.lt_of_le_of_lt (by assumption) (by decide) | exact Nat.lt_of_lt_of_le (by assumption) (Nat.le_trans (by assumption) (by decide)) | exact Nat.ne_of_gt (by assumption) | exact Nat.ne_of_lt (by assumption) | exact i3a (by assumption) | exact i3b | omega)
    omega
  have := Nat.le_of_mul_le_mul_left h7 (by first | assumption | exact Nat.le_of_lt (by assumption) | exact Nat.lt_of_lt_of_le (by assumption) (by assumption) | exact Nat.lt_of_le_of_lt (by assumption) (by assumption) | exact Nat.le_trans (by assumption) (by decide) | exact Nat.lt_of_le_of_lt (by assumption) (by decide) | exact Nat.lt_of_lt_of_le (by assumption) (Nat.le_trans (by assumption) (by decide)) | exact Nat.ne_of_gt (by assumption) | exact Nat.ne_of_lt (by assumption) | exact i3a (by assumption) | exact i3b | omega)
  omega
end Mine

end PartML43

section PartML44
open PySem
set_option linter.unusedVariables false
set_option linter.unusedSimpArgs false
set_option maxRecDepth 100000
namespace Mine

noncomputable def BIG : Nat := 2 ^ 70
structure Flag (S : Nat → Nat → Int) (st r w L : Nat) : Prop where
  abs : (S st st).natAbs = L
  pos : 0 < L
  col : ∀ i, st < i → i < r → S i st = 0
  nd : ∃ j, st < j ∧ j < w ∧ ¬ (S st st ∣ S st j)
structure Bd0 (S : Nat → Nat → Int) (r w L : Nat) (fl : Bool) : Prop where
  le : AllLe S r w (if fl then Pf L else Gf L)
  ok : L = 0 ∨ Lok L
  three : 4 < L → ∀ i < r, ∀ j < w, (3 : Int) ∣ S i j
  det : r = 3 → w = 3 → (det3 S).natAbs ≤ 4374
structure Bd1 (S : Nat → Nat → Int) (st r w L : Nat) : Prop where
  le : AllLe S r w (FF + 4374)
  det : st = 1 → r = 3 → w = 3 → (det2 S).natAbs ≤ 4374 ∧ L ≤ FF
noncomputable def Inv (A : Nat → Nat → Int) (r w : Nat) (n st : Nat) (M : Nat → Nat → Nat → Int) : Prop :=
  KI A r w M ∧ ZC st r w (M 0) ∧ ∃ L fl, Least (M 0) st r w L ∧ n = (3 - st) * BIG + 2 * L + (if fl = true then 0 else 1) ∧ (fl = true → Flag (M 0) st r w L) ∧ (st = 0 → Bd0 (M 0) r w L fl) ∧ (1 ≤ st → Bd1 (M 0) st r w L)
noncomputable def Done (A : Nat → Nat → Int) (r w : Nat) (M : Nat → Nat → Nat → Int) : Prop := KI A r w M ∧ ∀ i < r, ∀ j < w, i ≠ j → M 0 i j = 0

theorem dvd_three {L : Nat} {x : Int} (h : (3 : Int) ∣ x) (e : x.natAbs = L) : 3 ∣ L := e ▸ Int.ofNat_dvd_left.mp h
theorem next_dec1 : ∀ L' < 4, 0 < L' → (L' = 1 ∨ L' = 2 ∨ L' = 3 ∨ L' = 4 ∨ L' = 6 ∨ L' = 9) := by decide
theorem next_dec {L L' : Nat} (h : Lok L) (hlt : L' < L) (hpos : 0 < L') (h3 : 4 < L → L' % 3 = 0) : Lok L' ∧ (L' ≤ 4 → L' ≠ 4) ∧ (L' = 6 → L = 9) ∧ (4 < L' → 4 < L) := by
  by_cases q : 4 < L
  · have m := h3 q
    have l9 : L' < 9 := by
      rcases h with rfl | rfl | rfl | rfl | rfl | rfl <;> first | exact hlt | exact Nat.lt_of_lt_of_le hlt (by decide)
    have : L' = 3 ∨ L' = 6 := by clear h h3 hlt q; omega
    rcases this with rfl | rfl
    · exact ⟨.inr (.inr (.inl rfl)), fun _ => by decide, fun e => absurd e (by decide), fun e => absurd e (by decide)⟩
    · refine ⟨.inr (.inr (.inr (.inr (.inl rfl)))), fun _ => by decide, fun _ => ?_, fun _ => q⟩
      rcases h with rfl | rfl | rfl | rfl | rfl | rfl <;> first | rfl | exact absurd hlt (by decide)
  · have l4 : L' < 4 := Nat.lt_of_lt_of_le hlt (Nat.not_lt.mp q)
    exact ⟨next_dec1 L' l4 hpos, fun _ e => by rw [e] at l4; exact absurd l4 (by decide), fun e => by rw [e] at l4; exact absurd l4 (by decide), fun e => absurd (Nat.lt_trans l4 e) (Nat.lt_irrefl _)⟩
theorem next_ok {S : Nat → Nat → Int} {r w L L' : Nat} (hL : Lok L) (hlt : L' < L) (hpos : 0 < L') (h : Least S 0 r w L') (h3 : 4 < L → ∀ i < r, ∀ j < w, (3 : Int) ∣ S i j) : Lok L' ∧ Pf L ≤ Gf L' ∧ (4 < L' → 4 < L) := by
  have h3' : 4 < L → L' % 3 = 0 := fun h4 => by
    rcases h.hit with ⟨i, j, a, b, c, d, e, f⟩ | ⟨q, _⟩
    · exact Nat.mod_eq_zero_of_dvd (dvd_three (h3 h4 i b j d) f)
    · exact absurd q (Nat.ne_of_gt hpos)
  obtain ⟨k1, k2, k3, k4⟩ := next_dec hL hlt hpos h3'
  exact ⟨k1, Pf_le_Gf hL k1 hlt k2 k3, k4⟩

theorem three_clear {B : Nat → Nat → Nat → Int} {r w : Nat} (h : ∀ i < r, ∀ j < w, (3 : Int) ∣ B 0 i j) (hr : 0 < r) (hw : 0 < w) : ∀ i < r, ∀ j < w, (3 : Int) ∣ clearM B 0 r w 0 i j := fun i hi j hj => by
  by_cases h1 : i = 0
  · subst h1
    by_cases h2 : j = 0
    · subst h2; rw [clear_st]; exact h 0 hi 0 hj
    · rw [clr_row (by first | assumption | exact Nat.le_of_lt (by assumption) | exact Nat.lt_of_lt_of_le (by assumption) (by assumption) | exact Nat.lt_of_le_of_lt (by assumption) (by assumption) | exact Nat.le_trans (by assumption) (by decide) | exact Nat.lt_of_le_of_lt (by assumption) (by decide) | exact Nat.lt_of_lt_of_le (by assumption) (Nat.le_trans (by assumption) (by decide)) | exact Nat.ne_of_gt (by assumption) | exact Nat.ne_of_lt (by assumption) | exact i3a (by assumption) | exact i3b | omega) hj]; exact Int.dvd_sub (h 0 hi j hj) (Int.dvd_mul_of_dvd_right (h 0 hi 0 hw))
  · by_cases h2 : j = 0
    · subst h2; rw [clr_col (by first | assumption | exact Nat.le_of_lt (by assumption) | exact Nat.lt_of_lt_of_le (by assumption) (by assumption) | exact Nat.lt_of_le_of_lt (by assumption) (by assumption) | exact Nat.le_trans (by assumption) (by decide) | exact Nat.lt_of_le_of_lt (by assumption) (by decide) | exact Nat.lt_of_lt_of_le (by assumption) (Nat.le_trans (by assumption) (by decide)) | exact Nat.ne_of_gt (by assumption) | exact Nat.ne_of_lt (by assumption) | exact i3a (by assumption) | exact i3b | omega) hi]; exact Int.dvd_sub (h i hi 0 hj) (Int.dvd_mul_of_dvd_right (h 0 hr 0 hj))
    · rw [clr_in (by first | assumption | exact Nat.le_of_lt (by assumption) | exact Nat.lt_of_lt_of_le (by assumption) (by assumption) | exact Nat.lt_of_le_of_lt (by assumption) (by assumption) | exact Nat.le_trans (by assumption) (by decide) | exact Nat.lt_of_le_of_lt (by assumption) (by decide) | exact Nat.lt_of_lt_of_le (by assumption) (Nat.le_trans (by assumption) (by decide)) | exact Nat.ne_of_gt (by assumption) | exact Nat.ne_of_lt (by assumption) | exact i3a (by assumption) | exact i3b | omega) hi (by first | assumption | exact Nat.le_of_lt (by assumption) | exact Nat.lt_of_lt_of_le (by assumption) (by assumption) | exact Nat.lt_of_le_of_lt (by assumption) (by assumption) | exact Nat.le_trans (by assumption) (by decide) | exact Nat.lt_of_le_of_lt (by assumption) (by decide) | exact Nat.lt_of_lt_of_le (by assumption) (Nat.le_trans (by assumption) (by decide)) | exact Nat.ne_of_gt (by assumption) | exact Nat.ne_of_lt (by assumption) | exact i3a (by assumption) | exact i3b | omega) hj]
      exact Int.dvd_sub (Int.dvd_sub (h i hi j hj) (Int.dvd_mul_of_dvd_right (h 0 hr j hj))) (Int.dvd_mul_of_dvd_right (Int.dvd_sub (h i hi 0 hw) (Int.dvd_mul_of_dvd_right (h 0 hr 0 hw))))

section
variable {A : Nat → Nat → Int} {r w n st i j : Nat} {M : Nat → Nat → Nat → Int}

/-- what holds of B and C at a turn -/
structure Turn (A : Nat → Nat → Int) (r w st L : Nat) (fl : Bool) (B C : Nat → Nat → Nat → Int) : Prop where
  ki : KI A r w C
  zb : ZC st r w (B 0)
  abs : (B 0 st st).natAbs = L
  pos : 0 < L
  flag : fl = true → ∃ j, st < j ∧ j < w ∧ ¬ (B 0 st st ∣ B 0 st j)
  zero : st = 0 → Lok L ∧ AllLe (C 0) r w (Pf L) ∧ (4 < L → ∀ i < r, ∀ j < w, (3 : Int) ∣ C 0 i j) ∧ (r = 3 → w = 3 → (det3 (C 0)).natAbs ≤ 4374)
  one : 1 ≤ st → AllLe (C 0) r w (FF + 4374) ∧ (st = 1 → r = 3 → w = 3 → (det2 (C 0)).natAbs ≤ 4374 ∧ L ≤ FF)

theorem bring_same (M : Nat → Nat → Nat → Int) (st : Nat) : bringM M st st st 0 = M 0 := by
  have h : ∀ a, swp st st a = a := fun a => by unfold swp; by_cases h : a = st <;> simp [h]
  rw [bringM0]; funext a c; rw [h, h]

theorem mid33 {st r w a c : Nat} (e : 1 ≤ st) (hr : r ≤ 3) (hw : w = 2 ∨ w = 3) (q1 : st < a) (q2 : a < r) (q3 : st < c) (q4 : c < w) : st = 1 ∧ r = 3 ∧ w = 3 := by
  have h1 : st + 2 ≤ 3 := Nat.le_trans (Nat.succ_le_of_lt (Nat.lt_of_le_of_lt (Nat.succ_le_of_lt q1) q2)) hr
  have h2 : st = 1 := Nat.le_antisymm (Nat.le_of_succ_le_succ (Nat.le_of_succ_le_succ h1)) e
  subst h2
  have h3 : 2 < w := Nat.lt_of_le_of_lt q3 q4
  refine ⟨rfl, Nat.le_antisymm hr (Nat.lt_of_le_of_lt q1 q2), ?_⟩
  rcases hw with rfl | rfl
  · exact absurd h3 (Nat.lt_irrefl _)
  · rfl
theorem turn_of (hr : r ≤ 3) (hw : w = 2 ∨ w = 3) (I : Inv A r w n st M) (hsr : st < r) (hsw : st < w) (h1 : st ≤ i) (h2 : i < r) (h3 : st ≤ j) (h4 : j < w) (hne : M 0 i j ≠ 0)
    (hmin : ∀ i' j', st ≤ i' → i' < r → st ≤ j' → j' < w → M 0 i' j' ≠ 0 → (M 0 i j).natAbs ≤ (M 0 i' j').natAbs) (hfst : (i = st ∧ j = st) ∨ M 0 st st = 0 ∨ (M 0 i j).natAbs < (M 0 st st).natAbs) :
    ∃ L fl, n = (3 - st) * BIG + 2 * L + (if fl = true then 0 else 1) ∧ Turn A r w st L fl (bringM M i j st) (clearM (bringM M i j st) st r w) := by
  obtain ⟨K, Z, L, fl, hL, hn, hfl, b0, b1⟩ := I
  have hLe := hL.eq h1 h2 h3 h4 hne hmin
  have hpos : 0 < L := hLe ▸ Int.natAbs_pos.mpr hne
  have habs : (bringM M i j st 0 st st).natAbs = L := by rw [bring_st]; exact hLe
  have hp0 : bringM M i j st 0 st st ≠ 0 := Int.natAbs_ne_zero.mp (habs ▸ Nat.ne_of_gt hpos)
  have ZB := Z.bring h1 h2 h3 h4 hsr hsw
  have hsame : fl = true → bringM M i j st 0 = M 0 := fun e => by
    have F := hfl e
    have : i = st ∧ j = st := by
      rcases hfst with q | q | q
      · exact q
      · have this := F.abs; rw [q] at this; exact absurd (this : 0 = L) (Nat.ne_of_lt F.pos)
      · rw [F.abs, hLe] at q; exact absurd q (Nat.lt_irrefl _)
    rw [this.1, this.2]
    exact bring_same M st
  refine ⟨L, fl, hn, (K.bring hw h2 hsr h4 h3).clear hw hsr hsw, ZB, habs, hpos, fun e => ?_, fun e => ?_, fun e => ?_⟩
  · rw [hsame e]; exact (hfl e).nd
  · subst e
    have b := b0 rfl
    have ok : Lok L := by
      rcases b.ok with q | q
      · exact absurd q (Nat.ne_of_gt hpos)
      · exact q
    refine ⟨ok, ?_, fun h5 => ?_, fun e1 e2 => ?_⟩
    · cases fl with
      | true =>
        refine growF ZB hp0 ?_ hsr hsw ?_
        · rw [hsame rfl]; exact b.le
        · rw [hsame rfl]; exact (hfl rfl).col
      | false => exact grow0 ok habs (AllLe.bring b.le h2 h4 hsr hsw) hsr hsw
    · refine three_clear (fun a ha c hc => ?_) hsr hsw
      rw [bringM0]; exact b.three h5 _ (swp_lt h2 hsr ha) _ (swp_lt h4 hsw hc)
    · subst e1; subst e2
      rw [det3_clear, det3_bring M i j h2 h4]; exact b.det rfl rfl
  · have b := b1 e
    have hB := AllLe.bring b.le h2 h4 hsr hsw
    by_cases h33 : st = 1 ∧ r = 3 ∧ w = 3
    · obtain ⟨rfl, rfl, rfl⟩ := h33
      obtain ⟨d1, d2⟩ := b.det rfl rfl rfl
      have hd : (det2 (bringM M i j 1 0)).natAbs ≤ 4374 := by rw [det2_bring M i j h1 h2 h3 h4]; exact d1
      refine ⟨growD ZB hp0 (habs ▸ d2) hB hd, fun _ _ _ => ⟨?_, d2⟩⟩
      rw [det2_clear]; exact hd
    · exact ⟨AllLe.clear ZB hB hsr hsw hp0 fun a c q1 q2 q3 q4 => absurd (mid33 e hr hw q1 q2 q3 q4) h33, fun q1 q2 q3 => absurd ⟨q1, q2, q3⟩ h33⟩
end
end Mine

end PartML44

section PartML45
open PySem
set_option linter.unusedVariables false
set_option linter.unusedSimpArgs false
set_option maxRecDepth 100000
namespace Mine

/-- the matrices that the law builds -/
structure Small (A : Nat → Nat → Int) (r w : Nat) : Prop where
  le : ∀ i < r, ∀ j < w, (A i j).natAbs ≤ 9
  no : ∀ i < r, ∀ j < w, (A i j).natAbs ≠ 5 ∧ (A i j).natAbs ≠ 7 ∧ (A i j).natAbs ≠ 8

section
variable {A : Nat → Nat → Int} {r w n st i j : Nat} {M B C : Nat → Nat → Nat → Int} {L : Nat} {fl : Bool}

theorem lok_all : ∀ L < 10, (L = 0 ∨ L = 5 ∨ L = 7 ∨ L = 8) ∨ Lok L := by unfold Lok; decide
theorem six9 : ∀ a < 10, 4 < a → a ≠ 5 → a ≠ 7 → a ≠ 8 → a % 3 = 0 := by decide
theorem mulLe {x y : Int} {a b : Nat} (hx : x.natAbs ≤ a) (hy : y.natAbs ≤ b) : (x * y).natAbs ≤ a * b := by rw [Int.natAbs_mul]; exact Nat.mul_le_mul hx hy
theorem det3_small (S : Nat → Nat → Int) (h : ∀ i < 3, ∀ j < 3, (S i j).natAbs ≤ 9) : (det3 S).natAbs ≤ 4374 := by
  have m2 : ∀ a b c d e f g k, a < 3 → b < 3 → c < 3 → d < 3 → e < 3 → f < 3 → g < 3 → k < 3 → (S a b * S c d - S e f * S g k).natAbs ≤ 162 := fun a b c d e f g k h1 h2 h3 h4 h5 h6 h7 h8 => by
    have q1 := mulLe (h a h1 b h2) (h c h3 d h4)
    have q2 := mulLe (h e h5 f h6) (h g h7 k h8)
    exact Nat.le_trans (Int.natAbs_sub_le _ _) (Nat.add_le_add q1 q2)
  have t1 := mulLe (h 0 (by decide) 0 (by decide)) (m2 1 1 2 2 1 2 2 1 (by decide) (by decide) (by decide) (by decide) (by decide) (by decide) (by decide) (by decide))
  have t2 := mulLe (h 0 (by decide) 1 (by decide)) (m2 1 0 2 2 1 2 2 0 (by decide) (by decide) (by decide) (by decide) (by decide) (by decide) (by decide) (by decide))
  have t3 := mulLe (h 0 (by decide) 2 (by decide)) (m2 1 0 2 1 1 1 2 0 (by decide) (by decide) (by decide) (by decide) (by decide) (by decide) (by decide) (by decide))
  unfold det3; exact Nat.le_trans (Int.natAbs_add_le _ _) (Nat.add_le_add (Nat.le_trans (Int.natAbs_sub_le _ _) (Nat.add_le_add t1 t2)) t3)

/-- from the turn's end to the next head, the step kept, the least less -/
theorem inv_less (T : Turn A r w st L fl B C) {D : Nat → Nat → Nat → Int} (K : KI A r w D) (Z : ZC st r w (D 0)) (hle : ∀ k, AllLe (C 0) r w k → AllLe (D 0) r w k) (h3 : (∀ i < r, ∀ j < w, (3 : Int) ∣ C 0 i j) → ∀ i < r, ∀ j < w, (3 : Int) ∣ D 0 i j)
    (hd3 : st = 0 → r = 3 → w = 3 → (det3 (D 0)).natAbs = (det3 (C 0)).natAbs) (hd2 : st = 1 → r = 3 → w = 3 → (det2 (D 0)).natAbs = (det2 (C 0)).natAbs) {L' : Nat} (hL' : Least (D 0) st r w L') (hlt : L' < L) (hpos : 0 < L') :
    Inv A r w ((3 - st) * BIG + 2 * L' + 1) st D := by
  refine ⟨K, Z, L', false, hL', rfl, fun q => (by cases q), fun e => ?_, fun e => ?_⟩
  · subst e
    obtain ⟨ok, a, b, c⟩ := T.zero rfl
    have hD3 : 4 < L → ∀ i < r, ∀ j < w, (3 : Int) ∣ D 0 i j := fun h4 => h3 (b h4)
    obtain ⟨k1, k2, k3⟩ := next_ok ok hlt hpos hL' hD3
    exact ⟨(hle _ a).mono k2, .inr k1, fun h4 => hD3 (k3 h4), fun e1 e2 => by rw [hd3 rfl e1 e2]; exact c e1 e2⟩
  · obtain ⟨a, b⟩ := T.one e
    exact ⟨hle _ a, fun e0 e1 e2 => ⟨by rw [hd2 e0 e1 e2]; exact (b e0 e1 e2).1, Nat.le_of_lt (Nat.lt_of_lt_of_le hlt (b e0 e1 e2).2)⟩⟩

theorem least_le (hL : Least (M 0) st r w L) {k : Nat} (h : AllLe (M 0) r w k) : L ≤ k := by
  rcases hL.hit with ⟨i, j, a, b, c, d, e, f⟩ | ⟨q, _⟩
  · have := h i b j d; omega
  · omega

theorem hd3_of {i' : Nat} (hi1 : st < i') (hi2 : i' < r) (e1 : st = 0) (e2 : r = 3) (e3 : w = 3) : (det3 (addM C i' st 0)).natAbs = (det3 (C 0)).natAbs := by subst e1; subst e2; subst e3; rw [det3_add C i' hi1 hi2]
theorem hd2_of {i' : Nat} (hi1 : st < i') (hi2 : i' < r) (e1 : st = 1) (e2 : r = 3) (e3 : w = 3) : (det2 (addM C i' st 0)).natAbs = (det2 (C 0)).natAbs := by
  subst e1; subst e2; subst e3
  have : i' = 2 := Nat.le_antisymm (Nat.le_of_lt_succ hi2) hi1
  subst this; rw [det2_add]
theorem last_det {D : Nat → Nat → Nat → Int} (hD : (if C 0 st st < 0 then negM C st else C) = D) (e : st + 1 = 1) (e1 : r = 3) (e2 : w = 3) (r0 : ∀ c, st < c → c < w → C 0 st c = 0) (hCst : C 0 st st = B 0 st st) (habs : (B 0 st st).natAbs = L) (hpos : 0 < L) (h4 : r = 3 → w = 3 → (det3 (C 0)).natAbs ≤ 4374) : (det2 (D 0)).natAbs ≤ 4374 := by
  replace e : st = 0 := Nat.succ.inj e
  subst e; subst e1; subst e2
  have h2 : det2 (D 0) = det2 (C 0) := by
    rw [← hD]; split
    · simp [det2, negM0]
    · rfl
  rw [h2]
  have h3 : det3 (C 0) = C 0 0 0 * det2 (C 0) := by
    unfold det3 det2
    rw [r0 1 (by decide) (by decide), r0 2 (by decide) (by decide)]; simp
  have h4 := h4 rfl rfl
  rw [h3, Int.natAbs_mul, hCst, habs] at h4
  exact Nat.le_trans (Nat.le_mul_of_pos_left _ hpos) h4
theorem three_sub {st B : Nat} (h : st < 3) : (3 - st) * B = (3 - (st + 1)) * B + B := by
  rw [show 3 - st = (3 - (st + 1)) + 1 by omega, Nat.succ_mul]
theorem fin_lt {a b n L L' K B : Nat} (e : a = b + B) (h : a + 2 * L ≤ n) (hl : L' ≤ K) (hb : 2 * K + 1 < B) : b + 2 * L' + 1 < n := by omega
noncomputable def W23 (w : Nat) : Prop := w = 2 ∨ w = 3
theorem plan_ok (hr : r ≤ 3) (hw : w = 2 ∨ w = 3) (hA : Small A r w) : Plan A r w (Inv A r w) (Done A r w) where
  init := by
    obtain ⟨L, hL⟩ := exists_least A 0 r w
    have e0 : startM A 0 = A := by funext i j; simp [startM]
    refine ⟨_, KI.start hr hw, fun i hi j hj _ q => by first | assumption | exact Nat.le_of_lt (by assumption) | exact Nat.lt_of_lt_of_le (by assumption) (by assumption) | exact Nat.ne_of_gt (by assumption) | exact Nat.ne_of_lt (by assumption) | omega, L, false, by rw [e0]; exact hL, rfl, fun q => (by cases q), fun _ => ?_, fun q => by first | assumption | exact Nat.le_of_lt (by assumption) | exact Nat.lt_of_lt_of_le (by assumption) (by assumption) | exact Nat.ne_of_gt (by assumption) | exact Nat.ne_of_lt (by assumption) | omega⟩
    rw [e0]
    have hL9 : L = 0 ∨ Lok L := by
      rcases hL.hit with ⟨i, j, a, b, c, d, e, f⟩ | ⟨q, _⟩
      · have h1 := hA.le i b j d
        have h2 := hA.no i b j d
        rw [f] at h1 h2
        rcases lok_all L (Nat.lt_succ_of_le h1) with (q | q | q | q) | q
        · exact .inl q
        · exact absurd q h2.1
        · exact absurd q h2.2.1
        · exact absurd q h2.2.2
        · exact .inr q
      · exact .inl q
    refine ⟨fun i hi j hj => ?_, hL9, fun h4 i hi j hj => ?_, fun e1 e2 => ?_⟩
    · have h1 := hA.le i hi j hj
      have h2 : 9 ≤ Gf L := by unfold Gf; repeat' split
                               all_goals omega
      simp only [Bool.false_eq_true, if_false]; omega
    · by_cases hz : A i j = 0
      · rw [hz]; exact Int.dvd_zero _
      · have h1 := hL.low i j (Nat.zero_le _) hi (Nat.zero_le _) hj hz
        have h3 := hA.no i hi j hj
        exact Int.ofNat_dvd_left.mpr (Nat.dvd_of_mod_eq_zero (six9 _ (Nat.lt_succ_of_le (hA.le i hi j hj)) (Nat.lt_of_lt_of_le h4 h1) h3.1 h3.2.1 h3.2.2))
    · subst e1; subst e2; exact det3_small A hA.le
  stop := fun n st M I h => by
    obtain ⟨K, Z, _⟩ := I
    refine ⟨K, fun i hi j hj hne => ?_⟩
    by_cases h1 : i < st ∨ j < st
    · exact Z i hi j hj hne h1
    · rcases h with h | h
      · exact absurd ⟨show st < r by first | assumption | exact Nat.le_of_lt (by assumption) | exact Nat.lt_of_lt_of_le (by assumption) (by assumption) | exact Nat.ne_of_gt (by assumption) | exact Nat.ne_of_lt (by assumption) | omega, show st < w by first | assumption | exact Nat.le_of_lt (by assumption) | exact Nat.lt_of_lt_of_le (by assumption) (by assumption) | exact Nat.ne_of_gt (by assumption) | exact Nat.ne_of_lt (by assumption) | omega⟩ h
      · exact h i j (by first | assumption | exact Nat.le_of_lt (by assumption) | exact Nat.lt_of_lt_of_le (by assumption) (by assumption) | exact Nat.ne_of_gt (by assumption) | exact Nat.ne_of_lt (by assumption) | omega) hi (by first | assumption | exact Nat.le_of_lt (by assumption) | exact Nat.lt_of_lt_of_le (by assumption) (by assumption) | exact Nat.ne_of_gt (by assumption) | exact Nat.ne_of_lt (by assumption) | omega) hj
  small := fun n st M i j I hsr hsw h1 h2 h3 h4 hne hmin hfst => by
    obtain ⟨K, Z, L, fl, hL, hn, hfl, b0, b1⟩ := I
    have hle : AllLe (M 0) r w (FF + 4374) := by
      by_cases e : st = 0
      · subst e
        have b := b0 rfl
        have ok : Lok L := by
          have hLe := hL.eq h1 h2 h3 h4 hne hmin
          rcases b.ok with q | q
          · exact absurd (Int.natAbs_eq_zero.mp (hLe.trans q)) hne
          · exact q
        refine b.le.mono ?_
        have k1 := Gf_le_Pf ok
        have k2 := Pf_le_FF ok
        cases fl with
        | true => exact Nat.le_trans k2 (Nat.le_add_right _ _)
        | false => exact Nat.le_trans (Nat.le_trans k1 k2) (Nat.le_add_right _ _)
      · exact (b1 (by first | assumption | exact Nat.le_of_lt (by assumption) | exact Nat.lt_of_lt_of_le (by assumption) (by assumption) | exact Nat.ne_of_gt (by assumption) | exact Nat.ne_of_lt (by assumption) | omega)).le
    intro a ha c hc
    have hb := AllLe.bring hle h2 h4 hsr hsw a ha c hc
    exact Nat.lt_of_le_of_lt hb (by decide)
  turn := fun n st M i j I hsr hsw h1 h2 h3 h4 hne hmin hfst B C hB hC => by
    obtain ⟨L, fl, hn, T⟩ := turn_of hr hw I hsr hsw h1 h2 h3 h4 hne hmin hfst
    rw [← hB, ← hC] at T
    replace hw : W23 w := hw
    have hn' : (3 - st) * BIG + 2 * L ≤ n := by rw [hn, Nat.add_assoc]; exact Nat.add_le_add_left (Nat.le_add_right _ _) _
    have hnf : fl = false → n = (3 - st) * BIG + 2 * L + 1 := fun e => by rw [hn, e]; rfl
    clear hne hmin hfst h1 h2 h3 h4 I hn hA
    have hp0 : B 0 st st ≠ 0 := Int.natAbs_ne_zero.mp (T.abs ▸ Nat.ne_of_gt T.pos)
    have ZCc : ZC st r w (C 0) := by rw [hC]; exact T.zb.clear hsr hsw
    have hCst : C 0 st st = B 0 st st := by rw [hC, clear_st]
    have hrow : ∀ c, st < c → c < w → C 0 st c = B 0 st c - (B 0 st c).fdiv (B 0 st st) * B 0 st st := fun c a b => by rw [hC]; exact clr_row a b
    have hcol : ∀ a, st < a → a < r → C 0 a st = B 0 a st - (B 0 a st).fdiv (B 0 st st) * B 0 st st := fun a x y => by rw [hC]; exact clr_col x y
    constructor
    · intro hnot
      obtain ⟨L', hL'⟩ := exists_least (C 0) st r w
      have hex : ∃ a c, st ≤ a ∧ a < r ∧ st ≤ c ∧ c < w ∧ C 0 a c ≠ 0 ∧ (C 0 a c).natAbs < L := by
        apply Classical.byContradiction
        intro hno
        refine hnot ⟨fun a x y => ?_, fun c x y => ?_⟩
        · rw [← hcol a x y]
          apply Classical.byContradiction; intro q
          refine hno ⟨a, st, by first | assumption | exact Nat.le_of_lt (by assumption) | exact Nat.lt_of_lt_of_le (by assumption) (by assumption) | exact Nat.ne_of_gt (by assumption) | exact Nat.ne_of_lt (by assumption) | omega, y, by first | assumption | exact Nat.le_of_lt (by assumption) | exact Nat.lt_of_lt_of_le (by assumption) (by assumption) | exact Nat.ne_of_gt (by assumption) | exact Nat.ne_of_lt (by assumption) | omega, hsw, q, ?_⟩
          rw [hcol a x y, ← T.abs]; exact rem_lt _ hp0
        · rw [← hrow c x y]
          apply Classical.byContradiction; intro q
          refine hno ⟨st, c, by first | assumption | exact Nat.le_of_lt (by assumption) | exact Nat.lt_of_lt_of_le (by assumption) (by assumption) | exact Nat.ne_of_gt (by assumption) | exact Nat.ne_of_lt (by assumption) | omega, hsr, by first | assumption | exact Nat.le_of_lt (by assumption) | exact Nat.lt_of_lt_of_le (by assumption) (by assumption) | exact Nat.ne_of_gt (by assumption) | exact Nat.ne_of_lt (by assumption) | omega, y, q, ?_⟩
          rw [hrow c x y, ← T.abs]; exact rem_lt _ hp0
      obtain ⟨a, c, x1, x2, x3, x4, x5, x6⟩ := hex
      obtain ⟨p1, p2⟩ := hL'.pos x1 x2 x3 x4 x5
      exact ⟨_, by first | assumption | exact Nat.le_of_lt (by assumption) | exact Nat.lt_of_lt_of_le (by assumption) (by assumption) | exact Nat.ne_of_gt (by assumption) | exact Nat.ne_of_lt (by assumption) | omega, inv_less T T.ki ZCc (fun _ h => h) (fun h => h) (fun _ _ _ => rfl) (fun _ _ _ => rfl) hL' (by first | assumption | exact Nat.le_of_lt (by assumption) | exact Nat.lt_of_lt_of_le (by assumption) (by assumption) | exact Nat.ne_of_gt (by assumption) | exact Nat.ne_of_lt (by assumption) | omega) p1⟩
    · rintro ⟨g1, g2⟩
      have c0 : ∀ a, st < a → a < r → C 0 a st = 0 := fun a x y => by rw [hcol a x y]; exact g1 a x y
      have r0 : ∀ c, st < c → c < w → C 0 st c = 0 := fun c x y => by rw [hrow c x y]; exact g2 c x y
      have Z1 : ZC (st + 1) r w (C 0) := by rw [hC]; exact T.zb.cleared hsr hsw g1 g2
      constructor
      · intro i' hi1 hi2 hex
        have hne' : st ≠ i' := by first | assumption | exact Nat.le_of_lt (by assumption) | exact Nat.lt_of_lt_of_le (by assumption) (by assumption) | exact Nat.ne_of_gt (by assumption) | exact Nat.ne_of_lt (by assumption) | omega
        obtain ⟨L', hL'⟩ := exists_least (addM C i' st 0) st r w
        have hDst : addM C i' st 0 st st = B 0 st st := by rw [addM0, if_pos rfl, c0 i' hi1 hi2, Int.add_zero, hCst]
        obtain ⟨p1, p2⟩ := hL'.pos (Nat.le_refl _) hsr (Nat.le_refl _) hsw (by rw [hDst]; exact hp0)
        rw [hDst, T.abs] at p2
        have KD := T.ki.addRow hw hi2 hsr hne'
        have ZD := ZCc.add hi1 hi2 hsr
        have hle : ∀ k, AllLe (C 0) r w k → AllLe (addM C i' st 0) r w k := fun k h => h.add hi2 r0 fun c x y => by
          rcases Nat.lt_or_ge c st with q | q
          · exact ZCc i' hi2 c y (by first | assumption | exact Nat.le_of_lt (by assumption) | exact Nat.lt_of_lt_of_le (by assumption) (by assumption) | exact Nat.ne_of_gt (by assumption) | exact Nat.ne_of_lt (by assumption) | omega) (.inr q)
          · have : c = st := by first | assumption | exact Nat.le_of_lt (by assumption) | exact Nat.lt_of_lt_of_le (by assumption) (by assumption) | exact Nat.ne_of_gt (by assumption) | exact Nat.ne_of_lt (by assumption) | omega
            subst this; exact c0 i' hi1 hi2
        have h3D : (∀ i < r, ∀ j < w, (3 : Int) ∣ C 0 i j) → ∀ i < r, ∀ j < w, (3 : Int) ∣ addM C i' st 0 i j := fun h a x c y => by
          rw [addM0]; split
          · exact Int.dvd_add (h st hsr c y) (h i' hi2 c y)
          · exact h a x c y
        have hd3 : st = 0 → r = 3 → w = 3 → (det3 (addM C i' st 0)).natAbs = (det3 (C 0)).natAbs := hd3_of hi1 hi2
        have hd2 : st = 1 → r = 3 → w = 3 → (det2 (addM C i' st 0)).natAbs = (det2 (C 0)).natAbs := hd2_of hi1 hi2
        rcases Nat.lt_or_ge L' L with hlt | hge
        · exact ⟨_, by first | assumption | exact Nat.le_of_lt (by assumption) | exact Nat.lt_of_lt_of_le (by assumption) (by assumption) | exact Nat.ne_of_gt (by assumption) | exact Nat.ne_of_lt (by assumption) | omega, inv_less T KD ZD hle h3D hd3 hd2 hL' hlt p1⟩
        · have eL : L' = L := by first | assumption | exact Nat.le_of_lt (by assumption) | exact Nat.lt_of_lt_of_le (by assumption) (by assumption) | exact Nat.ne_of_gt (by assumption) | exact Nat.ne_of_lt (by assumption) | omega
          have hLL : Least (addM C i' st 0) st r w L := eL ▸ hL'
          have hfl : fl = false := by
            cases hf : fl with
            | false => rfl
            | true =>
              obtain ⟨c, x, y, nd⟩ := T.flag hf
              refine absurd ?_ nd
              have := g2 c x y
              exact ⟨(B 0 st c).fdiv (B 0 st st), by rw [Int.mul_comm]; omega⟩
          refine ⟨(3 - st) * BIG + 2 * L + 0, by rw [hnf hfl]; exact Nat.lt_succ_self _, KD, ZD, L, true, hLL, rfl, fun _ => ?_, fun e => ?_, fun e => ?_⟩
          · obtain ⟨c, x, y, nd⟩ := hex
            refine ⟨by rw [hDst]; exact T.abs, T.pos, fun a x y => ?_, c, x, y, fun hdv => nd ?_⟩
            · rw [addM0, if_neg (by first | assumption | exact Nat.le_of_lt (by assumption) | exact Nat.lt_of_lt_of_le (by assumption) (by assumption) | exact Nat.ne_of_gt (by assumption) | exact Nat.ne_of_lt (by assumption) | omega)]; exact c0 a x y
            · rw [hDst, addM0, if_pos rfl, r0 c x y, Int.zero_add] at hdv
              rw [hCst]; exact fmod_dvd hdv
          · obtain ⟨ok, a, b, c⟩ := T.zero e
            exact ⟨hle _ a, .inr ok, fun h4 => h3D (b h4), fun e1 e2 => by rw [hd3 e e1 e2]; exact c e1 e2⟩
          · obtain ⟨a, b⟩ := T.one e
            exact ⟨hle _ a, fun q0 q1 q2 => ⟨by rw [hd2 q0 q1 q2]; exact (b q0 q1 q2).1, (b q0 q1 q2).2⟩⟩
      · intro hall
        generalize hD : (if C 0 st st < 0 then negM C st else C) = D
        have KD : KI A r w D := by
                                        rw [← hD]
                                        by_cases hq : C 0 st st < 0
                                        · rw [if_pos hq]; exact T.ki.neg hw
                                        · rw [if_neg hq]; exact T.ki
        have ZD : ZC (st + 1) r w (D 0) := by
                                        rw [← hD]
                                        by_cases hq : C 0 st st < 0
                                        · rw [if_pos hq]; exact Z1.neg hsr
                                        · rw [if_neg hq]; exact Z1
        have hle : ∀ k, AllLe (C 0) r w k → AllLe (D 0) r w k := fun k h => by
                                        rw [← hD]
                                        by_cases hq : C 0 st st < 0
                                        · rw [if_pos hq]; exact h.neg hsr
                                        · rw [if_neg hq]; exact h
        obtain ⟨L', hL'⟩ := exists_least (D 0) (st + 1) r w
        have hbd : AllLe (D 0) r w (FF + 4374) := by
          by_cases e : st = 0
          · obtain ⟨ok, a, _⟩ := T.zero e
            exact (hle _ a).mono (Nat.le_trans (Pf_le_FF ok) (Nat.le_add_right _ _))
          · exact hle _ (T.one (by first | assumption | exact Nat.le_of_lt (by assumption) | exact Nat.lt_of_lt_of_le (by assumption) (by assumption) | exact Nat.ne_of_gt (by assumption) | exact Nat.ne_of_lt (by assumption) | omega)).1
        have hLB := least_le hL' hbd
        have hbig : 2 * (FF + 4374) + 1 < BIG := by decide
        refine ⟨(3 - (st + 1)) * BIG + 2 * L' + 1, ?_, KD, ZD, L', false, hL', rfl, fun q => (by cases q), fun e => by first | assumption | exact Nat.le_of_lt (by assumption) | exact Nat.lt_of_lt_of_le (by assumption) (by assumption) | exact Nat.ne_of_gt (by assumption) | exact Nat.ne_of_lt (by assumption) | omega, fun _ => ⟨hbd, fun e0 e1 e2 => ?_⟩⟩
        · exact fin_lt (three_sub (Nat.lt_of_lt_of_le hsr hr)) hn' hLB hbig
        · obtain ⟨ok, a, b, c⟩ := T.zero (Nat.succ.inj e0)
          exact ⟨last_det hD e0 e1 e2 r0 hCst T.abs T.pos c, Nat.le_trans (least_le hL' (hle _ a)) (Pf_le_FF ok)⟩
end
end Mine

end PartML45

section PartML46
open PySem
set_option linter.unusedVariables false
set_option linter.unusedSimpArgs false
set_option maxRecDepth 100000
namespace Mine

theorem ind_eq (p : Prop) [h : Decidable p] : ind p = if p then 1 else 0 := by
  by_cases q : p
  · rw [ind_true q, if_pos q]
  · rw [ind_false q, if_neg q]
theorem ind_and (p q : Prop) : ind (p ∧ q) = ind p * ind q := by
  by_cases h1 : p <;> by_cases h2 : q <;> simp [ind_true, ind_false, h1, h2]
theorem sm_mul (n x : Nat) (f : Int → Nat) : sm n (fun t => x * f t) = x * sm n f := by
  induction n with
  | zero => rfl
  | succ n ih => rw [sm, sm, ih, Nat.mul_add]
theorem sm_mul' (n x : Nat) (f : Int → Nat) : sm n (fun t => f t * x) = sm n f * x := by
  rw [Nat.mul_comm, ← sm_mul]; exact sm_congr n fun t _ => Nat.mul_comm _ _
theorem sm_const (n x : Nat) : sm n (fun _ => x) = n * x := by
  induction n with
  | zero => simp [sm]
  | succ n ih => rw [sm, ih, Nat.succ_mul]

/-- one dimension -/
noncomputable def one1 (m : Nat) (d c : Int) : Nat := sm m fun t => ind ((m : Int) ∣ d * t - c)
noncomputable def gOf (m : Nat) (d : Int) : Nat := Nat.gcd d.natAbs m
theorem one_small : ∀ m : Nat, 2 ≤ m → m ≤ 6 → ∀ d < m, ∀ c < m, sm m (fun t => if (m : Int) ∣ (d : Int) * t - (c : Int) then 1 else 0) = if Nat.gcd d m ∣ c then Nat.gcd d m else 0 := by
  intro m h1 h2
  rcases (show m = 2 ∨ m = 3 ∨ m = 4 ∨ m = 5 ∨ m = 6 by first | assumption | exact Nat.le_of_lt (by assumption) | exact Nat.lt_of_lt_of_le (by assumption) (by assumption) | exact Nat.lt_of_le_of_lt (by assumption) (by assumption) | exact Nat.le_trans (by assumption) (by decide) | exact Nat.lt_of_le_of_lt (by assumption) (by decide) | exact Nat.lt_of_lt_of_le (by assumption) (Nat.le_trans (by assumption) (by decide)) | exact Nat.ne_of_gt (by assumption) | exact Nat.ne_of_lt (by assumption) | exact i3a (by assumption) | exact i3b | omega) with rfl | rfl | rfl | rfl | rfl <;> decide +kernel
theorem dvd_emod_iff {g m c : Int} (hg : g ∣ m) : g ∣ c % m ↔ g ∣ c := by
  obtain ⟨k, rfl⟩ := hg
  have h := Int.emod_add_mul_ediv c (g * k)
  refine dvd_shift (k := -(k * (c / (g * k)))) ?_
  generalize c % (g * k) = x at *
  generalize c / (g * k) = q at *
  grind
theorem gcd_mod {m : Nat} (hm : 0 < m) (d : Int) : gOf m d = Nat.gcd (d % m).toNat m := by
  have h0 : 0 ≤ d % m := Int.emod_nonneg _ (by first | assumption | exact Nat.le_of_lt (by assumption) | exact Nat.lt_of_lt_of_le (by assumption) (by assumption) | exact Nat.lt_of_le_of_lt (by assumption) (by assumption) | exact Nat.le_trans (by assumption) (by decide) | exact Nat.lt_of_le_of_lt (by assumption) (by decide) | exact Nat.lt_of_lt_of_le (by assumption) (Nat.le_trans (by assumption) (by decide)) | exact Nat.ne_of_gt (by assumption) | exact Nat.ne_of_lt (by assumption) | exact i3a (by assumption) | exact i3b | omega)
  unfold gOf
  apply Nat.dvd_antisymm
  · refine Nat.dvd_gcd ?_ (Nat.gcd_dvd_right _ _)
    rw [← Int.natCast_dvd_natCast, Int.toNat_of_nonneg h0]
    rw [dvd_emod_iff (Int.natCast_dvd_natCast.mpr (Nat.gcd_dvd_right _ _))]
    exact Int.ofNat_dvd_left.mpr (Nat.gcd_dvd_left _ _)
  · refine Nat.dvd_gcd ?_ (Nat.gcd_dvd_right _ _)
    rw [← Int.ofNat_dvd_left]
    rw [← dvd_emod_iff (Int.natCast_dvd_natCast.mpr (Nat.gcd_dvd_right (d % m).toNat m))]
    have : ((Nat.gcd (d % m).toNat m : Nat) : Int) ∣ ((d % m).toNat : Int) := Int.natCast_dvd_natCast.mpr (Nat.gcd_dvd_left _ _)
    rwa [Int.toNat_of_nonneg h0] at this
theorem one_dim {m : Nat} (h1 : 2 ≤ m) (h2 : m ≤ 6) (d c : Int) : one1 m d c = if (gOf m d : Int) ∣ c then gOf m d else 0 := by
  have hd0 : 0 ≤ d % m := Int.emod_nonneg _ (by first | assumption | exact Nat.le_of_lt (by assumption) | exact Nat.lt_of_lt_of_le (by assumption) (by assumption) | exact Nat.lt_of_le_of_lt (by assumption) (by assumption) | exact Nat.le_trans (by assumption) (by decide) | exact Nat.lt_of_le_of_lt (by assumption) (by decide) | exact Nat.lt_of_lt_of_le (by assumption) (Nat.le_trans (by assumption) (by decide)) | exact Nat.ne_of_gt (by assumption) | exact Nat.ne_of_lt (by assumption) | exact i3a (by assumption) | exact i3b | omega)
  have hd1 : d % m < m := Int.emod_lt_of_pos _ (by first | assumption | exact Nat.le_of_lt (by assumption) | exact Nat.lt_of_lt_of_le (by assumption) (by assumption) | exact Nat.lt_of_le_of_lt (by assumption) (by assumption) | exact Nat.le_trans (by assumption) (by decide) | exact Nat.lt_of_le_of_lt (by assumption) (by decide) | exact Nat.lt_of_lt_of_le (by assumption) (Nat.le_trans (by assumption) (by decide)) | exact Nat.ne_of_gt (by assumption) | exact Nat.ne_of_lt (by assumption) | exact i3a (by assumption) | exact i3b | omega)
  have hc0 : 0 ≤ c % m := Int.emod_nonneg _ (by first | assumption | exact Nat.le_of_lt (by assumption) | exact Nat.lt_of_lt_of_le (by assumption) (by assumption) | exact Nat.lt_of_le_of_lt (by assumption) (by assumption) | exact Nat.le_trans (by assumption) (by decide) | exact Nat.lt_of_le_of_lt (by assumption) (by decide) | exact Nat.lt_of_lt_of_le (by assumption) (Nat.le_trans (by assumption) (by decide)) | exact Nat.ne_of_gt (by assumption) | exact Nat.ne_of_lt (by assumption) | exact i3a (by assumption) | exact i3b | omega)
  have hc1 : c % m < m := Int.emod_lt_of_pos _ (by first | assumption | exact Nat.le_of_lt (by assumption) | exact Nat.lt_of_lt_of_le (by assumption) (by assumption) | exact Nat.lt_of_le_of_lt (by assumption) (by assumption) | exact Nat.le_trans (by assumption) (by decide) | exact Nat.lt_of_le_of_lt (by assumption) (by decide) | exact Nat.lt_of_lt_of_le (by assumption) (Nat.le_trans (by assumption) (by decide)) | exact Nat.ne_of_gt (by assumption) | exact Nat.ne_of_lt (by assumption) | exact i3a (by assumption) | exact i3b | omega)
  have e := one_small m h1 h2 (d % m).toNat (by first | assumption | exact Nat.le_of_lt (by assumption) | exact Nat.lt_of_lt_of_le (by assumption) (by assumption) | exact Nat.lt_of_le_of_lt (by assumption) (by assumption) | exact Nat.le_trans (by assumption) (by decide) | exact Nat.lt_of_le_of_lt (by assumption) (by decide) | exact Nat.lt_of_lt_of_le (by assumption) (Nat.le_trans (by assumption) (by decide)) | exact Nat.ne_of_gt (by assumption) | exact Nat.ne_of_lt (by assumption) | exact i3a (by assumption) | exact i3b | omega) (c % m).toNat (by first | assumption | exact Nat.le_of_lt (by assumption) | exact Nat.lt_of_lt_of_le (by assumption) (by assumption) | exact Nat.lt_of_le_of_lt (by assumption) (by assumption) | exact Nat.le_trans (by assumption) (by decide) | exact Nat.lt_of_le_of_lt (by assumption) (by decide) | exact Nat.lt_of_lt_of_le (by assumption) (Nat.le_trans (by assumption) (by decide)) | exact Nat.ne_of_gt (by assumption) | exact Nat.ne_of_lt (by assumption) | exact i3a (by assumption) | exact i3b | omega)
  have e1 : one1 m d c = sm m (fun t => if (m : Int) ∣ (((d % m).toNat : Nat) : Int) * t - (((c % m).toNat : Nat) : Int) then 1 else 0) := by
    refine sm_congr m fun t _ => ?_
    rw [ind_eq]
    have : ((m : Int) ∣ d * t - c) ↔ ((m : Int) ∣ (((d % m).toNat : Nat) : Int) * t - (((c % m).toNat : Nat) : Int)) := by
      rw [Int.toNat_of_nonneg hd0, Int.toNat_of_nonneg hc0]
      have a := Int.emod_add_mul_ediv d m
      have b := Int.emod_add_mul_ediv c m
      refine dvd_shift (k := (d / m) * t - c / m) ?_
      generalize d % (m : Int) = x at *
      generalize c % (m : Int) = y at *
      generalize d / (m : Int) = u at *
      generalize c / (m : Int) = v at *
      subst a; subst b; grind
    simp only [this]
  rw [e1, e, ← gcd_mod (by first | assumption | exact Nat.le_of_lt (by assumption) | exact Nat.lt_of_lt_of_le (by assumption) (by assumption) | exact Nat.lt_of_le_of_lt (by assumption) (by assumption) | exact Nat.le_trans (by assumption) (by decide) | exact Nat.lt_of_le_of_lt (by assumption) (by decide) | exact Nat.lt_of_lt_of_le (by assumption) (Nat.le_trans (by assumption) (by decide)) | exact Nat.ne_of_gt (by assumption) | exact Nat.ne_of_lt (by assumption) | exact i3a (by assumption) | exact i3b | omega) d]
  have hg : (gOf m d : Int) ∣ (m : Int) := by unfold gOf; exact Int.natCast_dvd_natCast.mpr (Nat.gcd_dvd_right _ _)
  have : (gOf m d ∣ (c % m).toNat) ↔ ((gOf m d : Int) ∣ c) := by
    rw [← Int.natCast_dvd_natCast, Int.toNat_of_nonneg hc0]
    exact dvd_emod_iff hg
  by_cases q : (gOf m d : Int) ∣ c
  · rw [if_pos q, if_pos (this.mpr q)]
  · rw [if_neg q, if_neg fun x => q (this.mp x)]
end Mine

end PartML46

section PartML47
open PySem
set_option linter.unusedVariables false
set_option linter.unusedSimpArgs false
set_option maxRecDepth 100000
namespace Mine

noncomputable def condB (m r w : Nat) (S : Nat → Nat → Int) (c : Nat → Int) : Prop := (∀ i, i < r → i < w → (gOf m (S i i) : Int) ∣ c i) ∧ ∀ i, w ≤ i → i < r → (m : Int) ∣ c i
noncomputable def nought (m r w : Nat) (S : Nat → Nat → Int) : Nat := (rngM (Min.min r w) fun i => gOf m (S i i)).foldl (· * ·) (m ^ (w - Min.min r w))

theorem cnt_prod {m w r : Nat} {S : Nat → Nat → Int} {c : Nat → Int} (hr : 1 ≤ r) (hr3 : r ≤ 3) (hw : w = 2 ∨ w = 3) (hS : ∀ i < r, ∀ j < w, i ≠ j → S i j = 0) :
    cnt m w r S c = sm m (fun t => ind ((m : Int) ∣ S 0 0 * t - c 0)) * (sm m (fun t => ind (1 < r → (m : Int) ∣ S 1 1 * t - c 1)) * sm (if w = 3 then m else 1) (fun t => ind (2 < r → (m : Int) ∣ S 2 2 * t - c 2))) := by
  have e : cnt m w r S c = sm m fun a => sm m fun b => sm (if w = 3 then m else 1) fun d => ind ((m : Int) ∣ S 0 0 * a - c 0) * (ind (1 < r → (m : Int) ∣ S 1 1 * b - c 1) * ind (2 < r → (m : Int) ∣ S 2 2 * d - c 2)) := by
    unfold cnt
    refine sm_congr _ fun a _ => sm_congr _ fun b _ => sm_congr _ fun d hd => ?_
    rw [← ind_and, ← ind_and]
    refine ind_congr ?_
    have hd' : w = 2 → (d : Int) = 0 := fun e => by subst e; simp at hd; omega
    have m0 : mv S 0 (v3 a b d) = S 0 0 * a := by
      rw [mv_v3, hS 0 (by first | assumption | exact Nat.le_of_lt (by assumption) | exact Nat.lt_of_lt_of_le (by assumption) (by assumption) | exact Nat.lt_of_le_of_lt (by assumption) (by assumption) | exact Nat.le_trans (by assumption) (by decide) | exact Nat.lt_of_le_of_lt (by assumption) (by decide) | exact Nat.lt_of_lt_of_le (by assumption) (Nat.le_trans (by assumption) (by decide)) | exact Nat.ne_of_gt (by assumption) | exact Nat.ne_of_lt (by assumption) | exact i3a (by assumption) | exact i3b | omega) 1 (by first | assumption | exact Nat.le_of_lt (by assumption) | exact Nat.lt_of_lt_of_le (by assumption) (by assumption) | exact Nat.lt_of_le_of_lt (by assumption) (by assumption) | exact Nat.le_trans (by assumption) (by decide) | exact Nat.lt_of_le_of_lt (by assumption) (by decide) | exact Nat.lt_of_lt_of_le (by assumption) (Nat.le_trans (by assumption) (by decide)) | exact Nat.ne_of_gt (by assumption) | exact Nat.ne_of_lt (by assumption) | exact i3a (by assumption) | exact i3b | omega) (by decide)]
      rcases hw with rfl | rfl
      · rw [hd' rfl]; simp
      · rw [hS 0 (by first | assumption | exact Nat.le_of_lt (by assumption) | exact Nat.lt_of_lt_of_le (by assumption) (by assumption) | exact Nat.lt_of_le_of_lt (by assumption) (by assumption) | exact Nat.le_trans (by assumption) (by decide) | exact Nat.lt_of_le_of_lt (by assumption) (by decide) | exact Nat.lt_of_lt_of_le (by assumption) (Nat.le_trans (by assumption) (by decide)) | exact Nat.ne_of_gt (by assumption) | exact Nat.ne_of_lt (by assumption) | exact i3a (by assumption) | exact i3b | omega) 2 (by first | assumption | exact Nat.le_of_lt (by assumption) | exact Nat.lt_of_lt_of_le (by assumption) (by assumption) | exact Nat.lt_of_le_of_lt (by assumption) (by assumption) | exact Nat.le_trans (by assumption) (by decide) | exact Nat.lt_of_le_of_lt (by assumption) (by decide) | exact Nat.lt_of_lt_of_le (by assumption) (Nat.le_trans (by assumption) (by decide)) | exact Nat.ne_of_gt (by assumption) | exact Nat.ne_of_lt (by assumption) | exact i3a (by assumption) | exact i3b | omega) (by decide)]; simp
    have m1 : 1 < r → mv S 1 (v3 a b d) = S 1 1 * b := fun h => by
      rw [mv_v3, hS 1 h 0 (by first | assumption | exact Nat.le_of_lt (by assumption) | exact Nat.lt_of_lt_of_le (by assumption) (by assumption) | exact Nat.lt_of_le_of_lt (by assumption) (by assumption) | exact Nat.le_trans (by assumption) (by decide) | exact Nat.lt_of_le_of_lt (by assumption) (by decide) | exact Nat.lt_of_lt_of_le (by assumption) (Nat.le_trans (by assumption) (by decide)) | exact Nat.ne_of_gt (by assumption) | exact Nat.ne_of_lt (by assumption) | exact i3a (by assumption) | exact i3b | omega) (by decide)]
      rcases hw with rfl | rfl
      · rw [hd' rfl]; simp
      · rw [hS 1 h 2 (by first | assumption | exact Nat.le_of_lt (by assumption) | exact Nat.lt_of_lt_of_le (by assumption) (by assumption) | exact Nat.lt_of_le_of_lt (by assumption) (by assumption) | exact Nat.le_trans (by assumption) (by decide) | exact Nat.lt_of_le_of_lt (by assumption) (by decide) | exact Nat.lt_of_lt_of_le (by assumption) (Nat.le_trans (by assumption) (by decide)) | exact Nat.ne_of_gt (by assumption) | exact Nat.ne_of_lt (by assumption) | exact i3a (by assumption) | exact i3b | omega) (by decide)]; simp
    have m2 : 2 < r → mv S 2 (v3 a b d) = S 2 2 * d := fun h => by
      rw [mv_v3, hS 2 h 0 (by first | assumption | exact Nat.le_of_lt (by assumption) | exact Nat.lt_of_lt_of_le (by assumption) (by assumption) | exact Nat.lt_of_le_of_lt (by assumption) (by assumption) | exact Nat.le_trans (by assumption) (by decide) | exact Nat.lt_of_le_of_lt (by assumption) (by decide) | exact Nat.lt_of_lt_of_le (by assumption) (Nat.le_trans (by assumption) (by decide)) | exact Nat.ne_of_gt (by assumption) | exact Nat.ne_of_lt (by assumption) | exact i3a (by assumption) | exact i3b | omega) (by decide), hS 2 h 1 (by first | assumption | exact Nat.le_of_lt (by assumption) | exact Nat.lt_of_lt_of_le (by assumption) (by assumption) | exact Nat.lt_of_le_of_lt (by assumption) (by assumption) | exact Nat.le_trans (by assumption) (by decide) | exact Nat.lt_of_le_of_lt (by assumption) (by decide) | exact Nat.lt_of_lt_of_le (by assumption) (Nat.le_trans (by assumption) (by decide)) | exact Nat.ne_of_gt (by assumption) | exact Nat.ne_of_lt (by assumption) | exact i3a (by assumption) | exact i3b | omega) (by decide)]; simp
    constructor
    · intro h
      exact ⟨by rw [← m0]; exact h 0 (by first | assumption | exact Nat.le_of_lt (by assumption) | exact Nat.lt_of_lt_of_le (by assumption) (by assumption) | exact Nat.lt_of_le_of_lt (by assumption) (by assumption) | exact Nat.le_trans (by assumption) (by decide) | exact Nat.lt_of_le_of_lt (by assumption) (by decide) | exact Nat.lt_of_lt_of_le (by assumption) (Nat.le_trans (by assumption) (by decide)) | exact Nat.ne_of_gt (by assumption) | exact Nat.ne_of_lt (by assumption) | exact i3a (by assumption) | exact i3b | omega), fun q => by rw [← m1 q]; exact h 1 q, fun q => by rw [← m2 q]; exact h 2 q⟩
    · rintro ⟨h0, h1, h2⟩ i hi
      rcases (show i = 0 ∨ i = 1 ∨ i = 2 by first | assumption | exact Nat.le_of_lt (by assumption) | exact Nat.lt_of_lt_of_le (by assumption) (by assumption) | exact Nat.lt_of_le_of_lt (by assumption) (by assumption) | exact Nat.le_trans (by assumption) (by decide) | exact Nat.lt_of_le_of_lt (by assumption) (by decide) | exact Nat.lt_of_lt_of_le (by assumption) (Nat.le_trans (by assumption) (by decide)) | exact Nat.ne_of_gt (by assumption) | exact Nat.ne_of_lt (by assumption) | exact i3a (by assumption) | exact i3b | omega) with rfl | rfl | rfl
      · rw [m0]; exact h0
      · rw [m1 hi]; exact h1 hi
      · rw [m2 hi]; exact h2 hi
  rw [e]
  have e2 : ∀ a b : Nat, sm (if w = 3 then m else 1) (fun d => ind ((m : Int) ∣ S 0 0 * a - c 0) * (ind (1 < r → (m : Int) ∣ S 1 1 * b - c 1) * ind (2 < r → (m : Int) ∣ S 2 2 * d - c 2))) =
      ind ((m : Int) ∣ S 0 0 * a - c 0) * (ind (1 < r → (m : Int) ∣ S 1 1 * b - c 1) * sm (if w = 3 then m else 1) (fun d => ind (2 < r → (m : Int) ∣ S 2 2 * d - c 2))) := fun a b => by
    rw [sm_mul, sm_mul]
  generalize hX : sm (if w = 3 then m else 1) (fun d => ind (2 < r → (m : Int) ∣ S 2 2 * d - c 2)) = X at e2 ⊢
  have e3 : ∀ a : Nat, sm m (fun b => ind ((m : Int) ∣ S 0 0 * a - c 0) * (ind (1 < r → (m : Int) ∣ S 1 1 * b - c 1) * X)) = ind ((m : Int) ∣ S 0 0 * a - c 0) * (sm m (fun b => ind (1 < r → (m : Int) ∣ S 1 1 * b - c 1)) * X) := fun a => by
    rw [sm_mul, sm_mul']
  refine (sm_congr (g := fun a => ind ((m : Int) ∣ S 0 0 * a - c 0) * (sm m (fun b => ind (1 < r → (m : Int) ∣ S 1 1 * b - c 1)) * X)) m fun a _ =>
    (sm_congr (g := fun b => ind ((m : Int) ∣ S 0 0 * a - c 0) * (ind (1 < r → (m : Int) ∣ S 1 1 * b - c 1) * X)) m fun b _ => e2 a b).trans (e3 a)).trans ?_
  rw [sm_mul']

theorem ind_imp {p q : Prop} (h : p) : ind (p → q) = ind q := ind_congr ⟨fun x => x h, fun x _ => x⟩
theorem ind_vac {p q : Prop} (h : ¬ p) : ind (p → q) = 1 := ind_true fun x => absurd x h
theorem sm_one (n : Nat) : sm n (fun _ => 1) = n := by rw [sm_const]; omega

theorem mul_ite {p q : Prop} {a b : Nat} : (by classical exact (if p then a else 0) * (if q then b else 0)) = (by classical exact if p ∧ q then a * b else 0) := by
  classical
  by_cases h1 : p <;> by_cases h2 : q <;> simp [h1, h2]
theorem cnt_diag {m w r : Nat} {S : Nat → Nat → Int} {c : Nat → Int} (h2 : 2 ≤ m) (h6 : m ≤ 6) (hr : 1 ≤ r) (hr3 : r ≤ 3) (hw : w = 2 ∨ w = 3) (hS : ∀ i < r, ∀ j < w, i ≠ j → S i j = 0) :
    (condB m r w S c → cnt m w r S c = nought m r w S) ∧ (¬ condB m r w S c → cnt m w r S c = 0) := by
  rw [cnt_prod hr hr3 hw hS]
  have o : ∀ i, sm m (fun t => ind ((m : Int) ∣ S i i * t - c i)) = if (gOf m (S i i) : Int) ∣ c i then gOf m (S i i) else 0 := fun i => one_dim h2 h6 (S i i) (c i)
  rw [o 0]
  rcases hw with rfl | rfl <;> rcases (show r = 1 ∨ r = 2 ∨ r = 3 by first | assumption | exact Nat.le_of_lt (by assumption) | exact Nat.lt_of_lt_of_le (by assumption) (by assumption) | exact Nat.lt_of_le_of_lt (by assumption) (by assumption) | exact Nat.le_trans (by assumption) (by decide) | exact Nat.lt_of_le_of_lt (by assumption) (by decide) | exact Nat.lt_of_lt_of_le (by assumption) (Nat.le_trans (by assumption) (by decide)) | exact Nat.ne_of_gt (by assumption) | exact Nat.ne_of_lt (by assumption) | exact i3a (by assumption) | exact i3b | omega) with rfl | rfl | rfl
  · simp only [ind_vac (show ¬ 1 < 1 by decide), ind_vac (show ¬ 2 < 1 by decide), sm_one, show ¬ (2 : Nat) = 3 by decide, if_false]
    have : condB m 1 2 S c ↔ (gOf m (S 0 0) : Int) ∣ c 0 := ⟨fun h => h.1 0 (by decide) (by decide), fun h => ⟨fun i a b => by rw [show i = 0 by first | assumption | exact Nat.le_of_lt (by assumption) | exact Nat.lt_of_lt_of_le (by assumption) (by assumption) | exact Nat.lt_of_le_of_lt (by assumption) (by assumption) | exact Nat.le_trans (by assumption) (by decide) | exact Nat.lt_of_le_of_lt (by assumption) (by decide) | exact Nat.lt_of_lt_of_le (by assumption) (Nat.le_trans (by assumption) (by decide)) | exact Nat.ne_of_gt (by assumption) | exact Nat.ne_of_lt (by assumption) | exact i3a (by assumption) | exact i3b | omega]; exact h, fun i a b => by first | assumption | exact Nat.le_of_lt (by assumption) | exact Nat.lt_of_lt_of_le (by assumption) (by assumption) | exact Nat.lt_of_le_of_lt (by assumption) (by assumption) | exact Nat.le_trans (by assumption) (by decide) | exact Nat.lt_of_le_of_lt (by assumption) (by decide) | exact Nat.lt_of_lt_of_le (by assumption) (Nat.le_trans (by assumption) (by decide)) | exact Nat.ne_of_gt (by assumption) | exact Nat.ne_of_lt (by assumption) | exact i3a (by assumption) | exact i3b | omega⟩⟩
    rw [this]
    refine ⟨fun h => ?_, fun h => ?_⟩
    · rw [if_pos h]; simp [nought, rngM, List.range_succ]; grind
    · rw [if_neg h]; simp
  · simp only [ind_imp (show 1 < 2 by decide), ind_vac (show ¬ 2 < 2 by decide), sm_one, show ¬ (2 : Nat) = 3 by decide, if_false, o 1]
    have : condB m 2 2 S c ↔ (gOf m (S 0 0) : Int) ∣ c 0 ∧ (gOf m (S 1 1) : Int) ∣ c 1 := ⟨fun h => ⟨h.1 0 (by decide) (by decide), h.1 1 (by decide) (by decide)⟩, fun h => ⟨fun i a b => by
      rcases (show i = 0 ∨ i = 1 by first | assumption | exact Nat.le_of_lt (by assumption) | exact Nat.lt_of_lt_of_le (by assumption) (by assumption) | exact Nat.lt_of_le_of_lt (by assumption) (by assumption) | exact Nat.le_trans (by assumption) (by decide) | exact Nat.lt_of_le_of_lt (by assumption) (by decide) | exact Nat.lt_of_lt_of_le (by assumption) (Nat.le_trans (by assumption) (by decide)) | exact Nat.ne_of_gt (by assumption) | exact Nat.ne_of_lt (by assumption) | exact i3a (by assumption) | exact i3b | omega) with rfl | rfl
      · exact h.1
      · exact h.2, fun i a b => by first | assumption | exact Nat.le_of_lt (by assumption) | exact Nat.lt_of_lt_of_le (by assumption) (by assumption) | exact Nat.lt_of_le_of_lt (by assumption) (by assumption) | exact Nat.le_trans (by assumption) (by decide) | exact Nat.lt_of_le_of_lt (by assumption) (by decide) | exact Nat.lt_of_lt_of_le (by assumption) (Nat.le_trans (by assumption) (by decide)) | exact Nat.ne_of_gt (by assumption) | exact Nat.ne_of_lt (by assumption) | exact i3a (by assumption) | exact i3b | omega⟩⟩
    rw [this]
    refine ⟨fun h => ?_, fun h => ?_⟩
    · rw [if_pos h.1, if_pos h.2]; simp [nought, rngM, List.range_succ]
    · by_cases q : (gOf m (S 0 0) : Int) ∣ c 0
      · rw [if_pos q, if_neg fun x => h ⟨q, x⟩]; simp
      · rw [if_neg q]; simp
  · simp only [ind_imp (show 1 < 3 by decide), ind_imp (show 2 < 3 by decide), show ¬ (2 : Nat) = 3 by decide, if_false, o 1]
    have s1 : sm 1 (fun t => ind ((m : Int) ∣ S 2 2 * t - c 2)) = ind ((m : Int) ∣ c 2) := by
      simp only [sm]; rw [Nat.zero_add]; refine ind_congr ?_
      simp
    rw [s1]
    have : condB m 3 2 S c ↔ (gOf m (S 0 0) : Int) ∣ c 0 ∧ (gOf m (S 1 1) : Int) ∣ c 1 ∧ (m : Int) ∣ c 2 := ⟨fun h => ⟨h.1 0 (by decide) (by decide), h.1 1 (by decide) (by decide), h.2 2 (by decide) (by decide)⟩, fun h => ⟨fun i a b => by
      rcases (show i = 0 ∨ i = 1 by first | assumption | exact Nat.le_of_lt (by assumption) | exact Nat.lt_of_lt_of_le (by assumption) (by assumption) | exact Nat.lt_of_le_of_lt (by assumption) (by assumption) | exact Nat.le_trans (by assumption) (by decide) | exact Nat.lt_of_le_of_lt (by assumption) (by decide) | exact Nat.lt_of_lt_of_le (by assumption) (Nat.le_trans (by assumption) (by decide)) | exact Nat.ne_of_gt (by assumption) | exact Nat.ne_of_lt (by assumption) | exact i3a (by assumption) | exact i3b | omega) with rfl | rfl
      · exact h.1
      · exact h.2.1, fun i a b => by
        have : i = 2 := by first | assumption | exact Nat.le_of_lt (by assumption) | exact Nat.lt_of_lt_of_le (by assumption) (by assumption) | exact Nat.lt_of_le_of_lt (by assumption) (by assumption) | exact Nat.le_trans (by assumption) (by decide) | exact Nat.lt_of_le_of_lt (by assumption) (by decide) | exact Nat.lt_of_lt_of_le (by assumption) (Nat.le_trans (by assumption) (by decide)) | exact Nat.ne_of_gt (by assumption) | exact Nat.ne_of_lt (by assumption) | exact i3a (by assumption) | exact i3b | omega
        subst this; exact h.2.2⟩⟩
    rw [this]
    refine ⟨fun h => ?_, fun h => ?_⟩
    · rw [if_pos h.1, if_pos h.2.1, ind_true h.2.2]; simp [nought, rngM, List.range_succ]
    · by_cases q : (gOf m (S 0 0) : Int) ∣ c 0
      · by_cases q1 : (gOf m (S 1 1) : Int) ∣ c 1
        · rw [ind_false fun x => h ⟨q, q1, x⟩]; simp
        · rw [if_neg q1]; simp
      · rw [if_neg q]; simp
  · simp only [ind_vac (show ¬ 1 < 1 by decide), ind_vac (show ¬ 2 < 1 by decide), sm_one, if_true]
    have : condB m 1 3 S c ↔ (gOf m (S 0 0) : Int) ∣ c 0 := ⟨fun h => h.1 0 (by decide) (by decide), fun h => ⟨fun i a b => by rw [show i = 0 by first | assumption | exact Nat.le_of_lt (by assumption) | exact Nat.lt_of_lt_of_le (by assumption) (by assumption) | exact Nat.lt_of_le_of_lt (by assumption) (by assumption) | exact Nat.le_trans (by assumption) (by decide) | exact Nat.lt_of_le_of_lt (by assumption) (by decide) | exact Nat.lt_of_lt_of_le (by assumption) (Nat.le_trans (by assumption) (by decide)) | exact Nat.ne_of_gt (by assumption) | exact Nat.ne_of_lt (by assumption) | exact i3a (by assumption) | exact i3b | omega]; exact h, fun i a b => by first | assumption | exact Nat.le_of_lt (by assumption) | exact Nat.lt_of_lt_of_le (by assumption) (by assumption) | exact Nat.lt_of_le_of_lt (by assumption) (by assumption) | exact Nat.le_trans (by assumption) (by decide) | exact Nat.lt_of_le_of_lt (by assumption) (by decide) | exact Nat.lt_of_lt_of_le (by assumption) (Nat.le_trans (by assumption) (by decide)) | exact Nat.ne_of_gt (by assumption) | exact Nat.ne_of_lt (by assumption) | exact i3a (by assumption) | exact i3b | omega⟩⟩
    rw [this]
    refine ⟨fun h => ?_, fun h => ?_⟩
    · rw [if_pos h]; simp [nought, rngM, List.range_succ]; grind
    · rw [if_neg h]; simp
  · simp only [ind_imp (show 1 < 2 by decide), ind_vac (show ¬ 2 < 2 by decide), sm_one, if_true, o 1]
    have : condB m 2 3 S c ↔ (gOf m (S 0 0) : Int) ∣ c 0 ∧ (gOf m (S 1 1) : Int) ∣ c 1 := ⟨fun h => ⟨h.1 0 (by decide) (by decide), h.1 1 (by decide) (by decide)⟩, fun h => ⟨fun i a b => by
      rcases (show i = 0 ∨ i = 1 by first | assumption | exact Nat.le_of_lt (by assumption) | exact Nat.lt_of_lt_of_le (by assumption) (by assumption) | exact Nat.lt_of_le_of_lt (by assumption) (by assumption) | exact Nat.le_trans (by assumption) (by decide) | exact Nat.lt_of_le_of_lt (by assumption) (by decide) | exact Nat.lt_of_lt_of_le (by assumption) (Nat.le_trans (by assumption) (by decide)) | exact Nat.ne_of_gt (by assumption) | exact Nat.ne_of_lt (by assumption) | exact i3a (by assumption) | exact i3b | omega) with rfl | rfl
      · exact h.1
      · exact h.2, fun i a b => by first | assumption | exact Nat.le_of_lt (by assumption) | exact Nat.lt_of_lt_of_le (by assumption) (by assumption) | exact Nat.lt_of_le_of_lt (by assumption) (by assumption) | exact Nat.le_trans (by assumption) (by decide) | exact Nat.lt_of_le_of_lt (by assumption) (by decide) | exact Nat.lt_of_lt_of_le (by assumption) (Nat.le_trans (by assumption) (by decide)) | exact Nat.ne_of_gt (by assumption) | exact Nat.ne_of_lt (by assumption) | exact i3a (by assumption) | exact i3b | omega⟩⟩
    rw [this]
    refine ⟨fun h => ?_, fun h => ?_⟩
    · rw [if_pos h.1, if_pos h.2]; simp [nought, rngM, List.range_succ]; grind
    · by_cases q : (gOf m (S 0 0) : Int) ∣ c 0
      · rw [if_pos q, if_neg fun x => h ⟨q, x⟩]; simp
      · rw [if_neg q]; simp
  · simp only [ind_imp (show 1 < 3 by decide), ind_imp (show 2 < 3 by decide), if_true, o 1, o 2]
    have : condB m 3 3 S c ↔ (gOf m (S 0 0) : Int) ∣ c 0 ∧ (gOf m (S 1 1) : Int) ∣ c 1 ∧ (gOf m (S 2 2) : Int) ∣ c 2 := ⟨fun h => ⟨h.1 0 (by decide) (by decide), h.1 1 (by decide) (by decide), h.1 2 (by decide) (by decide)⟩, fun h => ⟨fun i a b => by
      rcases (show i = 0 ∨ i = 1 ∨ i = 2 by first | assumption | exact Nat.le_of_lt (by assumption) | exact Nat.lt_of_lt_of_le (by assumption) (by assumption) | exact Nat.lt_of_le_of_lt (by assumption) (by assumption) | exact Nat.le_trans (by assumption) (by decide) | exact Nat.lt_of_le_of_lt (by assumption) (by decide) | exact Nat.lt_of_lt_of_le (by assumption) (Nat.le_trans (by assumption) (by decide)) | exact Nat.ne_of_gt (by assumption) | exact Nat.ne_of_lt (by assumption) | exact i3a (by assumption) | exact i3b | omega) with rfl | rfl | rfl
      · exact h.1
      · exact h.2.1
      · exact h.2.2, fun i a b => by first | assumption | exact Nat.le_of_lt (by assumption) | exact Nat.lt_of_lt_of_le (by assumption) (by assumption) | exact Nat.lt_of_le_of_lt (by assumption) (by assumption) | exact Nat.le_trans (by assumption) (by decide) | exact Nat.lt_of_le_of_lt (by assumption) (by decide) | exact Nat.lt_of_lt_of_le (by assumption) (Nat.le_trans (by assumption) (by decide)) | exact Nat.ne_of_gt (by assumption) | exact Nat.ne_of_lt (by assumption) | exact i3a (by assumption) | exact i3b | omega⟩⟩
    rw [this]
    refine ⟨fun h => ?_, fun h => ?_⟩
    · rw [if_pos h.1, if_pos h.2.1, if_pos h.2.2]; simp [nought, rngM, List.range_succ]; grind
    · by_cases q : (gOf m (S 0 0) : Int) ∣ c 0
      · by_cases q1 : (gOf m (S 1 1) : Int) ∣ c 1
        · rw [if_neg fun x => h ⟨q, q1, x⟩]; simp
        · rw [if_neg q1]; simp
      · rw [if_neg q]; simp
end Mine

end PartML47

section PartML48
open PySem
set_option linter.unusedVariables false
set_option linter.unusedSimpArgs false
set_option maxRecDepth 100000
namespace Mine

theorem list_rng {α β : Type} (f : α → β) (d : α) : ∀ (xs : List α) (n : Nat), xs.length = n → xs.map f = rngM n fun j => f (xs.getD j d) := by
  intro xs n h
  subst h
  apply List.ext_getElem?
  intro i
  simp only [rngM, List.getElem?_map]
  by_cases hi : i < xs.length
  · simp [hi]
  · simp [hi]

noncomputable def lsum (X : List (List Int)) (f : List Int → Nat) : Nat := (X.map f).sum
theorem lsum_append (X Y : List (List Int)) (f : List Int → Nat) : lsum (X ++ Y) f = lsum X f + lsum Y f := by simp [lsum]
theorem lsum_flat (X : List (List Int)) (g : List Int → List (List Int)) (f : List Int → Nat) : lsum (X.flatMap g) f = lsum X fun x => lsum (g x) f := by
  induction X with
  | nil => rfl
  | cons x r ih =>
    rw [List.flatMap_cons, lsum_append, ih]; simp [lsum]
theorem lsum_rng (n : Nat) (row : List Int) (f : List Int → Nat) : lsum (rngM n fun t => row ++ [(t : Int)]) f = sm n fun t => f (row ++ [t]) := by
  induction n with
  | zero => rfl
  | succ n ih => rw [rngM_succ, lsum_append, ih, sm]; simp [lsum]
theorem lsum_cols (m k : Nat) (f : List Int → Nat) : lsum (cols m (k + 1)) f = lsum (cols m k) fun row => sm m fun t => f (row ++ [t]) := by
  rw [cols, lsum_flat]
  have : (fun row => lsum (rngM m fun t => row ++ [(t : Int)]) f) = fun row => sm m fun t => f (row ++ [t]) := funext fun row => lsum_rng m row f
  rw [this]
theorem lsum_cols2 (m : Nat) (f : List Int → Nat) : lsum (cols m 2) f = sm m fun a => sm m fun b => f [a, b] := by
  rw [lsum_cols, lsum_cols]; simp [lsum, cols]
theorem lsum_cols3 (m : Nat) (f : List Int → Nat) : lsum (cols m 3) f = sm m fun a => sm m fun b => sm m fun d => f [a, b, d] := by
  rw [lsum_cols, lsum_cols, lsum_cols]; simp [lsum, cols]

noncomputable def img (A : Nat → Nat → Int) (r w m : Nat) (xs : List Int) : List Int := rngM r fun i => (rowSum w (A i) fun j => xs.getD j 0).fmod (m : Nat)
theorem rngM_inj {α : Type} {n : Nat} {f g : Nat → α} (h : rngM n f = rngM n g) : ∀ i < n, f i = g i := fun i hi => by
  have := congrArg (fun l => l[i]?) h
  simpa [rngM, hi] using this
theorem img_iff {A : Nat → Nat → Int} {r w m : Nat} {β : Nat → Int} (hm : 0 < m) (hβ : ∀ i < r, 0 ≤ β i ∧ β i < m) {xs : List Int} {y : Nat → Int} (hy : ∀ i < r, (rowSum w (A i) fun j => xs.getD j 0) = mv A i y) :
    img A r w m xs = rngM r β ↔ sat m r A β y := by
  have one : ∀ i < r, ((mv A i y).fmod (m : Nat) = β i ↔ (m : Int) ∣ mv A i y - β i) := fun i hi => by
    rw [Int.fmod_eq_emod_of_nonneg _ (Int.natCast_nonneg m)]
    obtain ⟨h0, h1⟩ := hβ i hi
    constructor
    · intro h
      rw [← h]
      exact Int.dvd_self_sub_emod
    · intro h
      have := (Int.emod_eq_emod_iff_emod_sub_eq_zero).mpr (Int.emod_eq_zero_of_dvd h)
      rw [this]; exact Int.emod_eq_of_lt h0 h1
  constructor
  · intro h i hi
    have := rngM_inj h i hi
    rw [hy i hi] at this
    exact (one i hi).mp this
  · intro h
    refine rngM_congr fun i hi => ?_
    rw [hy i hi]
    exact (one i hi).mpr (h i hi)
/-- the counts over all columns -/
theorem cols_cnt {A : Nat → Nat → Int} {r w m : Nat} {β : Nat → Int} (hm : 0 < m) (hw : w = 2 ∨ w = 3) (hβ : ∀ i < r, 0 ≤ β i ∧ β i < m) : lsum (cols m w) (fun xs => ind (img A r w m xs = rngM r β)) = cnt m w r A β := by
  rcases hw with rfl | rfl
  · rw [lsum_cols2]
    unfold cnt
    refine sm_congr _ fun a _ => sm_congr _ fun b _ => ?_
    simp only [show ¬ (2 : Nat) = 3 by decide, if_false, sm]
    rw [Nat.zero_add]
    refine ind_congr (img_iff hm hβ fun i _ => ?_)
    rw [mv_v3]; simp [rowSum, rngM, List.range_succ]
  · rw [lsum_cols3]
    unfold cnt
    refine sm_congr _ fun a _ => sm_congr _ fun b _ => ?_
    simp only [if_true]
    refine sm_congr _ fun d _ => ?_
    refine ind_congr (img_iff hm hβ fun i _ => ?_)
    rw [mv_v3]; simp [rowSum, rngM, List.range_succ]; omega
end Mine

end PartML48

section PartML49
open PySem
set_option linter.unusedVariables false
set_option linter.unusedSimpArgs false
set_option maxRecDepth 100000
namespace Mine

/-! the dict of the counts -/
theorem lookupL_cons (e : List Int × Int) (r : List (List Int × Int)) (k : List Int) : lookupL (e :: r) k = if e.1 = k then some e.2 else lookupL r k := by
  unfold lookupL
  rw [List.find?_cons]
  by_cases h : e.1 = k <;> simp [h]
theorem lookup_map (k : List Int) (i : Int) (k' : List Int) : ∀ es : List (List Int × Int), lookupL (es.map fun e => if e.1 = k then (e.1, i) else e) k' = if k' = k then (if (lookupL es k).isSome then some i else Option.none) else lookupL es k'
  | [] => by simp [lookupL]
  | e :: r => by
    rw [List.map_cons, lookupL_cons, lookup_map k i k' r, lookupL_cons, lookupL_cons]
    by_cases h1 : e.1 = k
    · by_cases h2 : k' = k
      · simp [h1, h2]
      · simp [h1, h2, Ne.symm h2]
    · by_cases h2 : k' = k
      · subst h2; simp [h1]
      · simp [h1, h2]
theorem lookup_app (k : List Int) (i : Int) (k' : List Int) : ∀ es : List (List Int × Int), lookupL (es ++ [(k, i)]) k' = if (lookupL es k').isSome then lookupL es k' else if k = k' then some i else Option.none
  | [] => by simp [lookupL_cons]; simp [lookupL]
  | e :: r => by
    rw [List.cons_append, lookupL_cons, lookup_app k i k' r, lookupL_cons]
    by_cases h1 : e.1 = k' <;> simp [h1]
theorem lookup_store (es : List (List Int × Int)) (k k' : List Int) (i : Int) : lookupL (storeL es k i) k' = if k' = k then some i else lookupL es k' := by
  unfold storeL
  by_cases h : (lookupL es k).isSome
  · rw [if_pos h, lookup_map]; simp [h]
  · rw [if_neg h, lookup_app]
    have hn : lookupL es k = Option.none := by simpa using h
    by_cases h2 : k' = k
    · subst h2; simp [hn]
    · simp only [h2, if_false, Ne.symm h2]
      cases lookupL es k' <;> rfl
theorem lookup_mem {es : List (List Int × Int)} {k : List Int} {v : Int} (h : lookupL es k = some v) : (k, v) ∈ es := by
  induction es with
  | nil => simp [lookupL] at h
  | cons e r ih =>
    rw [lookupL_cons] at h
    by_cases h1 : e.1 = k
    · rw [if_pos h1] at h; cases h; subst h1; exact List.mem_cons_self
    · rw [if_neg h1] at h; exact List.mem_cons_of_mem _ (ih h)
theorem lookup_none {es : List (List Int × Int)} {k : List Int} (h : lookupL es k = Option.none) : ∀ e ∈ es, e.1 ≠ k := by
  induction es with
  | nil => intro e he; cases he
  | cons e r ih =>
    rw [lookupL_cons] at h
    by_cases h1 : e.1 = k
    · rw [if_pos h1] at h; cases h
    · rw [if_neg h1] at h
      intro x hx
      rcases List.mem_cons.mp hx with rfl | hx
      · exact h1
      · exact ih h x hx

noncomputable def addK (es : List (List Int × Int)) (k : List Int) : List (List Int × Int) := storeL es k ((lookupL es k).getD 0 + 1)
noncomputable def keysOk (es : List (List Int × Int)) : Prop := ∀ e ∈ es, lookupL es e.1 = some e.2
theorem map_other {k : List Int} {i : Int} : ∀ {r : List (List Int × Int)}, (∀ e ∈ r, e.1 ≠ k) → r.map (fun e => if e.1 = k then (e.1, i) else e) = r
  | [], _ => rfl
  | e :: r, h => by
    rw [List.map_cons, if_neg (h e List.mem_cons_self), map_other fun x hx => h x (List.mem_cons_of_mem _ hx)]
theorem nodup_tail {e : List Int × Int} {r : List (List Int × Int)} (h : (((e :: r).map (·.1))).Nodup) : (∀ x ∈ r, x.1 ≠ e.1) ∧ (r.map (·.1)).Nodup := by
  rw [List.map_cons, List.nodup_cons] at h
  exact ⟨fun x hx q => h.1 (q ▸ List.mem_map.mpr ⟨x, hx, rfl⟩), h.2⟩
theorem sum_map {k : List Int} {v i : Int} : ∀ {es : List (List Int × Int)}, (es.map (·.1)).Nodup → lookupL es k = some v → ((es.map fun e => if e.1 = k then (e.1, i) else e).map (·.2)).sum = (es.map (·.2)).sum - v + i
  | [], _, h => by simp [lookupL] at h
  | e :: r, hn, h => by
    obtain ⟨h1, h2⟩ := nodup_tail hn
    rw [lookupL_cons] at h
    by_cases q : e.1 = k
    · rw [if_pos q] at h; cases h
      rw [List.map_cons, if_pos q, map_other fun x hx => by rw [← q]; exact h1 x hx]
      simp; omega
    · rw [if_neg q] at h
      rw [List.map_cons, if_neg q, List.map_cons, List.sum_cons, sum_map h2 h, List.map_cons, List.sum_cons]
      omega
theorem keys_map {k : List Int} {i : Int} (es : List (List Int × Int)) : (es.map fun e => if e.1 = k then (e.1, i) else e).map (·.1) = es.map (·.1) := by
  rw [List.map_map]; exact List.map_congr_left fun e _ => by simp only [Function.comp]; split <;> rfl

structure Tally (es : List (List Int × Int)) (ks : List (List Int)) : Prop where
  look : ∀ k, (lookupL es k).getD 0 = ((ks.filter fun x => decide (x = k)).length : Nat)
  pos : ∀ k v, lookupL es k = some v → 0 < v
  nd : (es.map (·.1)).Nodup
  sum : (es.map (·.2)).sum = (ks.length : Nat)
theorem Tally.nil : Tally [] [] := ⟨fun k => rfl, fun k v h => by simp [lookupL] at h, List.nodup_nil, rfl⟩
theorem Tally.add {es : List (List Int × Int)} {ks : List (List Int)} (T : Tally es ks) (k : List Int) : Tally (addK es k) (ks ++ [k]) := by
  refine ⟨fun k' => ?_, fun k' v h => ?_, ?_, ?_⟩
  · unfold addK
    rw [lookup_store, List.filter_append, List.length_append]
    by_cases q : k' = k
    · subst q; rw [if_pos rfl]; simp [T.look]
    · rw [if_neg q, T.look]; simp [Ne.symm q]
  · unfold addK at h
    rw [lookup_store] at h
    by_cases q : k' = k
    · rw [if_pos q] at h; cases h; have := T.look k; omega
    · rw [if_neg q] at h; exact T.pos k' v h
  · unfold addK storeL
    by_cases h : (lookupL es k).isSome
    · rw [if_pos h, keys_map]; exact T.nd
    · rw [if_neg h, List.map_append, List.nodup_append]
      have hn : lookupL es k = Option.none := by simpa using h
      refine ⟨T.nd, by simp, fun a ha b hb => ?_⟩
      obtain ⟨e, he, rfl⟩ := List.mem_map.mp ha
      simp at hb; subst hb
      exact lookup_none hn e he
  · unfold addK storeL
    by_cases h : (lookupL es k).isSome
    · obtain ⟨v, hv⟩ := Option.isSome_iff_exists.mp h
      rw [if_pos h, sum_map T.nd hv, T.sum, hv]; simp; omega
    · have hn : lookupL es k = Option.none := by simpa using h
      rw [if_neg h, List.map_append, List.sum_append, T.sum, hn]; simp
end Mine

end PartML49

section PartML50
open PySem
set_option linter.unusedVariables false
set_option linter.unusedSimpArgs false
set_option maxRecDepth 100000
namespace Mine

theorem cols_length (m : Nat) : ∀ k, (cols m k).length = m ^ k
  | 0 => rfl
  | k + 1 => by
    have h : ∀ X : List (List Int), (X.flatMap fun row => rngM m fun t => row ++ [(t : Int)]).length = X.length * m := fun X => by
      induction X with
      | nil => simp
      | cons x r ih => rw [List.flatMap_cons, List.length_append, ih, rngM_len, List.length_cons, Nat.succ_mul]; omega
    rw [cols, h, cols_length m k, Nat.pow_succ]
theorem filter_lsum (X : List (List Int)) (g : List Int → List Int) (k : List Int) : ((X.map g).filter fun x => decide (x = k)).length = lsum X fun xs => ind (g xs = k) := by
  induction X with
  | nil => rfl
  | cons x r ih =>
    rw [List.map_cons, List.filter_cons]
    have e : lsum (x :: r) (fun xs => ind (g xs = k)) = ind (g x = k) + lsum r fun xs => ind (g xs = k) := by simp [lsum]
    rw [e, ← ih]
    by_cases h : g x = k
    · rw [if_pos (by simp [h]), ind_true h, List.length_cons]; omega
    · rw [if_neg (by simp [h]), ind_false h]; omega

theorem lookup_of_mem {es : List (List Int × Int)} (hn : (es.map (·.1)).Nodup) {e : List Int × Int} (he : e ∈ es) : lookupL es e.1 = some e.2 := by
  induction es with
  | nil => cases he
  | cons x r ih =>
    obtain ⟨h1, h2⟩ := nodup_tail hn
    rw [lookupL_cons]
    rcases List.mem_cons.mp he with rfl | he
    · rw [if_pos rfl]
    · rw [if_neg fun q => h1 e he q.symm]; exact ih h2 he

/-- what the law asks, said plainly -/
structure Facts (r w m : Nat) (S U : Nat → Nat → Int) (es : List (List Int × Int)) : Prop where
  look : ∀ β : Nat → Int, (∀ i < r, 0 ≤ β i ∧ β i < m) → (∀ i, r ≤ i → β i = 0) → (condB m r w S (fun i => mv U i β) → (lookupL es (rngM r β)).getD 0 = (nought m r w S : Nat)) ∧ (¬ condB m r w S (fun i => mv U i β) → (lookupL es (rngM r β)).getD 0 = 0)
  zero : lookupL es (rngM r fun _ => 0) = some ((nought m r w S : Nat) : Int)
  len : es.length * nought m r w S = m ^ w

theorem gOf_pos {m : Nat} (hm : 0 < m) (d : Int) : 0 < gOf m d := Nat.gcd_pos_of_pos_right _ hm
theorem foldl_pos : ∀ (l : List Nat) (a : Nat), 0 < a → (∀ x ∈ l, 0 < x) → 0 < l.foldl (· * ·) a
  | [], a, h, _ => h
  | x :: r, a, h, hl => foldl_pos r (a * x) (Nat.mul_pos h (hl x List.mem_cons_self)) fun y hy => hl y (List.mem_cons_of_mem _ hy)
theorem nought_pos {m r w : Nat} {S : Nat → Nat → Int} (hm : 0 < m) : 0 < nought m r w S := by
  unfold nought
  refine foldl_pos _ _ (Nat.pow_pos hm) fun x hx => ?_
  obtain ⟨i, _, rfl⟩ := List.mem_map.mp hx
  exact gOf_pos hm _

theorem facts {A : Nat → Nat → Int} {r w m : Nat} {M : Nat → Nat → Nat → Int} {es : List (List Int × Int)} (h2 : 2 ≤ m) (h6 : m ≤ 6) (hr : 1 ≤ r) (hr3 : r ≤ 3) (hw : w = 2 ∨ w = 3) (D : Done A r w M) (T : Tally es ((cols m w).map (img A r w m))) :
    Facts r w m (M 0) (M 1) es := by
  obtain ⟨K, hS⟩ := D
  have look : ∀ β : Nat → Int, (∀ i < r, 0 ≤ β i ∧ β i < m) → (∀ i, r ≤ i → β i = 0) → (condB m r w (M 0) (fun i => mv (M 1) i β) → (lookupL es (rngM r β)).getD 0 = (nought m r w (M 0) : Nat)) ∧ (¬ condB m r w (M 0) (fun i => mv (M 1) i β) → (lookupL es (rngM r β)).getD 0 = 0) := fun β hβ hz => by
    rw [T.look, filter_lsum, cols_cnt (by first | assumption | exact Nat.le_of_lt (by assumption) | exact Nat.lt_of_lt_of_le (by assumption) (by assumption) | exact Nat.lt_of_le_of_lt (by assumption) (by assumption) | exact Nat.le_trans (by assumption) (by decide) | exact Nat.lt_of_le_of_lt (by assumption) (by decide) | exact Nat.lt_of_lt_of_le (by assumption) (Nat.le_trans (by assumption) (by decide)) | exact Nat.ne_of_gt (by assumption) | exact Nat.ne_of_lt (by assumption) | exact i3a (by assumption) | exact i3b | omega) hw hβ, K m β hz]
    obtain ⟨a, b⟩ := cnt_diag (c := fun i => mv (M 1) i β) h2 h6 hr hr3 hw hS
    exact ⟨fun h => by rw [a h], fun h => by rw [b h]; rfl⟩
  have np := nought_pos (m := m) (r := r) (w := w) (S := M 0) (by first | assumption | exact Nat.le_of_lt (by assumption) | exact Nat.lt_of_lt_of_le (by assumption) (by assumption) | exact Nat.lt_of_le_of_lt (by assumption) (by assumption) | exact Nat.le_trans (by assumption) (by decide) | exact Nat.lt_of_le_of_lt (by assumption) (by decide) | exact Nat.lt_of_lt_of_le (by assumption) (Nat.le_trans (by assumption) (by decide)) | exact Nat.ne_of_gt (by assumption) | exact Nat.ne_of_lt (by assumption) | exact i3a (by assumption) | exact i3b | omega)
  refine ⟨look, ?_, ?_⟩
  · have h := (look (fun _ => 0) (fun i _ => ⟨by first | assumption | exact Nat.le_of_lt (by assumption) | exact Nat.lt_of_lt_of_le (by assumption) (by assumption) | exact Nat.lt_of_le_of_lt (by assumption) (by assumption) | exact Nat.le_trans (by assumption) (by decide) | exact Nat.lt_of_le_of_lt (by assumption) (by decide) | exact Nat.lt_of_lt_of_le (by assumption) (Nat.le_trans (by assumption) (by decide)) | exact Nat.ne_of_gt (by assumption) | exact Nat.ne_of_lt (by assumption) | exact i3a (by assumption) | exact i3b | omega, by first | assumption | exact Nat.le_of_lt (by assumption) | exact Nat.lt_of_lt_of_le (by assumption) (by assumption) | exact Nat.lt_of_le_of_lt (by assumption) (by assumption) | exact Nat.le_trans (by assumption) (by decide) | exact Nat.lt_of_le_of_lt (by assumption) (by decide) | exact Nat.lt_of_lt_of_le (by assumption) (Nat.le_trans (by assumption) (by decide)) | exact Nat.ne_of_gt (by assumption) | exact Nat.ne_of_lt (by assumption) | exact i3a (by assumption) | exact i3b | omega⟩) (fun _ _ => rfl)).1 ⟨fun i _ _ => by simp [mv], fun i _ _ => by simp [mv]⟩
    cases e : lookupL es (rngM r fun _ => 0) with
    | none => rw [e] at h; simp at h; omega
    | some v => rw [e] at h; simp at h; rw [h]
  · have all : ∀ e ∈ es, e.2 = ((nought m r w (M 0) : Nat) : Int) := fun e he => by
      have hl := lookup_of_mem T.nd he
      have hp := T.pos _ _ hl
      have hlen := T.look e.1
      rw [hl] at hlen
      simp only [Option.getD_some] at hlen
      have hne : ((cols m w).map (img A r w m)).filter (fun x => decide (x = e.1)) ≠ [] := fun q => by rw [q] at hlen; simp at hlen; omega
      obtain ⟨x, hx⟩ := List.exists_mem_of_ne_nil _ hne
      obtain ⟨hx1, hx2⟩ := List.mem_filter.mp hx
      obtain ⟨xs, _, hxs⟩ := List.mem_map.mp hx1
      have ex : x = e.1 := of_decide_eq_true hx2
      have key : e.1 = rngM r (fun i => if i < r then (rowSum w (A i) fun j => xs.getD j 0).fmod (m : Nat) else 0) := by
        rw [← ex, ← hxs]; exact rngM_congr fun i hi => by simp [hi]
      have L := look (fun i => if i < r then (rowSum w (A i) fun j => xs.getD j 0).fmod (m : Nat) else 0) (fun i hi => by
        simp only [hi, if_true]
        exact ⟨Int.fmod_nonneg_of_pos _ (by first | assumption | exact Nat.le_of_lt (by assumption) | exact Nat.lt_of_lt_of_le (by assumption) (by assumption) | exact Nat.lt_of_le_of_lt (by assumption) (by assumption) | exact Nat.le_trans (by assumption) (by decide) | exact Nat.lt_of_le_of_lt (by assumption) (by decide) | exact Nat.lt_of_lt_of_le (by assumption) (Nat.le_trans (by assumption) (by decide)) | exact Nat.ne_of_gt (by assumption) | exact Nat.ne_of_lt (by assumption) | exact i3a (by assumption) | exact i3b | omega), Int.fmod_lt_of_pos _ (by first | assumption | exact Nat.le_of_lt (by assumption) | exact Nat.lt_of_lt_of_le (by assumption) (by assumption) | exact Nat.lt_of_le_of_lt (by assumption) (by assumption) | exact Nat.le_trans (by assumption) (by decide) | exact Nat.lt_of_le_of_lt (by assumption) (by decide) | exact Nat.lt_of_lt_of_le (by assumption) (Nat.le_trans (by assumption) (by decide)) | exact Nat.ne_of_gt (by assumption) | exact Nat.ne_of_lt (by assumption) | exact i3a (by assumption) | exact i3b | omega)⟩) (fun i hi => by simp [Nat.not_lt.mpr hi])
      rw [← key, hl] at L
      by_cases q : condB m r w (M 0) (fun i => mv (M 1) i fun i => if i < r then (rowSum w (A i) fun j => xs.getD j 0).fmod (m : Nat) else 0)
      · exact L.1 q
      · have := L.2 q; simp at this; omega
    have s : (es.map (·.2)).sum = ((es.length * nought m r w (M 0) : Nat) : Int) := by
      have : es.map (·.2) = List.replicate es.length ((nought m r w (M 0) : Nat) : Int) := by
        rw [List.eq_replicate_iff]
        exact ⟨by simp, fun b hb => by obtain ⟨e, he, rfl⟩ := List.mem_map.mp hb; exact all e he⟩
      rw [this]; simp
    rw [T.sum, List.length_map, cols_length] at s
    exact (Int.ofNat.inj s).symm
end Mine

end PartML50

section PartML51
open PySem
set_option linter.unusedVariables false
set_option linter.unusedSimpArgs false
set_option linter.constructorNameAsVariable false
set_option maxRecDepth 100000
namespace Mine

/-- everything but the box is kept -/
noncomputable abbrev ExtB (bx lx : Nat) (μ μ' : Mu) : Prop := ∀ b o, b ≠ bx → b ≠ lx → μ b = some o → μ' b = some o
theorem ExtB.refl {bx lx : Nat} {μ : Mu} : ExtB bx lx μ μ := fun _ _ _ _ e => e
theorem ExtB.trans {bx lx : Nat} {μ μ' μ'' : Mu} (h : ExtB bx lx μ μ') (h' : ExtB bx lx μ' μ'') : ExtB bx lx μ μ'' := fun b o n1 n2 e => h' b o n1 n2 (h b o n1 n2 e)
theorem ExtB.alloc {bx lx : Nat} {μ : Mu} {c : Nat} (hc : μ c = Option.none) (o : O) : ExtB bx lx μ (upd μ c o) := fun b o' _ _ e => Ext.alloc (fun _ _ e => e) hc o _ _ e
theorem BoxIn.alloc {μ : Mu} {bx lx : Nat} (B : BoxIn μ bx lx) {c : Nat} (hc : μ c = Option.none) (o : O) : BoxIn (upd μ c o) bx lx := by
  obtain ⟨⟨k, ns, e1, e2, e3⟩, hne⟩ := B
  exact ⟨⟨k, ns, Ext.alloc (fun _ _ e => e) hc o _ _ e1, Ext.alloc (fun _ _ e => e) hc o _ _ e2, e3⟩, hne⟩
theorem BoxIn.apart {μ : Mu} {bx lx : Nat} (B : BoxIn μ bx lx) {c : Nat} (hc : μ c = Option.none) : c ≠ bx ∧ c ≠ lx := by
  obtain ⟨⟨k, ns, e1, e2, e3⟩, hne⟩ := B
  exact ⟨fun q => (by rw [← q, hc] at e1; cases e1), fun q => (by rw [← q, hc] at e2; cases e2)⟩
theorem BoxIn.upd {μ : Mu} {bx lx : Nat} (B : BoxIn μ bx lx) {c : Nat} (h1 : c ≠ bx) (h2 : c ≠ lx) (o : O) : BoxIn (Mine.upd μ c o) bx lx := by
  obtain ⟨⟨k, ns, e1, e2, e3⟩, hne⟩ := B
  exact ⟨⟨k, ns, (upd_ne _ _ h1.symm).trans e1, (upd_ne _ _ h2.symm).trans e2, e3⟩, hne⟩

section
variable {Φ : Phi} {ρ : Rho} {μ0 μ1 μ : Mu} {Q : QV} {QQ : QS}
theorem wE_slice {e : ME} {n : Int} (h : wpE Φ e ρ μ fun x μ₁ => ∃ p vs, 0 ≤ n ∧ n < 1000 ∧ x = .ref p ∧ (μ₁ p = some (.ro vs)) ∧ vs.length ≤ 1000 ∧ ∀ c, μ₁ c = Option.none → Q (.ref c) (upd μ₁ c (.list (vs.take n.toNat)))) : wpE Φ (.slice e n) ρ μ Q := h
theorem wE_toInt {e : ME} (h : wpE Φ e ρ μ fun x μ₁ => ∃ i, x = .int i ∧ Q (.int i) μ₁) : wpE Φ (.toInt e) ρ μ Q := h
theorem wS_append {o e : ME} (h : wpE Φ o ρ μ fun x μ₁ => ∃ p vs₀, x = .ref p ∧ μ₁ p = some (.list vs₀) ∧ wpE Φ e ρ μ₁ fun v μ₂ => ∃ vs, μ₂ p = some (.list vs) ∧ vs.length < sizeLine ∧ QQ .next ρ (upd μ₂ p (.list (vs ++ [v])))) : wpS Φ (.append o e) ρ μ QQ := h
theorem wE_dict (h : ∀ c, μ c = Option.none → Q (.ref c) (upd μ c (.dict []))) : wpE Φ .dict ρ μ Q := h

theorem wE_take {n bx lx k : Nat} {kk : Int} (e : kk = (k : Nat)) (B : BoxIn μ bx lx) (hb : ρ .box = some (.ref bx)) (hk : 0 < k) (h : ∀ (v : Nat) μ', v < k → BoxIn μ' bx lx → ExtB bx lx μ μ' → Q (.int (v : Nat)) μ') : wpE (Phk (n + 1)) (takeN kk) ρ μ Q := by
  subst e
  exact wE_call (wEs_cons (wE_var hb (wEs_cons (wE_int (wEs_nil (take_ok B hk h))))))

theorem box_ok {l : Nat} {ns : List Int} (hn : ns.length ≤ 63) (hl : μ l = some (.ro (ns.map V.int))) (hs : ρ .script = some (.ref l)) (h1 : ρ .one = Option.none)
    (h : ∀ bx lx μ', BoxIn μ' bx lx → Q (.ref bx) μ') : wpE Φ (.list (esL [.comp (.toInt (vr .one)) .one (.val (.slice (vr .script) 15)) .no, .int 0])) ρ μ Q := by
  refine wE_list (wEs_cons (wE_comp h1 (wI_val (wE_slice (wE_var hs ⟨l, _, by decide, by decide, rfl, hl, by rw [List.length_map]; omega, fun c hc => ⟨c, _, _, rfl, upd_self _ _ _, rfl, ?_, ?_⟩⟩)))))
  · rw [List.length_take, List.length_map, sizeLine_eq]; omega
  refine compP_pure (fun x => [x]) (upd_self _ _ _) _ _ (fun x hx K hK => ?_) ?_
  · obtain ⟨i, _, rfl⟩ := List.mem_map.mp (List.mem_of_mem_take hx)
    show wpE Φ (.toInt (vr .one)) (bnd ρ .one (.int i)) _ fun y μ₄ => K [y] μ₄
    exact wE_toInt (wE_var (v := .int i) (by first | rfl | simp [bnd]) ⟨i, rfl, hK⟩)
  · rw [List.nil_append, flat_sing, List.map_id']
    intro lx hlx
    refine wEs_cons (wE_int (wEs_nil ⟨by simp, fun bx hbx => ?_⟩))
    have hne : bx ≠ lx := fun q => by subst q; rw [upd_self] at hbx; cases hbx
    refine h bx lx _ ⟨⟨0, ns.take 15, upd_self _ _ _, (upd_ne _ _ hne.symm).trans ((upd_self _ _ _).trans ?_), ?_⟩, hne⟩
    · rw [List.map_take]; rfl
    · rw [List.length_take]; omega

theorem width_ok {n bx lx : Nat} (B : BoxIn μ bx lx) (hb : ρ .box = some (.ref bx)) (h : ∀ (w : Nat) μ', (w = 2 ∨ w = 3) → BoxIn μ' bx lx → QQ .next (bnd ρ .width (.int (w : Nat))) μ') :
    wpS (Phk (n + 1)) (.assign .width (.bin .sub (.int 3) (takeN 2))) ρ μ QQ := by
  refine wS_assign (wE_bin (wE_int (wE_take (k := 2) rfl B hb (by decide) fun v μ' hv B' _ => binP_sub ?_)))
  rw [show (3 : Int) - (v : Nat) = ((3 - v : Nat) : Int) by first | assumption | exact Nat.le_of_lt (by assumption) | exact Nat.lt_of_lt_of_le (by assumption) (by assumption) | exact Nat.lt_of_le_of_lt (by assumption) (by assumption) | exact Nat.le_trans (by assumption) (by decide) | exact Nat.lt_of_le_of_lt (by assumption) (by decide) | exact Nat.lt_of_lt_of_le (by assumption) (Nat.le_trans (by assumption) (by decide)) | exact Nat.ne_of_gt (by assumption) | exact Nat.ne_of_lt (by assumption) | exact i3a (by assumption) | exact i3b | omega]
  exact h _ _ (by first | assumption | exact Nat.le_of_lt (by assumption) | exact Nat.lt_of_lt_of_le (by assumption) (by assumption) | exact Nat.lt_of_le_of_lt (by assumption) (by assumption) | exact Nat.le_trans (by assumption) (by decide) | exact Nat.lt_of_le_of_lt (by assumption) (by decide) | exact Nat.lt_of_lt_of_le (by assumption) (Nat.le_trans (by assumption) (by decide)) | exact Nat.ne_of_gt (by assumption) | exact Nat.ne_of_lt (by assumption) | exact i3a (by assumption) | exact i3b | omega) B'
theorem m_ok {n bx lx w : Nat} (hw : w = 2 ∨ w = 3) (B : BoxIn μ bx lx) (hb : ρ .box = some (.ref bx)) (hwd : ρ .width = some (.int (w : Nat))) (h : ∀ (m : Nat) μ', 2 ≤ m → m ≤ 6 → (w = 3 → m ≤ 3) → BoxIn μ' bx lx → QQ .next (bnd ρ .m (.int (m : Nat))) μ') :
    wpS (Phk (n + 1)) (.assign .m (.ite (.cmp .eq (vr .width) (.int 2)) (.bin .sub (.int 6) (takeN 5)) (.bin .sub (.int 3) (takeN 2)))) ρ μ QQ := by
  refine wS_assign (wE_ite (wT_cmp (wE_var hwd (wE_int (cmp_eq ?_)))))
  rcases hw with rfl | rfl
  · rw [decide_eq_true (show (((2 : Nat) : Int) = 2) from rfl)]
    refine wE_bin (wE_int (wE_take (k := 5) rfl B hb (by decide) fun v μ' hv B' _ => binP_sub ?_))
    rw [show (6 : Int) - (v : Nat) = ((6 - v : Nat) : Int) by first | assumption | exact Nat.le_of_lt (by assumption) | exact Nat.lt_of_lt_of_le (by assumption) (by assumption) | exact Nat.lt_of_le_of_lt (by assumption) (by assumption) | exact Nat.le_trans (by assumption) (by decide) | exact Nat.lt_of_le_of_lt (by assumption) (by decide) | exact Nat.lt_of_lt_of_le (by assumption) (Nat.le_trans (by assumption) (by decide)) | exact Nat.ne_of_gt (by assumption) | exact Nat.ne_of_lt (by assumption) | exact i3a (by assumption) | exact i3b | omega]
    exact h _ _ (by first | assumption | exact Nat.le_of_lt (by assumption) | exact Nat.lt_of_lt_of_le (by assumption) (by assumption) | exact Nat.lt_of_le_of_lt (by assumption) (by assumption) | exact Nat.le_trans (by assumption) (by decide) | exact Nat.lt_of_le_of_lt (by assumption) (by decide) | exact Nat.lt_of_lt_of_le (by assumption) (Nat.le_trans (by assumption) (by decide)) | exact Nat.ne_of_gt (by assumption) | exact Nat.ne_of_lt (by assumption) | exact i3a (by assumption) | exact i3b | omega) (by first | assumption | exact Nat.le_of_lt (by assumption) | exact Nat.lt_of_lt_of_le (by assumption) (by assumption) | exact Nat.lt_of_le_of_lt (by assumption) (by assumption) | exact Nat.le_trans (by assumption) (by decide) | exact Nat.lt_of_le_of_lt (by assumption) (by decide) | exact Nat.lt_of_lt_of_le (by assumption) (Nat.le_trans (by assumption) (by decide)) | exact Nat.ne_of_gt (by assumption) | exact Nat.ne_of_lt (by assumption) | exact i3a (by assumption) | exact i3b | omega) (by first | assumption | exact Nat.le_of_lt (by assumption) | exact Nat.lt_of_lt_of_le (by assumption) (by assumption) | exact Nat.lt_of_le_of_lt (by assumption) (by assumption) | exact Nat.le_trans (by assumption) (by decide) | exact Nat.lt_of_le_of_lt (by assumption) (by decide) | exact Nat.lt_of_lt_of_le (by assumption) (Nat.le_trans (by assumption) (by decide)) | exact Nat.ne_of_gt (by assumption) | exact Nat.ne_of_lt (by assumption) | exact i3a (by assumption) | exact i3b | omega) B'
  · rw [decide_eq_false (show ¬ (((3 : Nat) : Int) = 2) by decide)]
    refine wE_bin (wE_int (wE_take (k := 2) rfl B hb (by decide) fun v μ' hv B' _ => binP_sub ?_))
    rw [show (3 : Int) - (v : Nat) = ((3 - v : Nat) : Int) by first | assumption | exact Nat.le_of_lt (by assumption) | exact Nat.lt_of_lt_of_le (by assumption) (by assumption) | exact Nat.lt_of_le_of_lt (by assumption) (by assumption) | exact Nat.le_trans (by assumption) (by decide) | exact Nat.lt_of_le_of_lt (by assumption) (by decide) | exact Nat.lt_of_lt_of_le (by assumption) (Nat.le_trans (by assumption) (by decide)) | exact Nat.ne_of_gt (by assumption) | exact Nat.ne_of_lt (by assumption) | exact i3a (by assumption) | exact i3b | omega]
    exact h _ _ (by first | assumption | exact Nat.le_of_lt (by assumption) | exact Nat.lt_of_lt_of_le (by assumption) (by assumption) | exact Nat.lt_of_le_of_lt (by assumption) (by assumption) | exact Nat.le_trans (by assumption) (by decide) | exact Nat.lt_of_le_of_lt (by assumption) (by decide) | exact Nat.lt_of_lt_of_le (by assumption) (Nat.le_trans (by assumption) (by decide)) | exact Nat.ne_of_gt (by assumption) | exact Nat.ne_of_lt (by assumption) | exact i3a (by assumption) | exact i3b | omega) (by first | assumption | exact Nat.le_of_lt (by assumption) | exact Nat.lt_of_lt_of_le (by assumption) (by assumption) | exact Nat.lt_of_le_of_lt (by assumption) (by assumption) | exact Nat.le_trans (by assumption) (by decide) | exact Nat.lt_of_le_of_lt (by assumption) (by decide) | exact Nat.lt_of_lt_of_le (by assumption) (Nat.le_trans (by assumption) (by decide)) | exact Nat.ne_of_gt (by assumption) | exact Nat.ne_of_lt (by assumption) | exact i3a (by assumption) | exact i3b | omega) (by first | assumption | exact Nat.le_of_lt (by assumption) | exact Nat.lt_of_lt_of_le (by assumption) (by assumption) | exact Nat.lt_of_le_of_lt (by assumption) (by assumption) | exact Nat.le_trans (by assumption) (by decide) | exact Nat.lt_of_le_of_lt (by assumption) (by decide) | exact Nat.lt_of_lt_of_le (by assumption) (Nat.le_trans (by assumption) (by decide)) | exact Nat.ne_of_gt (by assumption) | exact Nat.ne_of_lt (by assumption) | exact i3a (by assumption) | exact i3b | omega) B'
theorem many_ok {n bx lx : Nat} (B : BoxIn μ bx lx) (hb : ρ .box = some (.ref bx)) (h : ∀ (r pa : Nat) μ', 1 ≤ r → r ≤ 3 → BoxIn μ' bx lx → pa ≠ bx → pa ≠ lx → μ' pa = some (.list []) → QQ .next (bnd (bnd ρ .many (.int (r : Nat))) .a (.ref pa)) μ') :
    wpS (Phk (n + 1)) (.tup [.many, .a] (esL [.bin .add (.int 1) (takeN 3), .list .nil])) ρ μ QQ := by
  refine wS_tup (by decide) (wEs_cons (wE_bin (wE_int (wE_take (k := 3) rfl B hb (by decide) fun v μ' hv B' _ => binP_add ?_))))
  rw [show (1 : Int) + (v : Nat) = ((1 + v : Nat) : Int) by first | assumption | exact Nat.le_of_lt (by assumption) | exact Nat.lt_of_lt_of_le (by assumption) (by assumption) | exact Nat.lt_of_le_of_lt (by assumption) (by assumption) | exact Nat.le_trans (by assumption) (by decide) | exact Nat.lt_of_le_of_lt (by assumption) (by decide) | exact Nat.lt_of_lt_of_le (by assumption) (Nat.le_trans (by assumption) (by decide)) | exact Nat.ne_of_gt (by assumption) | exact Nat.ne_of_lt (by assumption) | exact i3a (by assumption) | exact i3b | omega]
  refine wEs_cons (wE_list (wEs_nil ⟨by simp, fun c hc => wEs_nil ⟨rfl, fun c2 hc2 => ?_⟩⟩))
  have B2 := B'.alloc hc (.list [])
  obtain ⟨h1, h2⟩ := B'.apart hc
  exact h _ c _ (by first | assumption | exact Nat.le_of_lt (by assumption) | exact Nat.lt_of_lt_of_le (by assumption) (by assumption) | exact Nat.lt_of_le_of_lt (by assumption) (by assumption) | exact Nat.le_trans (by assumption) (by decide) | exact Nat.lt_of_le_of_lt (by assumption) (by decide) | exact Nat.lt_of_lt_of_le (by assumption) (Nat.le_trans (by assumption) (by decide)) | exact Nat.ne_of_gt (by assumption) | exact Nat.ne_of_lt (by assumption) | exact i3a (by assumption) | exact i3b | omega) (by first | assumption | exact Nat.le_of_lt (by assumption) | exact Nat.lt_of_lt_of_le (by assumption) (by assumption) | exact Nat.lt_of_le_of_lt (by assumption) (by assumption) | exact Nat.le_trans (by assumption) (by decide) | exact Nat.lt_of_le_of_lt (by assumption) (by decide) | exact Nat.lt_of_lt_of_le (by assumption) (Nat.le_trans (by assumption) (by decide)) | exact Nat.ne_of_gt (by assumption) | exact Nat.ne_of_lt (by assumption) | exact i3a (by assumption) | exact i3b | omega) (B2.alloc hc2 _) h1 h2 (Ext.alloc (fun _ _ e => e) hc2 _ _ _ (upd_self _ _ _))

noncomputable def smallE (x : Int) : Prop := x.natAbs ≤ 9 ∧ x.natAbs ≠ 5 ∧ x.natAbs ≠ 7 ∧ x.natAbs ≠ 8
theorem small_all : ∀ f < 3, ∀ v < 7, (((1 + f : Nat) : Int) * (((v : Nat) : Int) - 3)).natAbs ≤ 9 ∧ (((1 + f : Nat) : Int) * (((v : Nat) : Int) - 3)).natAbs ≠ 5 ∧ (((1 + f : Nat) : Int) * (((v : Nat) : Int) - 3)).natAbs ≠ 7 ∧ (((1 + f : Nat) : Int) * (((v : Nat) : Int) - 3)).natAbs ≠ 8 := by decide
theorem small_mul {f v : Nat} (hf : f < 3) (hv : v < 7) : smallE ((1 + f : Nat) * ((v : Nat) - 3 : Int)) := small_all f hf v hv

/-- the matrix while it is built -/
structure Grow (μ : Mu) (bx lx pa k w : Nat) (rp : Nat → Nat) (A : Nat → Nat → Int) : Prop where
  mat : MatIn μ pa k w rp A
  na : pa ≠ bx ∧ pa ≠ lx
  nr : ∀ i < k, rp i ≠ bx ∧ rp i ≠ lx ∧ rp i ≠ pa
  sm : ∀ i < k, ∀ j < w, smallE (A i j)
theorem Grow.ext {μ μ' : Mu} {bx lx pa k w : Nat} {rp : Nat → Nat} {A : Nat → Nat → Int} (G : Grow μ bx lx pa k w rp A) (e : ExtB bx lx μ μ') : Grow μ' bx lx pa k w rp A :=
  ⟨⟨e _ _ G.na.1 G.na.2 G.mat.top, fun i hi => e _ _ (G.nr i hi).1 (G.nr i hi).2.1 (G.mat.row i hi)⟩, G.na, G.nr, G.sm⟩

theorem newRow_ok {n bx lx w f : Nat} (hw : w ≤ 3) (hf : f < 3) (B : BoxIn μ bx lx) (hb : ρ .box = some (.ref bx)) (hwd : ρ .width = some (.int (w : Nat))) (hfa : ρ .factor = some (.int (1 + f : Nat))) (hp : ρ .place = Option.none)
    (h : ∀ (c : Nat) (g : Nat → Int) μ1, BoxIn μ1 bx lx → ExtB bx lx μ μ1 → (∀ j < w, smallE (g j)) → μ1 c = Option.none → Q (.ref c) (upd μ1 c (.list (rngM w fun j => V.int (g j))))) :
    wpE (Phk (n + 1)) (.comp (.bin .mul (vr .factor) (.bin .sub (takeN 7) (.int 3))) .place (.range1 (vr .width)) .no) ρ μ Q := by
  refine wE_comp hp (wI_rng1 hwd (by first | assumption | exact Nat.le_of_lt (by assumption) | exact Nat.lt_of_lt_of_le (by assumption) (by assumption) | exact Nat.lt_of_le_of_lt (by assumption) (by assumption) | exact Nat.le_trans (by assumption) (by decide) | exact Nat.lt_of_le_of_lt (by assumption) (by decide) | exact Nat.lt_of_lt_of_le (by assumption) (Nat.le_trans (by assumption) (by decide)) | exact Nat.ne_of_gt (by assumption) | exact Nat.ne_of_lt (by assumption) | exact i3a (by assumption) | exact i3b | omega) ?_)
  refine ⟨by first | exact szM (by assumption) | (rw [rngM_len, sizeLine_eq]; omega), ?_⟩
  refine compP_inv (fun j acc μj => BoxIn μj bx lx ∧ ExtB bx lx μ μj ∧ ∃ g : Nat → Int, acc = rngM j (fun t => V.int (g t)) ∧ ∀ t < j, smallE (g t)) _ ⟨B, .refl, fun _ => 0, rfl, fun t ht => absurd ht (Nat.not_lt_zero _)⟩ (fun _ _ _ _ => trivial) ?_ ?_
  · rintro j v acc μj hv ⟨Bj, ej, g, rfl, hg⟩ K hK
    show wpE (Phk (n + 1)) (.bin .mul (vr .factor) (.bin .sub (takeN 7) (.int 3))) (bnd ρ .place v) μj fun y μ₄ => K [y] μ₄
    refine wE_bin (wE_var (v := .int (1 + f : Nat)) (by first | exact hfa | simp [bnd, hfa]) (wE_bin (wE_take (k := 7) rfl Bj (by first | exact hb | simp [bnd, hb]) (by decide) fun v μ' hv B' e' => wE_int (binP_sub ⟨mulOk_of (by first | assumption | exact Nat.le_of_lt (by assumption) | exact Nat.lt_of_lt_of_le (by assumption) (by assumption) | exact Nat.lt_of_le_of_lt (by assumption) (by assumption) | exact Nat.le_trans (by assumption) (by decide) | exact Nat.lt_of_le_of_lt (by assumption) (by decide) | exact Nat.lt_of_lt_of_le (by assumption) (Nat.le_trans (by assumption) (by decide)) | exact Nat.ne_of_gt (by assumption) | exact Nat.ne_of_lt (by assumption) | exact i3a (by assumption) | exact i3b | omega), ?_⟩))))
    refine hK _ _ ⟨B', ej.trans e', fun t => if t = j then (1 + f : Nat) * ((v : Nat) - 3 : Int) else g t, ?_, fun t ht => ?_⟩
    · rw [rngM_succ]
      congr 1
      · refine rngM_congr fun t ht => ?_
        simp [show t ≠ j by first | assumption | exact Nat.le_of_lt (by assumption) | exact Nat.lt_of_lt_of_le (by assumption) (by assumption) | exact Nat.lt_of_le_of_lt (by assumption) (by assumption) | exact Nat.le_trans (by assumption) (by decide) | exact Nat.lt_of_le_of_lt (by assumption) (by decide) | exact Nat.lt_of_lt_of_le (by assumption) (Nat.le_trans (by assumption) (by decide)) | exact Nat.ne_of_gt (by assumption) | exact Nat.ne_of_lt (by assumption) | exact i3a (by assumption) | exact i3b | omega]
      · simp
    · by_cases q : t = j
      · simp only [q, if_true]; exact small_mul hf hv
      · simp only [q, if_false]; exact hg t (by first | assumption | exact Nat.le_of_lt (by assumption) | exact Nat.lt_of_lt_of_le (by assumption) (by assumption) | exact Nat.lt_of_le_of_lt (by assumption) (by assumption) | exact Nat.le_trans (by assumption) (by decide) | exact Nat.lt_of_le_of_lt (by assumption) (by decide) | exact Nat.lt_of_lt_of_le (by assumption) (Nat.le_trans (by assumption) (by decide)) | exact Nat.ne_of_gt (by assumption) | exact Nat.ne_of_lt (by assumption) | exact i3a (by assumption) | exact i3b | omega)
  · rintro acc μj ⟨Bj, ej, g, rfl, hg⟩ c hc
    rw [rngM_len] at hg ⊢
    exact h c g μj Bj ej hg hc

/-- the loop that builds the matrix -/
theorem build_ok {n bx lx pa w r : Nat} (hw : w ≤ 3) (hr : r ≤ 3) (B : BoxIn μ bx lx) (hna : pa ≠ bx ∧ pa ≠ lx) (hpa : μ pa = some (.list [])) (hb : ρ .box = some (.ref bx)) (hwd : ρ .width = some (.int (w : Nat))) (hmany : ρ .many = some (.int (r : Nat)))
    (ha : ρ .a = some (.ref pa)) (hp : ρ .place = Option.none)
    (h : ∀ ρ' rp A μ', (∀ x, x ≠ .turn → x ≠ .factor → ρ' x = ρ x) → Grow μ' bx lx pa r w rp A → QQ .next ρ' μ') :
    wpS (Phk (n + 1)) (.for_ .turn (.range1 (vr .many)) (ssL [
    .assign .factor (.bin .add (.int 1) (takeN 3)),
    .append (vr .a) (.comp (.bin .mul (vr .factor) (.bin .sub (takeN 7) (.int 3))) .place (.range1 (vr .width)) .no)])) ρ μ QQ := by
  refine wS_for (wI_rng1 hmany (by first | assumption | exact Nat.le_of_lt (by assumption) | exact Nat.lt_of_lt_of_le (by assumption) (by assumption) | exact Nat.lt_of_le_of_lt (by assumption) (by assumption) | exact Nat.le_trans (by assumption) (by decide) | exact Nat.lt_of_le_of_lt (by assumption) (by decide) | exact Nat.lt_of_lt_of_le (by assumption) (Nat.le_trans (by assumption) (by decide)) | exact Nat.ne_of_gt (by assumption) | exact Nat.ne_of_lt (by assumption) | exact i3a (by assumption) | exact i3b | omega) ?_)
  refine forP_all (fun k ρk μk => (∀ x, x ≠ .turn → x ≠ .factor → ρk x = ρ x) ∧ BoxIn μk bx lx ∧ ∃ rp A, Grow μk bx lx pa k w rp A) _
    ⟨fun _ _ _ => rfl, B, fun _ => 0, fun _ _ => 0, ⟨hpa, fun i hi => absurd hi (Nat.not_lt_zero _)⟩, hna, fun i hi => absurd hi (Nat.not_lt_zero _), fun i hi => absurd hi (Nat.not_lt_zero _)⟩ (fun _ _ _ _ => trivial) ?_ ?_
  · rintro k v ρk μk hv ⟨er, Bk, rp, A, G⟩ K hn _
    have hk : k < r := by
      have := (List.getElem?_eq_some_iff.mp hv).1; rwa [rngM_len] at this
    refine wSs_cons (wS_assign (wE_bin (wE_int (wE_take (k := 3) rfl Bk (by first | exact (er _ (by decide) (by decide)).trans hb | exact (er _ (by decide) (by decide) (by decide)).trans hb | simp [bnd, er, hb]) (by decide) fun f μ1 hf B1 e1 => binP_add ?_))))
    rw [show (1 : Int) + (f : Nat) = ((1 + f : Nat) : Int) by first | assumption | exact Nat.le_of_lt (by assumption) | exact Nat.lt_of_lt_of_le (by assumption) (by assumption) | exact Nat.lt_of_le_of_lt (by assumption) (by assumption) | exact Nat.le_trans (by assumption) (by decide) | exact Nat.lt_of_le_of_lt (by assumption) (by decide) | exact Nat.lt_of_lt_of_le (by assumption) (Nat.le_trans (by assumption) (by decide)) | exact Nat.ne_of_gt (by assumption) | exact Nat.ne_of_lt (by assumption) | exact i3a (by assumption) | exact i3b | omega]
    have G1 := G.ext e1
    refine wSs_cons (wS_append (wE_var (v := .ref pa) (by first | exact (er _ (by decide) (by decide)).trans ha | exact (er _ (by decide) (by decide) (by decide)).trans ha | simp [bnd, er, ha]) ⟨pa, _, rfl, G1.mat.top, ?_⟩))
    refine newRow_ok hw hf B1 (by first | exact (er _ (by decide) (by decide)).trans hb | exact (er _ (by decide) (by decide) (by decide)).trans hb | simp [bnd, er, hb]) (by first | exact (er _ (by decide) (by decide)).trans hwd | exact (er _ (by decide) (by decide) (by decide)).trans hwd | simp [bnd, er, hwd]) (by first | rfl | simp [bnd]) (by first | exact (er _ (by decide) (by decide)).trans hp | exact (er _ (by decide) (by decide) (by decide)).trans hp | simp [bnd, er, hp]) fun c g μ2 B2 e2 hg hc => ?_
    have G2 := G1.ext e2
    have G3 := G2.ext (ExtB.alloc hc (.list (rngM w fun j => V.int (g j))))
    have B3 := B2.alloc hc (.list (rngM w fun j => V.int (g j)))
    have hcr : upd μ2 c (.list (rngM w fun j => V.int (g j))) c = some (.list (rngM w fun j => V.int (g j))) := upd_self _ _ _
    obtain ⟨c1, c2⟩ := B2.apart hc
    have c3 : c ≠ pa := fun q => by have := G2.mat.top; rw [← q, hc] at this; cases this
    have c4 : ∀ i < k, rp i ≠ c := fun i hi q => by have := G2.mat.row i hi; rw [q, hc] at this; cases this
    generalize upd μ2 c (.list (rngM w fun j => V.int (g j))) = μ3 at G3 B3 hcr
    refine ⟨_, G3.mat.top, by first | exact szM (by assumption) | (rw [rngM_len, sizeLine_eq]; omega), wSs_nil (hn _ _ ⟨fun x h1 h2 => by simp [bnd, h1, h2, er x h1 h2], B3.upd G3.na.1 G3.na.2 _, fun i => if i = k then c else rp i, fun i => if i = k then g else A i, ⟨?_, fun i hi => ?_⟩, G3.na, fun i hi => ?_, fun i hi j hj => ?_⟩)⟩
    · rw [upd_self, rngM_succ]
      congr 2
      congr 1
      · refine rngM_congr fun t ht => ?_
        simp [show t ≠ k by first | assumption | exact Nat.le_of_lt (by assumption) | exact Nat.lt_of_lt_of_le (by assumption) (by assumption) | exact Nat.lt_of_le_of_lt (by assumption) (by assumption) | exact Nat.le_trans (by assumption) (by decide) | exact Nat.lt_of_le_of_lt (by assumption) (by decide) | exact Nat.lt_of_lt_of_le (by assumption) (Nat.le_trans (by assumption) (by decide)) | exact Nat.ne_of_gt (by assumption) | exact Nat.ne_of_lt (by assumption) | exact i3a (by assumption) | exact i3b | omega]
      · simp
    · by_cases q : i = k
      · simp only [q, if_true]; exact (upd_ne _ _ c3).trans hcr
      · simp only [q, if_false]; exact (upd_ne _ _ (G3.nr i (by first | assumption | exact Nat.le_of_lt (by assumption) | exact Nat.lt_of_lt_of_le (by assumption) (by assumption) | exact Nat.lt_of_le_of_lt (by assumption) (by assumption) | exact Nat.le_trans (by assumption) (by decide) | exact Nat.lt_of_le_of_lt (by assumption) (by decide) | exact Nat.lt_of_lt_of_le (by assumption) (Nat.le_trans (by assumption) (by decide)) | exact Nat.ne_of_gt (by assumption) | exact Nat.ne_of_lt (by assumption) | exact i3a (by assumption) | exact i3b | omega)).2.2).trans (G3.mat.row i (by first | assumption | exact Nat.le_of_lt (by assumption) | exact Nat.lt_of_lt_of_le (by assumption) (by assumption) | exact Nat.lt_of_le_of_lt (by assumption) (by assumption) | exact Nat.le_trans (by assumption) (by decide) | exact Nat.lt_of_le_of_lt (by assumption) (by decide) | exact Nat.lt_of_lt_of_le (by assumption) (Nat.le_trans (by assumption) (by decide)) | exact Nat.ne_of_gt (by assumption) | exact Nat.ne_of_lt (by assumption) | exact i3a (by assumption) | exact i3b | omega))
    · by_cases q : i = k
      · simp only [q, if_true]; exact ⟨c1, c2, c3⟩
      · simp only [q, if_false]; exact G3.nr i (by first | assumption | exact Nat.le_of_lt (by assumption) | exact Nat.lt_of_lt_of_le (by assumption) (by assumption) | exact Nat.lt_of_le_of_lt (by assumption) (by assumption) | exact Nat.le_trans (by assumption) (by decide) | exact Nat.lt_of_le_of_lt (by assumption) (by decide) | exact Nat.lt_of_lt_of_le (by assumption) (Nat.le_trans (by assumption) (by decide)) | exact Nat.ne_of_gt (by assumption) | exact Nat.ne_of_lt (by assumption) | exact i3a (by assumption) | exact i3b | omega)
    · by_cases q : i = k
      · simp only [q, if_true]; exact hg j hj
      · simp only [q, if_false]; exact G3.sm i (by first | assumption | exact Nat.le_of_lt (by assumption) | exact Nat.lt_of_lt_of_le (by assumption) (by assumption) | exact Nat.lt_of_le_of_lt (by assumption) (by assumption) | exact Nat.le_trans (by assumption) (by decide) | exact Nat.lt_of_le_of_lt (by assumption) (by decide) | exact Nat.lt_of_lt_of_le (by assumption) (Nat.le_trans (by assumption) (by decide)) | exact Nat.ne_of_gt (by assumption) | exact Nat.ne_of_lt (by assumption) | exact i3a (by assumption) | exact i3b | omega) j hj
  · rintro ρk μk ⟨er, Bk, rp, A, G⟩
    rw [rngM_len] at G
    refine h _ rp A _ (fun x h1 h2 => by simp [unb, h1, er x h1 h2]) G
end
end Mine

end PartML51

section PartML52
open PySem
set_option linter.unusedVariables false
set_option linter.unusedSimpArgs false
set_option linter.constructorNameAsVariable false
set_option maxRecDepth 100000
namespace Mine

/-- the lists are kept -/
noncomputable abbrev ExtL (μ μ' : Mu) : Prop := ∀ b vs, μ b = some (.list vs) → μ' b = some (.list vs)
theorem ExtL.of {μ μ' : Mu} (e : Ext μ μ') : ExtL μ μ' := fun b vs h => e b _ h
theorem ExtL.trans {μ μ' μ'' : Mu} (h : ExtL μ μ') (h' : ExtL μ' μ'') : ExtL μ μ'' := fun b vs e => h' b vs (h b vs e)
theorem ExtL.dict {μ : Mu} {d : Nat} {es : List (List Int × Int)} (hd : μ d = some (.dict es)) (es' : List (List Int × Int)) : ExtL μ (upd μ d (.dict es')) := fun b vs e => by
  have : b ≠ d := fun q => by rw [q, hd] at e; cases e
  exact (upd_ne _ _ this).trans e
theorem MatIn.extL {μ μ' : Mu} {p r w : Nat} {rp : Nat → Nat} {A : Nat → Nat → Int} (H : MatIn μ p r w rp A) (e : ExtL μ μ') : MatIn μ' p r w rp A := ⟨e _ _ H.top, fun i hi => e _ _ (H.row i hi)⟩

theorem cols_entry {m : Nat} : ∀ {k : Nat} {x : List Int}, x ∈ cols m k → ∀ y ∈ x, 0 ≤ y ∧ y < m
  | 0, x, h, y, hy => by simp [cols] at h; subst h; cases hy
  | k + 1, x, h, y, hy => by
    simp only [cols, List.mem_flatMap] at h
    obtain ⟨row, h1, h2⟩ := h
    obtain ⟨t, ht, rfl⟩ := List.mem_map.mp h2
    have ht' := List.mem_range.mp ht
    rcases List.mem_append.mp hy with hy | hy
    · exact cols_entry h1 y hy
    · simp at hy; subst hy; omega
theorem cols_getD {m k : Nat} {x : List Int} (hm : 0 < m) (h : x ∈ cols m k) (j : Nat) : 0 ≤ x.getD j 0 ∧ x.getD j 0 < m := by
  by_cases hj : j < x.length
  · have e : x.getD j 0 = x[j] := by simp [hj]
    rw [e]; exact cols_entry h _ (List.getElem_mem hj)
  · have e : x.getD j 0 = 0 := by simp [List.getD, List.getElem?_eq_none (Nat.not_lt.mp hj)]
    rw [e]; omega
theorem Tally.le {es : List (List Int × Int)} {ks : List (List Int)} (T : Tally es ks) : es.length ≤ ks.length := by
  have hp : ∀ e ∈ es, 1 ≤ e.2 := fun e he => T.pos _ _ (lookup_of_mem T.nd he)
  have hs : ∀ l : List (List Int × Int), (∀ e ∈ l, 1 ≤ e.2) → (l.length : Int) ≤ (l.map (·.2)).sum := fun l => by
    induction l with
    | nil => intro _; simp
    | cons e r ih =>
      intro h
      have h1 := h e List.mem_cons_self
      have h2 := ih fun x hx => h x (List.mem_cons_of_mem _ hx)
      rw [List.map_cons, List.sum_cons, List.length_cons]; omega
  have := hs es hp
  rw [T.sum] at this; omega
theorem cols_le {m k : Nat} (hm : m ≤ 6) (hk : k ≤ 3) : (cols m k).length ≤ 1000 := by
  rw [cols_length]
  have h1 : m ^ k ≤ 6 ^ k := Nat.pow_le_pow_left hm k
  have h2 : 6 ^ k ≤ 6 ^ 3 := Nat.pow_le_pow_right (by decide) hk
  have h3 : 6 ^ 3 = 216 := by decide
  omega

section
variable {Φ : Phi} {ρ : Rho} {μ0 μ1 μ : Mu} {Q : QV} {QQ : QS}
theorem wE_get {d k i : ME} (h : wpE Φ d ρ μ fun x μ₁ => ∃ dd es, x = .ref dd ∧ μ₁ dd = some (.dict es) ∧ wpE Φ k ρ μ₁ fun y μ₂ => wpE Φ i ρ μ₂ fun z μ₃ => getP x y z μ₃ Q) : wpE Φ (.get d k i) ρ μ Q := h

theorem tally_ok {n pa d r w m : Nat} {rp : Nat → Nat} {A : Nat → Nat → Int} (H : MatIn μ pa r w rp A) (hd : μ d = some (.dict [])) (hr : r ≤ 3) (hw : w ≤ 3) (h2 : 2 ≤ m) (h6 : m ≤ 6)
    (ht : ρ .told = some (.ref d)) (hwd : ρ .width = some (.int (w : Nat))) (hm : ρ .m = some (.int (m : Nat))) (ha : ρ .a = some (.ref pa))
    (h : ∀ ρ' μ' es, (∀ x, x ≠ .column → x ≠ .right → ρ' x = ρ x) → MatIn μ' pa r w rp A → μ' d = some (.dict es) → Tally es ((cols m w).map (img A r w m)) → QQ .next ρ' μ') :
    wpS (Phk (n + 1)) (.for_ .column (.val (.call .lawColumns (esL [vr .width, vr .m]))) (ssL [
    .assign .right (.call .lawImage (esL [vr .a, vr .column, vr .m])),
    .store (vr .told) (vr .right) (.bin .add (.get (vr .told) (vr .right) (.int 0)) (.int 1))])) ρ μ QQ := by
  refine wS_for (wI_val (wE_call (wEs_cons (wE_var hwd (wEs_cons (wE_var hm (wEs_nil ?_)))))))
  refine columns_ok hw h6 (fun i hi => cols_le h6 (by first | assumption | exact Nat.le_of_lt (by assumption) | exact Nat.lt_of_lt_of_le (by assumption) (by assumption) | exact Nat.lt_of_le_of_lt (by assumption) (by assumption) | exact Nat.le_trans (by assumption) (by decide) | exact Nat.lt_of_le_of_lt (by assumption) (by decide) | exact Nat.lt_of_lt_of_le (by assumption) (Nat.le_trans (by assumption) (by decide)) | exact Nat.ne_of_gt (by assumption) | exact Nat.ne_of_lt (by assumption) | exact i3a (by assumption) | exact i3b | omega)) fun c rs μ1 e1 L => ⟨c, _, _, rfl, L.top, rfl, ?_⟩
  refine forP_all (fun k ρk μk => (∀ x, x ≠ .column → x ≠ .right → ρk x = ρ x) ∧ ExtL μ1 μk ∧ ∃ es, μk d = some (.dict es) ∧ Tally es (((cols m w).take k).map (img A r w m))) _
    ⟨fun _ _ _ => rfl, fun _ _ e => e, [], e1 _ _ hd, by rw [List.take_zero]; exact Tally.nil⟩ (fun k ρk μk J => J.2.1 _ _ L.top) ?_ ?_
  · rintro k v ρk μk hv ⟨er, ek, es, hdk, T⟩ K hn _
    rw [List.getElem?_map] at hv
    obtain ⟨q, hq, rfl⟩ := Option.map_eq_some_iff.mp hv
    have hk : k < (cols m w).length := by have := (List.getElem?_eq_some_iff.mp hq).1; rw [← L.len]; exact this
    obtain ⟨xs, hxs⟩ : ∃ x, (cols m w)[k]? = some x := ⟨_, List.getElem?_eq_getElem hk⟩
    have hmem := List.mem_of_getElem? hxs
    have hrow := ek _ _ (L.row _ (zip_get hq hxs))
    have hlen := cols_len_row hmem
    simp only at hrow
    rw [list_rng V.int 0 xs w hlen] at hrow
    have Hk := (H.ext e1).extL ek
    refine wSs_cons (wS_assign (wE_call (wEs_cons (wE_var (v := .ref pa) (by first | exact (er _ (by decide) (by decide)).trans ha | exact (er _ (by decide) (by decide) (by decide)).trans ha | simp [bnd, er, ha]) (wEs_cons (wE_var (v := .ref q) (by first | rfl | simp [bnd]) (wEs_cons (wE_var (v := .int (m : Nat)) (by first | exact (er _ (by decide) (by decide)).trans hm | exact (er _ (by decide) (by decide) (by decide)).trans hm | simp [bnd, er, hm]) (wEs_nil ?_)))))))))
    refine image_ok Hk hr hw hrow (fun j hj => ?_) (by first | assumption | exact Nat.le_of_lt (by assumption) | exact Nat.lt_of_lt_of_le (by assumption) (by assumption) | exact Nat.lt_of_le_of_lt (by assumption) (by assumption) | exact Nat.le_trans (by assumption) (by decide) | exact Nat.lt_of_le_of_lt (by assumption) (by decide) | exact Nat.lt_of_lt_of_le (by assumption) (Nat.le_trans (by assumption) (by decide)) | exact Nat.ne_of_gt (by assumption) | exact Nat.ne_of_lt (by assumption) | exact i3a (by assumption) | exact i3b | omega) fun t μ2 e2 ht2 => ?_
    · have := cols_getD (m := m) (by first | assumption | exact Nat.le_of_lt (by assumption) | exact Nat.lt_of_lt_of_le (by assumption) (by assumption) | exact Nat.lt_of_le_of_lt (by assumption) (by assumption) | exact Nat.le_trans (by assumption) (by decide) | exact Nat.lt_of_le_of_lt (by assumption) (by decide) | exact Nat.lt_of_lt_of_le (by assumption) (Nat.le_trans (by assumption) (by decide)) | exact Nat.ne_of_gt (by assumption) | exact Nat.ne_of_lt (by assumption) | exact i3a (by assumption) | exact i3b | omega) hmem j; omega
    have hd2 := e2 _ _ hdk
    have ht3 : μ2 t = some (.tuple ((img A r w m xs).map V.int)) := by rw [ht2]; simp [img, rngM, List.map_map, Function.comp_def]
    have htold : bnd (bnd ρk .column (.ref q)) .right (.ref t) .told = some (.ref d) := by first | exact (er _ (by decide) (by decide)).trans ht | exact (er _ (by decide) (by decide) (by decide)).trans ht | simp [bnd, er, ht]
    have hright : bnd (bnd ρk .column (.ref q)) .right (.ref t) .right = some (.ref t) := by first | rfl | simp [bnd]
    have hle : es.length ≤ sizeLine := by
      have h1 := T.le
      have h3 := cols_le (k := w) h6 hw
      rw [List.length_map, List.length_take] at h1
      rw [sizeLine_eq]; omega
    refine wSs_cons (wS_store (wE_bin (wE_get (wE_var htold ⟨d, es, rfl, hd2, wE_var hright (wE_int ⟨es, _, hd2, ht3, wE_int (binP_add (wE_var htold (wE_var hright ⟨es, _, hd2, ht3, hle, ?_⟩)))⟩)⟩))))
    refine wSs_nil (hn _ _ ⟨fun x h1 h2 => by simp [bnd, h1, h2, er x h1 h2], (ek.trans (.of e2)).trans (.dict hd2 _), _, upd_self _ _ _, ?_⟩)
    rw [List.take_add_one, hxs, Option.toList_some, List.map_append]
    exact T.add _
  · rintro ρk μk ⟨er, ek, es, hdk, T⟩
    rw [List.length_map, L.len, List.take_length] at T
    exact h _ _ es (fun x h1 h2 => by simp [unb, h1, er x h1 h2]) ((H.ext e1).extL ek) hdk T
end
end Mine

end PartML52

section PartML53
open PySem
set_option linter.unusedVariables false
set_option linter.unusedSimpArgs false
set_option linter.constructorNameAsVariable false
set_option maxRecDepth 100000
namespace Mine

theorem gOf_le {m : Nat} (hm : 0 < m) (d : Int) : gOf m d ≤ m := Nat.gcd_le_right _ hm
theorem foldl_succ (a : Nat) (k : Nat) (g : Nat → Nat) : (rngM (k + 1) g).foldl (· * ·) a = (rngM k g).foldl (· * ·) a * g k := by
  rw [rngM_succ, List.foldl_append]; rfl

section
variable {Φ : Phi} {ρ : Rho} {μ0 μ1 μ : Mu} {Q : QV} {QQ : QS}

theorem commons_ok {n p r w m : Nat} {rp : Nat → Nat} {S : Nat → Nat → Int} (H : MatIn μ p r w rp S) (hr : r ≤ 3) (hw : w ≤ 3) (hf : ρ .form = some (.ref p)) (hwd : ρ .width = some (.int (w : Nat))) (hm : ρ .m = some (.int (m : Nat))) (h1 : ρ .one = Option.none)
    (h : ∀ c μ', Ext μ μ' → μ' c = some (.list (rngM (Min.min r w) fun i => V.int (gOf m (S i i) : Nat))) → QQ .next (bnd ρ .commons (.ref c)) μ') :
    wpS (Phk (n + 1)) (.assign .commons (.comp (.call .lawCommon (esL [vr .one, vr .m])) .one (.val (.call .diagonal (esL [vr .form, vr .width]))) .no)) ρ μ QQ := by
  refine wS_assign (wE_comp h1 (wI_val (wE_call (wEs_cons (wE_var hf (wEs_cons (wE_var hwd (wEs_nil ?_))))))))
  refine diagonal_ok H hr hw fun c1 μ1 e1 hc1 => ⟨c1, _, _, rfl, hc1, rfl, by first | exact szM (by assumption) | (rw [rngM_len, sizeLine_eq]; omega), ?_⟩
  refine compP_inv (fun k acc μk => Ext μ1 μk ∧ acc = rngM k fun i => V.int (gOf m (S i i) : Nat)) _ ⟨fun _ _ e => e, rfl⟩ (fun k acc μk J => J.1 _ _ hc1) ?_ ?_
  · rintro k v acc μk hv ⟨e, rfl⟩ K hK
    obtain ⟨hk, rfl⟩ := rng_at hv
    show wpE (Phk (n + 1)) (.call .lawCommon (esL [vr .one, vr .m])) (bnd ρ .one (.int (S k k))) μk fun y μ₄ => K [y] μ₄
    refine wE_call (wEs_cons (wE_var (v := .int (S k k)) (by first | rfl | simp [bnd]) (wEs_cons (wE_var (v := .int (m : Nat)) (by first | exact hm | simp [bnd, hm]) (wEs_nil ?_)))))
    refine common_ok fun μ' e' => hK _ _ ⟨fun b o q => e' _ _ (e _ _ q), ?_⟩
    rw [rngM_succ]; rfl
  · rintro acc μk ⟨e, rfl⟩ c hc
    rw [rngM_len]
    exact h c _ (fun b o q => Ext.alloc (fun _ _ e => e) hc _ _ _ (e _ _ (e1 _ _ q))) (upd_self _ _ _)

theorem nought_ok {rest : MSs} {p k w m : Nat} {g : Nat → Nat} (hk : k ≤ w) (hw : w ≤ 3) (h2 : 2 ≤ m) (h6 : m ≤ 6) (hg : ∀ i < k, g i ≤ m) (hp : μ p = some (.list (rngM k fun i => V.int (g i : Nat)))) (hc : ρ .commons = some (.ref p)) (hwd : ρ .width = some (.int (w : Nat))) (hm : ρ .m = some (.int (m : Nat)))
    (h : ∀ ρ', (∀ x, x ≠ .nought → x ≠ .one → ρ' x = ρ x) → ρ' .one = Option.none → ρ' .nought = some (.int ((rngM k g).foldl (· * ·) (m ^ (w - k)) : Nat)) → wpSs Φ rest ρ' μ QQ) :
    wpSs Φ (.cons (.assign .nought (.bin .pow (vr .m) (.bin .sub (vr .width) (.len (vr .commons))))) (.cons (.for_ .one (.val (vr .commons)) (ssL [.assign .nought (.bin .mul (vr .nought) (vr .one))])) rest)) ρ μ QQ := by
  refine wSs_cons (wS_assign (wE_bin (wE_var hm (wE_bin (wE_var hwd (wE_len (wE_var hc ⟨p, rfl, .inl ⟨_, hp, by first | exact szM (by assumption) | (rw [rngM_len, sizeLine_eq]; omega), binP_sub ?_⟩⟩)))))))
  rw [rngM_len, show ((w : Nat) : Int) - (k : Nat) = ((w - k : Nat) : Int) by first | assumption | exact Nat.le_of_lt (by assumption) | exact Nat.lt_of_lt_of_le (by assumption) (by assumption) | exact Nat.lt_of_le_of_lt (by assumption) (by assumption) | exact Nat.le_trans (by assumption) (by decide) | exact Nat.lt_of_le_of_lt (by assumption) (by decide) | exact Nat.lt_of_lt_of_le (by assumption) (Nat.le_trans (by assumption) (by decide)) | exact Nat.ne_of_gt (by assumption) | exact Nat.ne_of_lt (by assumption) | exact i3a (by assumption) | exact i3b | omega]
  refine ⟨by first | assumption | exact Nat.le_of_lt (by assumption) | exact Nat.lt_of_lt_of_le (by assumption) (by assumption) | exact Nat.lt_of_le_of_lt (by assumption) (by assumption) | exact Nat.le_trans (by assumption) (by decide) | exact Nat.lt_of_le_of_lt (by assumption) (by decide) | exact Nat.lt_of_lt_of_le (by assumption) (Nat.le_trans (by assumption) (by decide)) | exact Nat.ne_of_gt (by assumption) | exact Nat.ne_of_lt (by assumption) | exact i3a (by assumption) | exact i3b | omega, by first | assumption | exact Nat.le_of_lt (by assumption) | exact Nat.lt_of_lt_of_le (by assumption) (by assumption) | exact Nat.lt_of_le_of_lt (by assumption) (by assumption) | exact Nat.le_trans (by assumption) (by decide) | exact Nat.lt_of_le_of_lt (by assumption) (by decide) | exact Nat.lt_of_lt_of_le (by assumption) (Nat.le_trans (by assumption) (by decide)) | exact Nat.ne_of_gt (by assumption) | exact Nat.ne_of_lt (by assumption) | exact i3a (by assumption) | exact i3b | omega, by first | assumption | exact Nat.le_of_lt (by assumption) | exact Nat.lt_of_lt_of_le (by assumption) (by assumption) | exact Nat.lt_of_le_of_lt (by assumption) (by assumption) | exact Nat.le_trans (by assumption) (by decide) | exact Nat.lt_of_le_of_lt (by assumption) (by decide) | exact Nat.lt_of_lt_of_le (by assumption) (Nat.le_trans (by assumption) (by decide)) | exact Nat.ne_of_gt (by assumption) | exact Nat.ne_of_lt (by assumption) | exact i3a (by assumption) | exact i3b | omega, by first | assumption | exact Nat.le_of_lt (by assumption) | exact Nat.lt_of_lt_of_le (by assumption) (by assumption) | exact Nat.lt_of_le_of_lt (by assumption) (by assumption) | exact Nat.le_trans (by assumption) (by decide) | exact Nat.lt_of_le_of_lt (by assumption) (by decide) | exact Nat.lt_of_lt_of_le (by assumption) (Nat.le_trans (by assumption) (by decide)) | exact Nat.ne_of_gt (by assumption) | exact Nat.ne_of_lt (by assumption) | exact i3a (by assumption) | exact i3b | omega, ?_⟩
  rw [Int.toNat_natCast, ← Int.natCast_pow]
  refine wSs_cons (wS_for (wI_val (wE_var (v := .ref p) (by first | exact hc | simp [bnd, hc]) ⟨p, _, _, rfl, hp, rfl, ?_⟩)))
  refine forP_all (fun i ρi μi => μi = μ ∧ (∀ x, x ≠ .nought → x ≠ .one → ρi x = ρ x) ∧ ρi .nought = some (.int ((rngM i g).foldl (· * ·) (m ^ (w - k)) : Nat))) _
    ⟨rfl, fun x h1 h2 => by first | exact h1 | simp [bnd, h1], by simp [bnd, rngM]⟩ (fun i ρi μi J => J.1 ▸ hp) ?_ ?_
  · rintro i v ρi μi hv ⟨rfl, er, hn⟩ K hnx _
    obtain ⟨hi, rfl⟩ := rng_at hv
    have := hg i hi
    refine wSs_cons (wS_assign (wE_bin (wE_var (v := .int ((rngM i g).foldl (· * ·) (m ^ (w - k)) : Nat)) (by first | exact hn | simp [bnd, hn]) (wE_var (v := .int (g i : Nat)) (by first | rfl | simp [bnd]) ⟨IntMulOk.of_right (intBits_le_64 (by omega) (by omega)), wSs_nil (hnx _ _ ⟨rfl, fun x h1 h2 => by simp [bnd, h1, h2, er x h1 h2], ?_⟩)⟩))))
    rw [foldl_succ, Int.natCast_mul]; simp [bnd]
  · rintro ρi μi ⟨rfl, er, hn⟩
    rw [rngM_len] at hn
    exact h _ (fun x h1 h2 => by simp [unb, h2, er x h1 h2]) (by first | rfl | simp [unb]) (by first | exact hn | simp [unb, hn])

theorem rep_zero (r : Nat) : (rngM r fun _ => (0 : Int)).map V.int = List.replicate r (V.int 0) := by
  rw [List.map_map, List.eq_replicate_iff]
  exact ⟨by simp, fun b hb => by obtain ⟨x, _, rfl⟩ := List.mem_map.mp hb; rfl⟩

/-- the two tests before the last loop: neither says False -/
theorem tests_ok {d r w m nt : Nat} {es : List (List Int × Int)} (h1 : 1 ≤ r) (hr : r ≤ 3) (hw : w ≤ 3) (h2 : 2 ≤ m) (h6 : m ≤ 6) (hd : μ d = some (.dict es)) (hes : es.length ≤ 1000) (hz : lookupL es (rngM r fun _ => 0) = some ((nt : Nat) : Int)) (hl : es.length * nt = m ^ w)
    (ht : ρ .told = some (.ref d)) (hmany : ρ .many = some (.int (r : Nat))) (hn : ρ .nought = some (.int (nt : Nat))) (hwd : ρ .width = some (.int (w : Nat))) (hm : ρ .m = some (.int (m : Nat)))
    (h : ∀ μ', Ext μ μ' → QQ .next ρ μ') :
    wpS Φ (.ite (.or (.cmp .ne (.sub (vr .told) (.bin .mul (.tuple (esL [.int 0])) (vr .many))) (vr .nought)) (.cmp .ne (.bin .mul (.len (vr .told)) (vr .nought)) (.bin .pow (vr .m) (vr .width)))) (ssL [.ret (.bool false)]) .nil) ρ μ QQ := by
  have two : ∀ t μ2, Ext μ μ2 → μ2 t = some (.tuple (List.replicate r (V.int 0))) → subP (.ref d) (.ref t) μ2 fun x μ₁ => wpE Φ (vr .nought) ρ μ₁ fun y μ₂ => cmpP .ne x y μ₂ fun t => if t then (if true then wpSs Φ (ssL [.ret (.bool false)]) ρ μ₂ QQ else wpSs Φ .nil ρ μ₂ QQ) else
      wpT Φ (.cmp .ne (.bin .mul (.len (vr .told)) (vr .nought)) (.bin .pow (vr .m) (vr .width))) ρ μ₂ fun t μ₁ => if t then wpSs Φ (ssL [.ret (.bool false)]) ρ μ₁ QQ else wpSs Φ .nil ρ μ₁ QQ := fun t μ2 e2 ht2 => by
    refine ⟨es, rngM r fun _ => 0, (nt : Nat), e2 _ _ hd, by rw [ht2, rep_zero], hz, wE_var hn (cmp_ne ?_)⟩
    rw [decide_eq_false (by simp)]
    refine wT_cmp (wE_bin (wE_len (wE_var ht ⟨d, rfl, .inr ⟨es, e2 _ _ hd, by rw [sizeLine_eq]; omega, wE_var hn ⟨mulOk_of (by first | assumption | exact Nat.le_of_lt (by assumption) | exact Nat.lt_of_lt_of_le (by assumption) (by assumption) | exact Nat.lt_of_le_of_lt (by assumption) (by assumption) | exact Nat.le_trans (by assumption) (by decide) | exact Nat.lt_of_le_of_lt (by assumption) (by decide) | exact Nat.lt_of_lt_of_le (by assumption) (Nat.le_trans (by assumption) (by decide)) | exact Nat.ne_of_gt (by assumption) | exact Nat.ne_of_lt (by assumption) | exact i3a (by assumption) | exact i3b | omega), wE_bin (wE_var hm (wE_var hwd ⟨by first | assumption | exact Nat.le_of_lt (by assumption) | exact Nat.lt_of_lt_of_le (by assumption) (by assumption) | exact Nat.lt_of_le_of_lt (by assumption) (by assumption) | exact Nat.le_trans (by assumption) (by decide) | exact Nat.lt_of_le_of_lt (by assumption) (by decide) | exact Nat.lt_of_lt_of_le (by assumption) (Nat.le_trans (by assumption) (by decide)) | exact Nat.ne_of_gt (by assumption) | exact Nat.ne_of_lt (by assumption) | exact i3a (by assumption) | exact i3b | omega, by first | assumption | exact Nat.le_of_lt (by assumption) | exact Nat.lt_of_lt_of_le (by assumption) (by assumption) | exact Nat.lt_of_le_of_lt (by assumption) (by assumption) | exact Nat.le_trans (by assumption) (by decide) | exact Nat.lt_of_le_of_lt (by assumption) (by decide) | exact Nat.lt_of_lt_of_le (by assumption) (Nat.le_trans (by assumption) (by decide)) | exact Nat.ne_of_gt (by assumption) | exact Nat.ne_of_lt (by assumption) | exact i3a (by assumption) | exact i3b | omega, by first | assumption | exact Nat.le_of_lt (by assumption) | exact Nat.lt_of_lt_of_le (by assumption) (by assumption) | exact Nat.lt_of_le_of_lt (by assumption) (by assumption) | exact Nat.le_trans (by assumption) (by decide) | exact Nat.lt_of_le_of_lt (by assumption) (by decide) | exact Nat.lt_of_lt_of_le (by assumption) (Nat.le_trans (by assumption) (by decide)) | exact Nat.ne_of_gt (by assumption) | exact Nat.ne_of_lt (by assumption) | exact i3a (by assumption) | exact i3b | omega, by first | assumption | exact Nat.le_of_lt (by assumption) | exact Nat.lt_of_lt_of_le (by assumption) (by assumption) | exact Nat.lt_of_le_of_lt (by assumption) (by assumption) | exact Nat.le_trans (by assumption) (by decide) | exact Nat.lt_of_le_of_lt (by assumption) (by decide) | exact Nat.lt_of_lt_of_le (by assumption) (Nat.le_trans (by assumption) (by decide)) | exact Nat.ne_of_gt (by assumption) | exact Nat.ne_of_lt (by assumption) | exact i3a (by assumption) | exact i3b | omega, cmp_ne ?_⟩))⟩⟩⟩)))
    rw [Int.toNat_natCast, ← Int.natCast_pow, ← Int.natCast_mul, hl, decide_eq_false (by simp)]
    refine iF ?_
    exact wSs_nil (Φ := Φ) (h _ e2)
  refine wS_ite (wT_or (wT_cmp (wE_sub (wE_var ht (wE_bin (wE_tuple (wEs_cons (wE_int (wEs_nil ⟨by simp, fun c hc => wE_var hmany ⟨.int 0, by first | assumption | exact Nat.le_of_lt (by assumption) | exact Nat.lt_of_lt_of_le (by assumption) (by assumption) | exact Nat.lt_of_le_of_lt (by assumption) (by assumption) | exact Nat.le_trans (by assumption) (by decide) | exact Nat.lt_of_le_of_lt (by assumption) (by decide) | exact Nat.lt_of_lt_of_le (by assumption) (Nat.le_trans (by assumption) (by decide)) | exact Nat.ne_of_gt (by assumption) | exact Nat.ne_of_lt (by assumption) | exact i3a (by assumption) | exact i3b | omega, by first | assumption | exact Nat.le_of_lt (by assumption) | exact Nat.lt_of_lt_of_le (by assumption) (by assumption) | exact Nat.lt_of_le_of_lt (by assumption) (by assumption) | exact Nat.le_trans (by assumption) (by decide) | exact Nat.lt_of_le_of_lt (by assumption) (by decide) | exact Nat.lt_of_lt_of_le (by assumption) (Nat.le_trans (by assumption) (by decide)) | exact Nat.ne_of_gt (by assumption) | exact Nat.ne_of_lt (by assumption) | exact i3a (by assumption) | exact i3b | omega, ?_⟩⟩)))))))))
  rw [Int.toNat_natCast]
  have ec : Ext μ (upd μ c (.tuple [.int 0])) := Ext.alloc (fun _ _ e => e) hc _
  by_cases q : r = 1
  · subst q
    exact .inr (.inr ⟨upd_self _ _ _, rfl, two c _ ec (upd_self _ _ _)⟩)
  · exact .inr (.inl ⟨upd_self _ _ _, by first | assumption | exact Nat.le_of_lt (by assumption) | exact Nat.lt_of_lt_of_le (by assumption) (by assumption) | exact Nat.lt_of_le_of_lt (by assumption) (by assumption) | exact Nat.le_trans (by assumption) (by decide) | exact Nat.lt_of_le_of_lt (by assumption) (by decide) | exact Nat.lt_of_lt_of_le (by assumption) (Nat.le_trans (by assumption) (by decide)) | exact Nat.ne_of_gt (by assumption) | exact Nat.ne_of_lt (by assumption) | exact i3a (by assumption) | exact i3b | omega, fun c2 hc2 => two c2 _ (ec.alloc hc2 _) (upd_self _ _ _)⟩)

noncomputable def comOf (m w : Nat) (S : Nat → Nat → Int) (i : Nat) : Nat := if i < w then gOf m (S i i) else m
theorem fill_eq {r w m : Nat} {S : Nat → Nat → Int} : (rngM (Min.min r w) fun i => V.int (gOf m (S i i) : Nat)) ++ List.replicate (r - Min.min r w) (V.int (m : Nat)) = rngM r fun i => V.int (comOf m w S i : Nat) := by
  apply List.ext_getElem?
  intro i
  rw [List.getElem?_append, rngM_len, List.getElem?_replicate]
  by_cases hi : i < r
  · rw [rngM_get r _ _ hi]
    by_cases hj : i < w
    · rw [if_pos (Nat.lt_min.mpr ⟨hi, hj⟩), rngM_get _ _ _ (Nat.lt_min.mpr ⟨hi, hj⟩)]; simp [comOf, hj]
    · have hm : Min.min r w ≤ i := Nat.le_trans (Nat.min_le_right _ _) (Nat.not_lt.mp hj)
      rw [if_neg (Nat.not_lt.mpr hm), if_pos (Nat.sub_lt_sub_right hm hi)]; simp [comOf, hj]
  · have hr := Nat.not_lt.mp hi
    rw [if_neg (Nat.not_lt.mpr (Nat.le_trans (Nat.min_le_left _ _) hr)), if_neg (Nat.not_lt.mpr (Nat.sub_le_sub_right hr _))]; simp [rngM, hi]
/-- commons + [m] * (many - len(commons)) -/
theorem fill_ok {p r w m : Nat} {S : Nat → Nat → Int} (hr : r ≤ 3) (hp : μ p = some (.list (rngM (Min.min r w) fun i => V.int (gOf m (S i i) : Nat)))) (hc : ρ .commons = some (.ref p)) (hmany : ρ .many = some (.int (r : Nat))) (hm : ρ .m = some (.int (m : Nat)))
    (h : ∀ c μ', Ext μ μ' → μ' c = some (.list (rngM r fun i => V.int (comOf m w S i : Nat))) → QQ .next (bnd ρ .commons (.ref c)) μ') :
    wpS Φ (.assign .commons (.bin .add (vr .commons) (.bin .mul (.list (esL [vr .m])) (.bin .sub (vr .many) (.len (vr .commons)))))) ρ μ QQ := by
  refine wS_assign (wE_bin (wE_var hc (wE_bin (wE_list (wEs_cons (wE_var hm (wEs_nil ⟨by simp, fun c hcn => ?_⟩)))))))
  have ec : Ext μ (upd μ c (.list [.int (m : Nat)])) := Ext.alloc (fun _ _ e => e) hcn _
  refine wE_bin (wE_var hmany (wE_len (wE_var hc ⟨p, rfl, .inl ⟨_, ec _ _ hp, szM (Nat.le_trans (Nat.min_le_left _ _) hr), binP_sub ?_⟩⟩)))
  rw [rngM_len, ← Int.ofNat_sub (Nat.min_le_left r w)]
  have hk : r - Min.min r w ≤ 3 := Nat.le_trans (Nat.sub_le _ _) hr
  have hk2 : Min.min r w ≤ 3 := Nat.le_trans (Nat.min_le_left _ _) hr
  refine ⟨.int (m : Nat), Int.natCast_nonneg _, Int.ofNat_le.mpr (Nat.le_trans hk (by decide)), .inl ⟨upd_self _ _ _, fun c2 hc2 => ?_⟩⟩
  rw [Int.toNat_natCast]
  refine ⟨_, _, (ec.alloc hc2 _) _ _ hp, upd_self _ _ _, by rw [rngM_len, List.length_replicate, sizeLine_eq]; exact Nat.le_trans (Nat.add_le_add hk2 hk) (by decide), fun c3 hc3 => ?_⟩
  exact h c3 _ ((ec.alloc hc2 _).alloc hc3 _) (by rw [upd_self, fill_eq])
end
end Mine

end PartML53

section PartML54
open PySem
set_option linter.unusedVariables false
set_option linter.unusedSimpArgs false
set_option linter.constructorNameAsVariable false
set_option maxRecDepth 100000
namespace Mine

theorem k4all : ∀ k, k ≤ 3 → k = 0 ∨ k = 1 ∨ k = 2 ∨ k = 3 := by decide
theorem rowSum_mv {r i : Nat} (hr : r ≤ 3) {U : Nat → Nat → Int} {β : Nat → Int} (hz : ∀ j, r ≤ j → β j = 0) : rowSum r (U i) β = mv U i β := by
  rcases (k4all r hr) with rfl | rfl | rfl | rfl
  · simp [rowSum, rngM, mv, hz 0 (by first | assumption | exact Nat.le_of_lt (by assumption) | exact Nat.lt_of_lt_of_le (by assumption) (by assumption) | exact Nat.lt_of_le_of_lt (by assumption) (by assumption) | exact Nat.le_trans (by assumption) (by decide) | exact Nat.lt_of_le_of_lt (by assumption) (by decide) | exact Nat.lt_of_lt_of_le (by assumption) (Nat.le_trans (by assumption) (by decide)) | exact Nat.ne_of_gt (by assumption) | exact Nat.ne_of_lt (by assumption) | exact i3a (by assumption) | exact i3b | omega), hz 1 (by first | assumption | exact Nat.le_of_lt (by assumption) | exact Nat.lt_of_lt_of_le (by assumption) (by assumption) | exact Nat.lt_of_le_of_lt (by assumption) (by assumption) | exact Nat.le_trans (by assumption) (by decide) | exact Nat.lt_of_le_of_lt (by assumption) (by decide) | exact Nat.lt_of_lt_of_le (by assumption) (Nat.le_trans (by assumption) (by decide)) | exact Nat.ne_of_gt (by assumption) | exact Nat.ne_of_lt (by assumption) | exact i3a (by assumption) | exact i3b | omega), hz 2 (by first | assumption | exact Nat.le_of_lt (by assumption) | exact Nat.lt_of_lt_of_le (by assumption) (by assumption) | exact Nat.lt_of_le_of_lt (by assumption) (by assumption) | exact Nat.le_trans (by assumption) (by decide) | exact Nat.lt_of_le_of_lt (by assumption) (by decide) | exact Nat.lt_of_lt_of_le (by assumption) (Nat.le_trans (by assumption) (by decide)) | exact Nat.ne_of_gt (by assumption) | exact Nat.ne_of_lt (by assumption) | exact i3a (by assumption) | exact i3b | omega)]
  · simp [rowSum, rngM, mv, List.range_succ, hz 1 (by first | assumption | exact Nat.le_of_lt (by assumption) | exact Nat.lt_of_lt_of_le (by assumption) (by assumption) | exact Nat.lt_of_le_of_lt (by assumption) (by assumption) | exact Nat.le_trans (by assumption) (by decide) | exact Nat.lt_of_le_of_lt (by assumption) (by decide) | exact Nat.lt_of_lt_of_le (by assumption) (Nat.le_trans (by assumption) (by decide)) | exact Nat.ne_of_gt (by assumption) | exact Nat.ne_of_lt (by assumption) | exact i3a (by assumption) | exact i3b | omega), hz 2 (by first | assumption | exact Nat.le_of_lt (by assumption) | exact Nat.lt_of_lt_of_le (by assumption) (by assumption) | exact Nat.lt_of_le_of_lt (by assumption) (by assumption) | exact Nat.le_trans (by assumption) (by decide) | exact Nat.lt_of_le_of_lt (by assumption) (by decide) | exact Nat.lt_of_lt_of_le (by assumption) (Nat.le_trans (by assumption) (by decide)) | exact Nat.ne_of_gt (by assumption) | exact Nat.ne_of_lt (by assumption) | exact i3a (by assumption) | exact i3b | omega)]
  · simp [rowSum, rngM, mv, List.range_succ, hz 2 (by first | assumption | exact Nat.le_of_lt (by assumption) | exact Nat.lt_of_lt_of_le (by assumption) (by assumption) | exact Nat.lt_of_le_of_lt (by assumption) (by assumption) | exact Nat.le_trans (by assumption) (by decide) | exact Nat.lt_of_le_of_lt (by assumption) (by decide) | exact Nat.lt_of_lt_of_le (by assumption) (Nat.le_trans (by assumption) (by decide)) | exact Nat.ne_of_gt (by assumption) | exact Nat.ne_of_lt (by assumption) | exact i3a (by assumption) | exact i3b | omega)]
  · simp [rowSum, rngM, mv, List.range_succ]; omega
theorem fmod_zero_iff {g m : Nat} {x : Int} (hgm : g ∣ m) : (x.fmod (m : Nat)).fmod (g : Nat) = 0 ↔ (g : Int) ∣ x := by
  rw [Int.fmod_eq_emod_of_nonneg _ (Int.natCast_nonneg m), Int.fmod_eq_emod_of_nonneg _ (Int.natCast_nonneg g), Int.emod_emod_of_dvd x (Int.natCast_dvd_natCast.mpr hgm)]
  exact ⟨Int.dvd_of_emod_eq_zero, Int.emod_eq_zero_of_dvd⟩
theorem comOf_dvd (m w : Nat) (S : Nat → Nat → Int) (i : Nat) : comOf m w S i ∣ m := by
  unfold comOf; split
  · exact Nat.gcd_dvd_right _ _
  · exact Nat.dvd_refl _
theorem comOf_pos {m w : Nat} {S : Nat → Nat → Int} (hm : 0 < m) (i : Nat) : 0 < comOf m w S i := Nat.pos_of_dvd_of_pos (comOf_dvd m w S i) hm
theorem condB_iff {m r w : Nat} {S U : Nat → Nat → Int} {β : Nat → Int} (hr : r ≤ 3) (hz : ∀ j, r ≤ j → β j = 0) :
    (∀ i < r, ((rowSum r (U i) β).fmod (m : Nat)).fmod (comOf m w S i : Nat) = 0) ↔ condB m r w S (fun i => mv U i β) := by
  constructor
  · intro h
    refine ⟨fun i h1 h2 => ?_, fun i h1 h2 => ?_⟩
    · have := (fmod_zero_iff (comOf_dvd m w S i)).mp (h i h1)
      rw [rowSum_mv hr hz, comOf, if_pos h2] at this; exact this
    · have := (fmod_zero_iff (comOf_dvd m w S i)).mp (h i h2)
      rw [rowSum_mv hr hz, comOf, if_neg (Nat.not_lt.mpr h1)] at this; exact this
  · rintro ⟨h1, h2⟩ i hi
    refine (fmod_zero_iff (comOf_dvd m w S i)).mpr ?_
    rw [rowSum_mv hr hz, comOf]
    split
    · exact h1 i hi (by assumption)
    · exact h2 i (by first | assumption | exact Nat.le_of_lt (by assumption) | exact Nat.lt_of_lt_of_le (by assumption) (by assumption) | exact Nat.lt_of_le_of_lt (by assumption) (by assumption) | exact Nat.le_trans (by assumption) (by decide) | exact Nat.lt_of_le_of_lt (by assumption) (by decide) | exact Nat.lt_of_lt_of_le (by assumption) (Nat.le_trans (by assumption) (by decide)) | exact Nat.ne_of_gt (by assumption) | exact Nat.ne_of_lt (by assumption) | exact i3a (by assumption) | exact i3b | omega) hi

section
variable {Φ : Phi} {ρ : Rho} {μ0 μ1 μ : Mu} {Q : QV} {QQ : QS}

theorem due_list {t q r : Nat} {f : Nat → Int} {g : Nat → Nat} (hr : r ≤ 3) (h1 : ρ .at_ = Option.none) (h2 : ρ .one = Option.none) (ht : μ t = some (.tuple (rngM r fun i => V.int (f i)))) (hq : μ q = some (.list (rngM r fun i => V.int (g i : Nat)))) (hg : ∀ i < r, 0 < g i)
    (hv : ρ .turned = some (.ref t)) (hc : ρ .commons = some (.ref q))
    (h : ∀ c (ns : List Int), (ns = [] ↔ ∀ i < r, (f i).fmod (g i : Nat) = 0) → μ c = Option.none → Q (.ref c) (upd μ c (.list (ns.map V.int)))) :
    wpE Φ (.compE (.int 1) .at_ .one (vr .turned) (.yes (.cmp .ne (.bin .mod (vr .one) (.sub (vr .commons) (vr .at_))) (.int 0)))) ρ μ Q := by
  refine ⟨h1, h2, wE_var hv ⟨t, _, _, rfl, ht, rfl, by first | exact szM (by assumption) | (rw [rngM_len, sizeLine_eq]; omega), ?_⟩⟩
  refine compP_pure (fun x => if (fun x : V × Nat => !decide ((f x.2).fmod (g x.2 : Nat) = 0)) x then [V.int 1] else []) ht _ _ (fun x hx K hK => ?_) ?_
  · obtain ⟨j, hj, rfl⟩ := row_items hx
    show wpT Φ (.cmp .ne (.bin .mod (vr .one) (.sub (vr .commons) (vr .at_))) (.int 0)) (bnd (bnd ρ .at_ (.int (j : Nat))) .one (.int (f j))) μ _
    have := hg j hj
    refine wT_cmp (wE_bin (wE_var (v := .int (f j)) (by first | rfl | simp [bnd]) (wE_sub (wE_var (v := .ref q) (by first | exact hc | simp [bnd, hc]) (wE_var (v := .int (j : Nat)) (by first | rfl | simp [bnd]) (subP_list hq (by first | assumption | exact Nat.le_of_lt (by assumption) | exact Nat.lt_of_lt_of_le (by assumption) (by assumption) | exact Nat.lt_of_le_of_lt (by assumption) (by assumption) | exact Nat.le_trans (by assumption) (by decide) | exact Nat.lt_of_le_of_lt (by assumption) (by decide) | exact Nat.lt_of_lt_of_le (by assumption) (Nat.le_trans (by assumption) (by decide)) | exact Nat.ne_of_gt (by assumption) | exact Nat.ne_of_lt (by assumption) | exact i3a (by assumption) | exact i3b | omega) (rngM_get _ _ _ hj) ⟨by first | assumption | exact Nat.le_of_lt (by assumption) | exact Nat.lt_of_lt_of_le (by assumption) (by assumption) | exact Nat.lt_of_le_of_lt (by assumption) (by assumption) | exact Nat.le_trans (by assumption) (by decide) | exact Nat.lt_of_le_of_lt (by assumption) (by decide) | exact Nat.lt_of_lt_of_le (by assumption) (Nat.le_trans (by assumption) (by decide)) | exact Nat.ne_of_gt (by assumption) | exact Nat.ne_of_lt (by assumption) | exact i3a (by assumption) | exact i3b | omega, wE_int (cmp_ne ?_)⟩))))))
    simp only at hK
    by_cases hz : (f j).fmod (g j : Nat) = 0
    · simp only [hz, decide_true, Bool.not_true, Bool.false_eq_true, if_false] at hK
      simp only [hz, ne_eq, not_true_eq_false, decide_false, Bool.false_eq_true, if_false]
      exact hK
    · simp only [hz, decide_false, Bool.not_false, if_true] at hK
      simp only [hz, ne_eq, not_false_eq_true, decide_true, if_true]
      exact wE_int hK
  · rw [List.nil_append, flat_if, ones_int]
    intro c hcn
    refine h c _ ?_ hcn
    rw [List.replicate_eq_nil_iff, List.length_eq_zero_iff, List.filter_eq_nil_iff, zipIdx_rng]
    constructor
    · intro H i hi
      have := H _ (List.mem_map.mpr ⟨i, List.mem_range.mpr hi, rfl⟩)
      simpa using this
    · intro H x hx
      obtain ⟨i, hi, rfl⟩ := List.mem_map.mp hx
      simp [H i (List.mem_range.mp hi)]

/-- the last loop -/
theorem last_ok {n d pu q r w m nt : Nat} {ru : Nat → Nat} {S U : Nat → Nat → Int} {es : List (List Int × Int)} (hr : r ≤ 3) (h2 : 2 ≤ m) (h6 : m ≤ 6) (H : MatIn μ pu r r ru U) (hd : μ d = some (.dict es)) (hq : μ q = some (.list (rngM r fun i => V.int (comOf m w S i : Nat))))
    (look : ∀ β : Nat → Int, (∀ i < r, 0 ≤ β i ∧ β i < m) → (∀ i, r ≤ i → β i = 0) → (condB m r w S (fun i => mv U i β) → (lookupL es (rngM r β)).getD 0 = (nt : Nat)) ∧ (¬ condB m r w S (fun i => mv U i β) → (lookupL es (rngM r β)).getD 0 = 0))
    (ht : ρ .told = some (.ref d)) (hch : ρ .changes = some (.ref pu)) (hc : ρ .commons = some (.ref q)) (hmany : ρ .many = some (.int (r : Nat))) (hn : ρ .nought = some (.int (nt : Nat))) (hm : ρ .m = some (.int (m : Nat))) (h1 : ρ .at_ = Option.none) (h3 : ρ .one = Option.none)
    (h : ∀ ρ' μ', QQ .next ρ' μ') :
    wpS (Phk (n + 1)) (.for_ .right (.val (.call .lawColumns (esL [vr .many, vr .m]))) (ssL [
    .assign .turned (.call .lawImage (esL [vr .changes, vr .right, vr .m])),
    .assign .due (.ite (.cmp .eq (.compE (.int 1) .at_ .one (vr .turned) (.yes (.cmp .ne (.bin .mod (vr .one) (.sub (vr .commons) (vr .at_))) (.int 0)))) (.list .nil)) (vr .nought) (.int 0)),
    .ite (.cmp .ne (.get (vr .told) (.toTuple (vr .right)) (.int 0)) (vr .due)) (ssL [.ret (.bool false)]) .nil])) ρ μ QQ := by
  refine wS_for (wI_val (wE_call (wEs_cons (wE_var hmany (wEs_cons (wE_var hm (wEs_nil ?_)))))))
  refine columns_ok hr h6 (fun i hi => cols_le h6 (by first | assumption | exact Nat.le_of_lt (by assumption) | exact Nat.lt_of_lt_of_le (by assumption) (by assumption) | exact Nat.lt_of_le_of_lt (by assumption) (by assumption) | exact Nat.le_trans (by assumption) (by decide) | exact Nat.lt_of_le_of_lt (by assumption) (by decide) | exact Nat.lt_of_lt_of_le (by assumption) (Nat.le_trans (by assumption) (by decide)) | exact Nat.ne_of_gt (by assumption) | exact Nat.ne_of_lt (by assumption) | exact i3a (by assumption) | exact i3b | omega)) fun c rs μ1 e1 L => ⟨c, _, _, rfl, L.top, rfl, ?_⟩
  refine forP_all (fun k ρk μk => (∀ x, x ≠ .right → x ≠ .turned → x ≠ .due → ρk x = ρ x) ∧ Ext μ1 μk) _ ⟨fun _ _ _ _ => rfl, fun _ _ e => e⟩ (fun k ρk μk J => J.2 _ _ L.top) ?_ (fun ρk μk _ => h _ _)
  rintro k v ρk μk hv ⟨er, ek⟩ K hnx _
  rw [List.getElem?_map] at hv
  obtain ⟨p, hp, rfl⟩ := Option.map_eq_some_iff.mp hv
  have hk : k < (cols m r).length := by have := (List.getElem?_eq_some_iff.mp hp).1; rw [← L.len]; exact this
  obtain ⟨xs, hxs⟩ : ∃ x, (cols m r)[k]? = some x := ⟨_, List.getElem?_eq_getElem hk⟩
  have hmem := List.mem_of_getElem? hxs
  have hlen := cols_len_row hmem
  have hrow0 : μk p = some (.list (xs.map V.int)) := ek _ _ (L.row _ (zip_get hp hxs))
  have hrow := hrow0
  rw [list_rng V.int 0 xs r hlen] at hrow
  have e : Ext μ μk := fun b o q => ek _ _ (e1 _ _ q)
  have hb : ∀ i < r, 0 ≤ xs.getD i 0 ∧ xs.getD i 0 < m := fun i _ => cols_getD (by first | assumption | exact Nat.le_of_lt (by assumption) | exact Nat.lt_of_lt_of_le (by assumption) (by assumption) | exact Nat.lt_of_le_of_lt (by assumption) (by assumption) | exact Nat.le_trans (by assumption) (by decide) | exact Nat.lt_of_le_of_lt (by assumption) (by decide) | exact Nat.lt_of_lt_of_le (by assumption) (Nat.le_trans (by assumption) (by decide)) | exact Nat.ne_of_gt (by assumption) | exact Nat.ne_of_lt (by assumption) | exact i3a (by assumption) | exact i3b | omega) hmem i
  have hz : ∀ i, r ≤ i → xs.getD i 0 = 0 := fun i hi => by simp [List.getD, List.getElem?_eq_none (by first | assumption | exact Nat.le_of_lt (by assumption) | exact Nat.lt_of_lt_of_le (by assumption) (by assumption) | exact Nat.lt_of_le_of_lt (by assumption) (by assumption) | exact Nat.le_trans (by assumption) (by decide) | exact Nat.lt_of_le_of_lt (by assumption) (by decide) | exact Nat.lt_of_lt_of_le (by assumption) (Nat.le_trans (by assumption) (by decide)) | exact Nat.ne_of_gt (by assumption) | exact Nat.ne_of_lt (by assumption) | exact i3a (by assumption) | exact i3b | omega : xs.length ≤ i)]
  refine wSs_cons (wS_assign (wE_call (wEs_cons (wE_var (v := .ref pu) (by first | exact (er _ (by decide) (by decide)).trans hch | exact (er _ (by decide) (by decide) (by decide)).trans hch | simp [bnd, er, hch]) (wEs_cons (wE_var (v := .ref p) (by first | rfl | simp [bnd]) (wEs_cons (wE_var (v := .int (m : Nat)) (by first | exact (er _ (by decide) (by decide)).trans hm | exact (er _ (by decide) (by decide) (by decide)).trans hm | simp [bnd, er, hm]) (wEs_nil ?_)))))))))
  refine image_ok (H.ext e) hr hr hrow (fun j hj => ?_) (by first | assumption | exact Nat.le_of_lt (by assumption) | exact Nat.lt_of_lt_of_le (by assumption) (by assumption) | exact Nat.lt_of_le_of_lt (by assumption) (by assumption) | exact Nat.le_trans (by assumption) (by decide) | exact Nat.lt_of_le_of_lt (by assumption) (by decide) | exact Nat.lt_of_lt_of_le (by assumption) (Nat.le_trans (by assumption) (by decide)) | exact Nat.ne_of_gt (by assumption) | exact Nat.ne_of_lt (by assumption) | exact i3a (by assumption) | exact i3b | omega) fun t μ2 e2 ht2 => ?_
  · have := hb j hj; omega
  have e02 : Ext μ μ2 := fun b o q => e2 _ _ (e _ _ q)
  refine wSs_cons (wS_assign (wE_ite (wT_cmp (due_list (g := comOf m w S) hr (by first | exact (er _ (by decide) (by decide)).trans h1 | exact (er _ (by decide) (by decide) (by decide)).trans h1 | simp [bnd, er, h1]) (by first | exact (er _ (by decide) (by decide)).trans h3 | exact (er _ (by decide) (by decide) (by decide)).trans h3 | simp [bnd, er, h3]) ht2 (e02 _ _ hq) (fun i _ => comOf_pos (by first | assumption | exact Nat.le_of_lt (by assumption) | exact Nat.lt_of_lt_of_le (by assumption) (by assumption) | exact Nat.lt_of_le_of_lt (by assumption) (by assumption) | exact Nat.le_trans (by assumption) (by decide) | exact Nat.lt_of_le_of_lt (by assumption) (by decide) | exact Nat.lt_of_lt_of_le (by assumption) (Nat.le_trans (by assumption) (by decide)) | exact Nat.ne_of_gt (by assumption) | exact Nat.ne_of_lt (by assumption) | exact i3a (by assumption) | exact i3b | omega) i) (by first | rfl | simp [bnd]) (by first | exact (er _ (by decide) (by decide)).trans hc | exact (er _ (by decide) (by decide) (by decide)).trans hc | simp [bnd, er, hc]) fun c3 ns hns hc3 => ?_))))
  refine wE_list (wEs_nil ⟨by simp, fun c4 hc4 => ?_⟩)
  have e3 : Ext μ2 (upd μ2 c3 (.list (ns.map V.int))) := Ext.alloc (fun _ _ e => e) hc3 _
  have e4 := e3.alloc hc4 (.list [])
  have hne : c3 ≠ c4 := fun q => by rw [q, upd_self] at hc4; cases hc4
  have f3 : upd (upd μ2 c3 (.list (ns.map V.int))) c4 (.list []) c3 = some (.list (ns.map V.int)) := (upd_ne _ _ hne).trans (upd_self _ _ _)
  have f4 : upd (upd μ2 c3 (.list (ns.map V.int))) c4 (.list []) c4 = some (.list []) := upd_self _ _ _
  generalize upd (upd μ2 c3 (.list (ns.map V.int))) c4 (.list []) = μ4 at e4 f3 f4
  refine ⟨ns, f3, f4, ?_⟩
  rw [condB_iff hr hz] at hns
  obtain ⟨l1, l2⟩ := look (fun i => xs.getD i 0) hb hz
  have ekey : rngM r (fun i => xs.getD i 0) = xs := by have := list_rng (fun x : Int => x) 0 xs r hlen; rw [List.map_id'] at this; exact this.symm
  rw [ekey] at l1 l2
  -- what is due is what is told
  have fin : ∀ due : Int, (lookupL es xs).getD 0 = due → wpSs (Phk (n + 1)) (ssL [.ite (.cmp .ne (.get (vr .told) (.toTuple (vr .right)) (.int 0)) (vr .due)) (ssL [.ret (.bool false)]) .nil]) (bnd (bnd (bnd ρk .right (.ref p)) .turned (.ref t)) .due (.int due)) μ4 K := fun due hdue => by
    refine wSs_cons (wS_ite (wT_cmp (wE_get (wE_var (v := .ref d) (by first | exact (er _ (by decide) (by decide)).trans ht | exact (er _ (by decide) (by decide) (by decide)).trans ht | simp [bnd, er, ht]) ⟨d, es, rfl, e4 _ _ (e02 _ _ hd), wE_toTuple (wE_var (v := .ref p) (by first | rfl | simp [bnd]) ⟨p, _, rfl, e4 _ _ (e2 _ _ hrow0), by rw [List.length_map, hlen, sizeLine_eq]; omega, fun c5 hc5 => ?_⟩)⟩))))
    have e5 := e4.alloc hc5 (.tuple (xs.map V.int))
    refine wE_int ⟨es, xs, e5 _ _ (e02 _ _ hd), upd_self _ _ _, wE_var (v := .int due) (by first | rfl | simp [bnd]) (cmp_ne ?_)⟩
    rw [hdue, decide_eq_false (by simp)]
    refine iF ?_
    exact wSs_nil (wSs_nil (hnx _ _ ⟨fun x a b c => by simp [bnd, a, b, c, er x a b c], fun b o q => e5 _ _ (e2 _ _ (ek _ _ q))⟩))
  cases ns with
  | nil =>
    refine iT ?_
    exact wE_var (v := .int (nt : Nat)) (by first | exact (er _ (by decide) (by decide)).trans hn | exact (er _ (by decide) (by decide) (by decide)).trans hn | simp [bnd, er, hn]) (fin _ (l1 (hns.mp rfl)))
  | cons x ns =>
    refine iF ?_
    exact wE_int (fin _ (l2 fun q => by have := hns.mpr q; cases this))
end
end Mine

end PartML54

section PartML55
open PySem
set_option linter.unusedVariables false
set_option linter.unusedSimpArgs false
set_option linter.constructorNameAsVariable false
set_option maxRecDepth 100000
namespace Mine

theorem law_ok : LawSays := fun ns l hn => by
  have hl : mu0 l ns l = some (.ro (ns.map V.int)) := by simp [mu0]
  generalize mu0 l ns = μ at hl ⊢
  refine wSs_cons (wS_assign (box_ok hn hl rfl rfl fun bx lx μ1 B1 => ?_))
  refine wSs_cons (width_ok (n := 2) B1 rfl fun w μ2 hw B2 => ?_)
  have hw3 : w ≤ 3 := by first | assumption | exact Nat.le_of_lt (by assumption) | exact Nat.lt_of_lt_of_le (by assumption) (by assumption) | exact Nat.lt_of_le_of_lt (by assumption) (by assumption) | exact Nat.le_trans (by assumption) (by decide) | exact Nat.lt_of_le_of_lt (by assumption) (by decide) | exact Nat.lt_of_lt_of_le (by assumption) (Nat.le_trans (by assumption) (by decide)) | exact Nat.ne_of_gt (by assumption) | exact Nat.ne_of_lt (by assumption) | exact i3a (by assumption) | exact i3b | omega
  refine wSs_cons (m_ok (n := 2) hw B2 rfl rfl fun m μ3 h2 h6 h3 B3 => ?_)
  refine wSs_cons (many_ok (n := 2) B3 rfl fun r pa μ4 h1 hr B4 n1 n2 hpa => ?_)
  refine wSs_cons (build_ok (n := 2) hw3 hr B4 ⟨n1, n2⟩ hpa rfl rfl rfl rfl rfl fun ρ5 rp A μ5 er G => ?_)
  have a1 : ρ5 .width = some (.int (w : Nat)) := er .width (by decide) (by decide)
  have a2 : ρ5 .m = some (.int (m : Nat)) := er .m (by decide) (by decide)
  have a3 : ρ5 .many = some (.int (r : Nat)) := er .many (by decide) (by decide)
  have a4 : ρ5 .a = some (.ref pa) := er .a (by decide) (by decide)
  have a5 : ρ5 .one = Option.none := er .one (by decide) (by decide)
  have a6 : ρ5 .at_ = Option.none := er .at_ (by decide) (by decide)
  clear er
  have hS : Small A r w := ⟨fun i hi j hj => (G.sm i hi j hj).1, fun i hi j hj => (G.sm i hi j hj).2⟩
  refine wSs_cons (wS_assign (wE_dict fun d hd => ?_))
  have H6 : MatIn (upd μ5 d (.dict [])) pa r w rp A := G.mat.ext (Ext.alloc (fun _ _ e => e) hd _)
  refine wSs_cons (tally_ok (n := 2) H6 (upd_self _ _ _) hr hw3 h2 h6 (by first | rfl | simp [bnd]) (by first | exact a1 | simp [bnd, a1]) (by first | exact a2 | simp [bnd, a2]) (by first | exact a4 | simp [bnd, a4]) fun ρ7 μ7 es er H7 hd7 T => ?_)
  have b1 : ρ7 .width = some (.int (w : Nat)) := (er .width (by decide) (by decide)).trans (by first | exact a1 | simp [bnd, a1])
  have b2 : ρ7 .m = some (.int (m : Nat)) := (er .m (by decide) (by decide)).trans (by first | exact a2 | simp [bnd, a2])
  have b3 : ρ7 .many = some (.int (r : Nat)) := (er .many (by decide) (by decide)).trans (by first | exact a3 | simp [bnd, a3])
  have b4 : ρ7 .a = some (.ref pa) := (er .a (by decide) (by decide)).trans (by first | exact a4 | simp [bnd, a4])
  have b5 : ρ7 .one = Option.none := (er .one (by decide) (by decide)).trans (by first | exact a5 | simp [bnd, a5])
  have b6 : ρ7 .at_ = Option.none := (er .at_ (by decide) (by decide)).trans (by first | exact a6 | simp [bnd, a6])
  have b7 : ρ7 .told = some (.ref d) := (er .told (by decide) (by decide)).trans (by first | rfl | simp [bnd])
  clear er
  refine wSs_cons (wS_unpack (by decide) (wE_call (wEs_cons (wE_var b4 (wEs_cons (wE_var b1 (wEs_nil ?_)))))))
  refine smithForm_ok (n := 0) (plan_ok hr hw hS) hr hw3 H7 fun t μ8 P RP M ht St8 D => ⟨t, _, rfl, ht, rfl, ?_⟩
  have F := facts h2 h6 h1 hr hw D T
  have e8 : Ext μ7 μ8 := fun b o e => (St8.old b o e).1
  have HS : MatIn μ8 (P 0) r w (RP 0) (M 0) := ⟨St8.top 0 (by decide), fun i hi => St8.row 0 (by decide) i hi⟩
  have HU : MatIn μ8 (P 1) r r (RP 1) (M 1) := ⟨St8.top 1 (by decide), fun i hi => St8.row 1 (by decide) i hi⟩
  have hes : es.length ≤ 1000 := by
    have := T.le
    have := cols_le (k := w) h6 hw3
    rw [List.length_map] at *; omega
  generalize hρ : bndL ρ7 [X.form, X.changes, X.others] [V.ref (P 0), .ref (P 1), .ref (P 2)] = ρ8
  have c1 : ρ8 .width = some (.int (w : Nat)) := by subst hρ; first | exact b1 | simp [bndL, bnd, b1]
  have c2 : ρ8 .m = some (.int (m : Nat)) := by subst hρ; first | exact b2 | simp [bndL, bnd, b2]
  have c3 : ρ8 .many = some (.int (r : Nat)) := by subst hρ; first | exact b3 | simp [bndL, bnd, b3]
  have c5 : ρ8 .one = Option.none := by subst hρ; first | exact b5 | simp [bndL, bnd, b5]
  have c6 : ρ8 .at_ = Option.none := by subst hρ; first | exact b6 | simp [bndL, bnd, b6]
  have c7 : ρ8 .told = some (.ref d) := by subst hρ; first | exact b7 | simp [bndL, bnd, b7]
  have c8 : ρ8 .form = some (.ref (P 0)) := by subst hρ; first | rfl | simp [bndL, bnd]
  have c9 : ρ8 .changes = some (.ref (P 1)) := by subst hρ; first | rfl | simp [bndL, bnd]
  clear hρ
  refine wSs_cons (commons_ok (n := 2) HS hr hw3 c8 c1 c2 c5 fun pc μ9 e9 hpc => ?_)
  refine nought_ok (g := fun i => gOf m (M 0 i i)) (k := Min.min r w) (Nat.min_le_right _ _) hw3 h2 h6 (fun i _ => gOf_le (by first | assumption | exact Nat.le_of_lt (by assumption) | exact Nat.lt_of_lt_of_le (by assumption) (by assumption) | exact Nat.lt_of_le_of_lt (by assumption) (by assumption) | exact Nat.le_trans (by assumption) (by decide) | exact Nat.lt_of_le_of_lt (by assumption) (by decide) | exact Nat.lt_of_lt_of_le (by assumption) (Nat.le_trans (by assumption) (by decide)) | exact Nat.ne_of_gt (by assumption) | exact Nat.ne_of_lt (by assumption) | exact i3a (by assumption) | exact i3b | omega) _) hpc (by first | rfl | simp [bnd]) (by first | exact c1 | simp [bnd, c1]) (by first | exact c2 | simp [bnd, c2]) fun ρ9 er g1 g2 => ?_
  have d1 : ρ9 .width = some (.int (w : Nat)) := (er .width (by decide) (by decide)).trans (by first | exact c1 | simp [bnd, c1])
  have d2 : ρ9 .m = some (.int (m : Nat)) := (er .m (by decide) (by decide)).trans (by first | exact c2 | simp [bnd, c2])
  have d3 : ρ9 .many = some (.int (r : Nat)) := (er .many (by decide) (by decide)).trans (by first | exact c3 | simp [bnd, c3])
  have d6 : ρ9 .at_ = Option.none := (er .at_ (by decide) (by decide)).trans (by first | exact c6 | simp [bnd, c6])
  have d7 : ρ9 .told = some (.ref d) := (er .told (by decide) (by decide)).trans (by first | exact c7 | simp [bnd, c7])
  have d8 : ρ9 .changes = some (.ref (P 1)) := (er .changes (by decide) (by decide)).trans (by first | exact c9 | simp [bnd, c9])
  have d9 : ρ9 .commons = some (.ref pc) := (er .commons (by decide) (by decide)).trans (by first | rfl | simp [bnd])
  have d10 : ρ9 .nought = some (.int (nought m r w (M 0) : Nat)) := g2
  clear er
  refine wSs_cons (tests_ok h1 hr hw3 h2 h6 (e9 _ _ (e8 _ _ hd7)) hes F.zero F.len d7 d3 d10 d1 d2 fun μ10 e10 => ?_)
  refine wSs_cons (fill_ok (w := w) (S := M 0) hr (e10 _ _ hpc) d9 d3 d2 fun pq μ11 e11 hpq => ?_)
  have e811 : Ext μ8 μ11 := fun b o e => e11 _ _ (e10 _ _ (e9 _ _ e))
  refine wSs_cons (last_ok (n := 2) hr h2 h6 (HU.ext e811) (e811 _ _ (e8 _ _ hd7)) hpq F.look (by first | exact d7 | simp [bnd, d7]) (by first | exact d8 | simp [bnd, d8]) (by first | rfl | simp [bnd]) (by first | exact d3 | simp [bnd, d3]) (by first | exact d10 | simp [bnd, d10]) (by first | exact d2 | simp [bnd, d2]) (by first | exact d6 | simp [bnd, d6]) (by first | exact g1 | simp [bnd, g1]) fun ρ' μ' => ?_)
  exact wSs_cons (wS_ret (wE_bool rfl))
theorem all_ok : PySem.Challenge.rw_tk0009_01.Holds := top1 law_ok
end Mine

end PartML55

theorem PySem.Challenge.cw_tk0009_01_holds : PySem.Challenge.rw_tk0009_01.Holds := by
  exact Mine.all_ok
