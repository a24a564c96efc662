import PyProof.Rows.All
import Wide.All
import OpenK.AllK
import Wide.FinOn
import PySem.Challenge.RW_ok0017_01
set_option Elab.async false
set_option maxRecDepth 100000
set_option maxHeartbeats 8000000
set_option compiler.extract_closed false
set_option linter.all false
set_option genSizeOf false
set_option tactic.hygienic false
namespace Mine
open scoped Classical
section
open PySem PySem.W PyProof.Rows

inductive PV where
  | none | bool (b : Bool) | int (i : Int) | str (s : Str) | tup (xs : List PV) | obj (k : Nat)


inductive AObj where
  | list (xs : List PV) | ro (xs : List PV) | dict (kvs : List (PV × PV)) | inst (c : Addr) (fs : List (Nat × PV))
abbrev St := List AObj
abbrev LM := Nat → Option PV
noncomputable def upd (lm : LM) (i : Nat) (v : PV) : LM := fun j => if j = i then some v else lm j

inductive Prim where
  | add | sub | mod
  | eq | ne | lt | gt | ge | is | isNot | inn | notIn | idx | slice | len | tupleOf | listRev
  | inVals | abs
inductive BM where
  | append | pop | extendRev | get

mutual
inductive ME where
  | stuck | none | bool (b : Bool) | int (i : Int) | str (s : Str)
  | var (i : Nat)
  | tup (es : MEs) | list (es : MEs) | dict0
  | call (f : Addr) (es : MEs)
  | new (c : Addr) (es : MEs)
  | meth (e : ME) (m : Nat) (es : MEs)
  | bm (m : BM) (e : ME) (es : MEs)
  | prim (p : Prim) (es : MEs)
  | attr (e : ME) (a : Nat)
  | or (a b : ME)
  | ite (c : MT) (a b : ME)
  | comp (elt : ME) (x : Nat) (it : MI) (cond : MT)
inductive MEs where
  | nil | cons (e : ME) (es : MEs)
inductive MT where
  | tt | e (e : ME) | not (t : MT) | and (a b : MT) | or (a b : MT)
inductive MI where
  | val (e : ME) | range (es : MEs) | rev (e : ME)
end
inductive TG where
  | stuck | var (i : Nat) | tup (is : List Nat) | attr (e : ME) (a : Nat) | idx (e i : ME)
inductive MS where
  | stuck | skip | ret (e : ME) | expr (e : ME)
  | assign (t : TG) (e : ME)
  | augIdx (o i : ME) (e : ME)
  | ite (c : MT) (a b : MS)
  | loop (c : MT) (b : MS)
  | for (x : Nat) (it : MI) (b : MS)
  | seq (a b : MS)
inductive Fl where
  | next
  | ret (v : PV)

theorem nos {α : Type} {a : α} {P : Prop} (h : none = some a) : P := by cases h
theorem ite_inv {α : Type} {c : Prop} [Decidable c] {x : Option α} {a : α} (h : (if c then x else none) = some a) : c ∧ x = some a := by
  by_cases hc : c
  · rw [if_pos hc] at h; exact ⟨hc, h⟩
  · rw [if_neg hc] at h; exact nos h
theorem noB {P : Prop} (h : false = true) : P := Bool.noConfusion h

noncomputable def lsO : AObj → Option (List PV)
  | .list xs => some xs
  | _ => none
noncomputable def lst? (σ : St) (k : Nat) : Option (List PV) := σ[k]?.bind lsO
theorem lst_of {σ : St} {k : Nat} {xs : List PV} (h : σ[k]? = some (.list xs)) : lst? σ k = some xs := by unfold lst?; rw [h]; rfl
theorem lst_inv {σ : St} {k : Nat} {xs : List PV} (h : lst? σ k = some xs) : σ[k]? = some (.list xs) := by
  obtain ⟨o, e, h⟩ := Option.bind_eq_some_iff.mp h
  cases o with
  | list ys => rw [show ys = xs from Option.some.inj h] at e; exact e
  | _ => exact nos h
noncomputable def truthy (σ : St) : PV → Option Bool
  | .bool b => some b
  | .obj k => (lst? σ k).map fun xs => !xs.isEmpty
  | _ => none

noncomputable def eqL (f : PV → PV → Option Bool) : List PV → List PV → Option Bool
  | [], [] => some true
  | [], _ :: _ => some false
  | _ :: _, [] => some false
  | x :: xs, y :: ys => match f x y with
    | some a => match eqL f xs ys with
      | some b => some (a && b)
      | none => none
    | none => none
noncomputable def eqv : Nat → PV → PV → Option Bool
  | 0, _, _ => none
  | n + 1, a, b => match a with
    | .int i => match b with
      | .int j => some (decide (i = j))
      | .str _ => some false
      | .tup _ => some false
      | _ => none
    | .str x => match b with
      | .str y => some (decide (x = y))
      | .int _ => some false
      | .tup _ => some false
      | _ => none
    | .tup l => match b with
      | .tup m => eqL (eqv n) l m
      | .int _ => some false
      | .str _ => some false
      | _ => none
    | _ => none
noncomputable def anyL (f : PV → Option Bool) : List PV → Option Bool
  | [] => some false
  | x :: xs => match f x with
    | some a => match anyL f xs with
      | some b => some (a || b)
      | none => none
    | none => none
noncomputable def eqDepth : Nat := 60
noncomputable def pyIdx {α : Type} (xs : List α) (n : Int) : Option α :=
  if 0 ≤ n then xs[n.toNat]? else if 0 ≤ n + xs.length then xs[(n + xs.length).toNat]? else none
noncomputable def sliceP (xs : List PV) (lo hi st : Option Int) : List PV :=
  (sliceRange (sliceBounds lo hi st xs.length).1 (sliceBounds lo hi st xs.length).2.1 (sliceBounds lo hi st xs.length).2.2).filterMap (xs[·]?)
noncomputable def partP : PV → Option (Option Int)
  | .none => some Option.none
  | .int i => some (some i)
  | _ => none
noncomputable def big : Nat := 1000000
noncomputable def isStrV : PV → Bool
  | .str _ => true
  | _ => false
noncomputable def isIntV : PV → Bool
  | .int _ => true
  | _ => false
noncomputable def isPairL (l : List PV) : Bool := match l with
  | [a, b] => isIntV a && isIntV b
  | _ => false
noncomputable def isPairV : PV → Bool
  | .tup l => isPairL l
  | _ => false
noncomputable def keyLike (a b : PV) : Bool := match a with
  | .str _ => isStrV b
  | .int _ => isIntV b
  | .tup l => isPairL l && isPairV b
  | _ => false
noncomputable def keysLike (k : PV) (kvs : List (PV × PV)) : Bool := keyLike k k && kvs.all fun p => keyLike k p.1
noncomputable def dget (k : PV) (kvs : List (PV × PV)) : Option PV := (kvs.find? fun p => decide (p.1 = k)).map (·.2)
noncomputable def dput (k v : PV) (kvs : List (PV × PV)) : List (PV × PV) :=
  if (dget k kvs).isSome then kvs.map fun p => if p.1 = k then (p.1, v) else p else kvs ++ [(k, v)]
noncomputable def fput (k : Nat) (v : PV) : List (Nat × PV) → List (Nat × PV)
  | [] => [(k, v)]
  | p :: r => if p.1 = k then (k, v) :: r else p :: fput k v r
noncomputable def rangeL (a b c : Int) : List PV := (List.range (Builtin.Range.rangeSize a b c).toNat).map fun (i : Nat) => PV.int (a + c * (i : Int))
noncomputable def smallR (i : Int) : Bool := decide (-1000000 ≤ i ∧ i ≤ 1000000)
noncomputable def rangeOf (vs xs : List PV) : Prop :=
  (∃ b, vs = [.int b] ∧ smallR b = true ∧ xs = rangeL 0 b 1) ∨ ∃ a b, vs = [.int a, .int b, .int (-1)] ∧ smallR a = true ∧ smallR b = true ∧ xs = rangeL a b (-1)

noncomputable def eqLs (xs ys : List PV) : Option Bool := if xs.length = ys.length then eqL (eqv eqDepth) xs ys else some false
noncomputable def eqS (σ : St) (a b : PV) : Option Bool := match a with
  | .obj i => match b with
    | .obj j => (lst? σ i).bind fun xs => (lst? σ j).bind fun ys => eqLs xs ys
    | _ => none
  | _ => eqv eqDepth a b
noncomputable def inA (x : PV) : AObj → Option Bool
  | .list ys => anyL (fun y => eqv eqDepth y x) ys
  | .dict kvs => if keysLike x kvs then some (dget x kvs).isSome else none
  | _ => none
noncomputable def inS (σ : St) (x : PV) : PV → Option Bool
  | .tup ys => anyL (fun y => eqv eqDepth y x) ys
  | .obj k => σ[k]?.bind (inA x)
  | _ => none

noncomputable def intB (x y : PV) (f : Int → Int → Prop) : Prop := ∃ a b, x = .int a ∧ y = .int b ∧ f a b
noncomputable def lstB (σ : St) (x : PV) (f : Nat → List PV → Prop) : Prop := ∃ k xs, x = .obj k ∧ σ[k]? = some (.list xs) ∧ f k xs
noncomputable def dctB (σ : St) (x : PV) (f : Nat → List (PV × PV) → Prop) : Prop := ∃ k kvs, x = .obj k ∧ σ[k]? = some (.dict kvs) ∧ f k kvs
noncomputable def insB (σ : St) (x : PV) (f : Nat → Addr → List (Nat × PV) → Prop) : Prop := ∃ k c fs, x = .obj k ∧ σ[k]? = some (.inst c fs) ∧ f k c fs
noncomputable def tupB (x : PV) (f : List PV → Prop) : Prop := ∃ xs, x = .tup xs ∧ f xs
noncomputable def optB {α : Type} (o : Option α) (f : α → Prop) : Prop := ∃ a, o = some a ∧ f a
noncomputable def prim1 (p : Prim) (x : PV) (σ : St) (Q : PV → St → Prop) : Prop := match p with
  | .len => (tupB x fun xs => Q (.int xs.length) σ) ∨ lstB σ x fun _ xs => Q (.int xs.length) σ
  | .abs => ∃ i, x = .int i ∧ Q (.int i.natAbs) σ
  | .tupleOf => (tupB x fun xs => Q (.tup xs) σ) ∨ lstB σ x fun _ xs => Q (.tup xs) σ
  | .listRev => lstB σ x fun _ xs => Q (.obj σ.length) (σ ++ [.list xs.reverse])
  | _ => False
noncomputable def prim2 (p : Prim) (x y : PV) (σ : St) (Q : PV → St → Prop) : Prop := match p with
  | .add => (intB x y fun a b => Q (.int (a + b)) σ) ∨
    tupB x fun a => tupB y fun b => a.length + b.length ≤ big ∧ Q (.tup (a ++ b)) σ
  | .sub => intB x y fun a b => Q (.int (a - b)) σ
  | .mod => intB x y fun a b => 0 < b ∧ Q (.int (a % b)) σ
  | .eq => optB (eqS σ x y) fun r => Q (.bool r) σ
  | .ne => optB (eqS σ x y) fun r => Q (.bool (!r)) σ
  | .lt => intB x y fun a b => Q (.bool (decide (a < b))) σ
  | .gt => intB x y fun a b => Q (.bool (decide (b < a))) σ
  | .ge => intB x y fun a b => Q (.bool (decide (b ≤ a))) σ
  | .is => y = .none ∧ Q (.bool (decide (x = .none))) σ
  | .isNot => y = .none ∧ Q (.bool (!decide (x = .none))) σ
  | .inn => optB (inS σ x y) fun r => Q (.bool r) σ
  | .notIn => optB (inS σ x y) fun r => Q (.bool (!r)) σ
  | .inVals => dctB σ y fun _ kvs => optB (anyL (fun z => eqv eqDepth z x) (kvs.map (·.2))) fun r => keysLike (.int 0) kvs = true ∧ Q (.bool r) σ
  | .idx => (tupB x fun xs => ∃ n, y = .int n ∧ optB (pyIdx xs n) fun v => Q v σ) ∨
    (lstB σ x fun _ xs => ∃ n, y = .int n ∧ optB (pyIdx xs n) fun v => Q v σ) ∨
    dctB σ x fun _ kvs => ∃ n, y = .int n ∧ optB (dget (.int n) kvs) fun v => keysLike (.int n) kvs = true ∧ Q v σ
  | _ => False
noncomputable def prim4 (p : Prim) (x lo hi st : PV) (σ : St) (Q : PV → St → Prop) : Prop := p = .slice ∧ ∃ k xs l h s, x = .obj k ∧ partP lo = some l ∧ partP hi = some h ∧ partP st = some s ∧
  (σ[k]? = some (.list xs) ∨ σ[k]? = some (.ro xs)) ∧ s ≠ some 0 ∧ Q (.obj σ.length) (σ ++ [.list (sliceP xs l h s)])
noncomputable def prim (p : Prim) (vs : List PV) (σ : St) (Q : PV → St → Prop) : Prop := match vs with
  | [] => False
  | x :: r => match r with
    | [] => prim1 p x σ Q
    | y :: r => match r with
      | [] => prim2 p x y σ Q
      | a :: r => match r with
        | [] => False
        | b :: _ => prim4 p x y a b σ Q

noncomputable def bmOk (m : BM) (o : PV) (σ : St) : Prop := match m with
  | .get => dctB σ o fun _ _ => True
  | _ => lstB σ o fun _ _ => True
noncomputable def bmeth (m : BM) (o : PV) (vs : List PV) (σ : St) (Q : PV → St → Prop) : Prop := match m with
  | .append => lstB σ o fun k xs => ∃ v, vs = [v] ∧ xs.length < big ∧ Q .none (σ.set k (.list (xs ++ [v])))
  | .pop => lstB σ o fun k xs => vs = [] ∧ optB xs.getLast? fun v => Q v (σ.set k (.list xs.dropLast))
  | .extendRev => lstB σ o fun k xs => ∃ ys, vs = [.tup ys] ∧ xs.length + ys.length ≤ big ∧ Q .none (σ.set k (.list (xs ++ ys.reverse)))
  | .get => dctB σ o fun _ kvs => ∃ key d, vs = [key, d] ∧ keysLike key kvs = true ∧ Q ((dget key kvs).getD d) σ

noncomputable def setIdx (o i v : PV) (σ : St) (Q : St → Prop) : Prop :=
  (lstB σ o fun k xs => ∃ n, i = .int n ∧ 0 ≤ n ∧ n < xs.length ∧ Q (σ.set k (.list (xs.set n.toNat v)))) ∨
  dctB σ o fun k kvs => keysLike i kvs = true ∧ kvs.length < 1000 ∧ Q (σ.set k (.dict (dput i v kvs)))
noncomputable def setAttr' (F : Addr → Nat → Bool) (o : PV) (a : Nat) (v : PV) (σ : St) (Q : St → Prop) : Prop :=
  insB σ o fun k c fs => F c a = true ∧ fs.length < 100 ∧ Q (σ.set k (.inst c (fput a v fs)))

structure FR where
  np : Nat
  body : MS
structure Pg where
  fn : Addr → Option FR
  init : Addr → Option Addr
  meth : Addr → Nat → Option Addr
  fld : Addr → Nat → Bool

abbrev EQ := PV → St → Prop
abbrev CT := Addr → List PV → St → EQ → Prop

noncomputable def compW (T : LM → St → (Bool → St → Prop) → Prop) (V : LM → St → EQ → Prop) (x : Nat) (chk : St → Prop) (lm : LM) : List PV → List PV → St → (List PV → St → Prop) → Prop
  | [], acc, σ, Q => chk σ ∧ Q acc σ
  | y :: ys, acc, σ, Q => chk σ ∧ T (upd lm x y) σ fun b σ₁ => if b then V (upd lm x y) σ₁ fun v σ₂ => acc.length < big ∧ compW T V x chk lm ys (acc ++ [v]) σ₂ Q else compW T V x chk lm ys acc σ₁ Q


noncomputable def newK (P : Pg) (C : CT) (c : Addr) (Q : EQ) (vs : List PV) (σ : St) : Prop := optB (P.init c) fun f => C f (.obj σ.length :: vs) (σ ++ [.inst c []]) fun r σ₂ => r = .none ∧ Q (.obj σ.length) σ₂
noncomputable def attrK (P : Pg) (a : Nat) (Q : EQ) (o : PV) (σ : St) : Prop := insB σ o fun _ c fs => optB (fs.lookup a) fun v => P.fld c a = true ∧ Q v σ
noncomputable def truK (Q : Bool → St → Prop) (v : PV) (σ : St) : Prop := optB (truthy σ v) fun t => Q t σ
noncomputable def valK (Q : List PV → (St → Prop) → St → Prop) (v : PV) (σ : St) : Prop := (tupB v fun xs => Q xs (fun _ => True) σ) ∨ lstB σ v fun k xs => Q xs (fun τ => τ[k]? = some (.list xs)) σ
noncomputable def rangeK (Q : List PV → (St → Prop) → St → Prop) (vs : List PV) (σ : St) : Prop := ∃ xs, rangeOf vs xs ∧ Q xs (fun _ => True) σ
noncomputable def revK (Q : List PV → (St → Prop) → St → Prop) (v : PV) (σ : St) : Prop := lstB σ v fun k xs => Q xs.reverse (fun τ => τ[k]? = some (.list xs)) σ
section
variable (C : CT) (P : Pg)
mutual
noncomputable def wpe : ME → LM → St → EQ → Prop
  | .stuck, _, _, _ => False
  | .none, _, σ, Q => Q .none σ
  | .bool b, _, σ, Q => Q (.bool b) σ
  | .int i, _, σ, Q => Q (.int i) σ
  | .str x, _, σ, Q => Q (.str x) σ
  | .var i, lm, σ, Q => optB (lm i) fun v => Q v σ
  | .tup es, lm, σ, Q => wpes es lm σ fun vs σ₁ => vs.length ≤ big ∧ Q (.tup vs) σ₁
  | .list es, lm, σ, Q => wpes es lm σ fun vs σ₁ => vs.length ≤ big ∧ Q (.obj σ₁.length) (σ₁ ++ [.list vs])
  | .dict0, _, σ, Q => Q (.obj σ.length) (σ ++ [.dict []])
  | .call f es, lm, σ, Q => wpes es lm σ fun vs σ₁ => C f vs σ₁ Q
  | .new c es, lm, σ, Q => wpes es lm σ (newK P C c Q)
  | .meth e m es, lm, σ, Q => wpe e lm σ fun o σ₁ => insB σ₁ o fun k c fs => optB (P.meth c m) fun f => fs.lookup m = Option.none ∧ wpes es lm σ₁ fun vs σ₂ => C f (.obj k :: vs) σ₂ Q
  | .bm m e es, lm, σ, Q => wpe e lm σ fun o σ₁ => bmOk m o σ₁ ∧ wpes es lm σ₁ fun vs σ₂ => bmeth m o vs σ₂ Q
  | .prim p es, lm, σ, Q => wpes es lm σ fun vs σ₁ => prim p vs σ₁ Q
  | .attr e a, lm, σ, Q => wpe e lm σ (attrK P a Q)
  | .or a b, lm, σ, Q => wpe a lm σ fun v σ₁ => optB (truthy σ₁ v) fun t => if t then Q v σ₁ else wpe b lm σ₁ Q
  | .ite c a b, lm, σ, Q => wpt c lm σ fun t σ₁ => if t then wpe a lm σ₁ Q else wpe b lm σ₁ Q
  | .comp elt x it cond, lm, σ, Q => wpi it lm σ fun ys chk σ₁ =>
      compW (wpt cond) (wpe elt) x chk lm ys [] σ₁ fun vs σ₂ => Q (.obj σ₂.length) (σ₂ ++ [.list vs])
noncomputable def wpes : MEs → LM → St → (List PV → St → Prop) → Prop
  | .nil, _, σ, Q => Q [] σ
  | .cons e es, lm, σ, Q => wpe e lm σ fun v σ₁ => wpes es lm σ₁ fun vs σ₂ => Q (v :: vs) σ₂
noncomputable def wpt : MT → LM → St → (Bool → St → Prop) → Prop
  | .tt, _, σ, Q => Q true σ
  | .e e, lm, σ, Q => wpe e lm σ (truK Q)
  | .not t, lm, σ, Q => wpt t lm σ fun b σ₁ => Q (!b) σ₁
  | .and a b, lm, σ, Q => wpt a lm σ fun t σ₁ => if t then wpt b lm σ₁ Q else Q false σ₁
  | .or a b, lm, σ, Q => wpt a lm σ fun t σ₁ => if t then Q true σ₁ else wpt b lm σ₁ Q
noncomputable def wpi : MI → LM → St → (List PV → (St → Prop) → St → Prop) → Prop
  | .val e, lm, σ, Q => wpe e lm σ (valK Q)
  | .range es, lm, σ, Q => wpes es lm σ (rangeK Q)
  | .rev e, lm, σ, Q => wpe e lm σ (revK Q)
end

abbrev SQ := Fl → LM → St → Prop
noncomputable def asgs : List Nat → List PV → LM → Option LM
  | [], vs, lm => match vs with
    | [] => some lm
    | _ :: _ => none
  | i :: is, vs, lm => match vs with
    | [] => none
    | v :: vs => asgs is vs (upd lm i v)
noncomputable def wptg : TG → PV → LM → St → (LM → St → Prop) → Prop
  | .stuck, _, _, _, _ => False
  | .var i, v, lm, σ, Q => Q (upd lm i v) σ
  | .tup is, v, lm, σ, Q => tupB v fun vs => optB (asgs is vs lm) fun lm' => Q lm' σ
  | .attr e a, v, lm, σ, Q => wpe C P e lm σ fun o σ₁ => setAttr' P.fld o a v σ₁ fun σ₂ => Q lm σ₂
  | .idx e i, v, lm, σ, Q => wpe C P e lm σ fun o σ₁ => wpe C P i lm σ₁ fun iv σ₂ => setIdx o iv v σ₂ fun σ₃ => Q lm σ₃

noncomputable def forK (K : LM → St → Prop) (Q : SQ) (fl : Fl) (lm : LM) (σ : St) : Prop := match fl with
  | .next => K lm σ
  | .ret v => Q (.ret v) lm σ
noncomputable def seqF (K : LM → St → Prop) (Q : SQ) (fl : Fl) (lm : LM) (σ : St) : Prop := match fl with
  | .next => K lm σ
  | .ret v => Q (.ret v) lm σ
noncomputable def retK (Q : EQ) (fl : Fl) (_ : LM) (σ : St) : Prop := match fl with
  | .next => Q .none σ
  | .ret v => Q v σ
noncomputable def loopK (I : Nat → LM → St → Prop) (n : Nat) (Q : SQ) (fl : Fl) (lm : LM) (σ : St) : Prop := forK (fun lm σ => ∃ m, m < n ∧ I m lm σ) Q fl lm σ
noncomputable def forW (B : LM → St → SQ → Prop) (x : Nat) (chk : St → Prop) : List PV → LM → St → SQ → Prop
  | [], lm, σ, Q => chk σ ∧ Q .next lm σ
  | y :: ys, lm, σ, Q => chk σ ∧ B (upd lm x y) σ (forK (fun lm₁ σ₁ => forW B x chk ys lm₁ σ₁ Q) Q)

noncomputable def loopW (T : LM → St → (Bool → St → Prop) → Prop) (B : LM → St → SQ → Prop) (lm : LM) (σ : St) (Q : SQ) : Prop :=
  ∃ I : Nat → LM → St → Prop, (∃ n, I n lm σ) ∧ ∀ n lm σ, I n lm σ → T lm σ fun t σ₁ => if t then B lm σ₁ (loopK I n Q) else Q .next lm σ₁

noncomputable def addK (lm : LM) (Q : SQ) (ov iv old v : PV) (σ : St) : Prop := intB old v fun a b => setIdx ov iv (.int (a + b)) σ fun σ₅ => Q .next lm σ₅

noncomputable def wps : MS → LM → St → SQ → Prop
  | .stuck, _, _, _ => False
  | .skip, lm, σ, Q => Q .next lm σ
  | .ret e, lm, σ, Q => wpe C P e lm σ fun v σ₁ => Q (.ret v) lm σ₁
  | .expr e, lm, σ, Q => wpe C P e lm σ fun _ σ₁ => Q .next lm σ₁
  | .assign t e, lm, σ, Q => wpe C P e lm σ fun v σ₁ => wptg C P t v lm σ₁ fun lm₂ σ₂ => Q .next lm₂ σ₂
  | .augIdx o i e, lm, σ, Q => wpe C P o lm σ fun ov σ₁ => wpe C P i lm σ₁ fun iv σ₂ => prim .idx [ov, iv] σ₂ fun old σ₃ => wpe C P e lm σ₃ fun v σ₄ => addK lm Q ov iv old v σ₄
  | .ite c a b, lm, σ, Q => wpt C P c lm σ fun t σ₁ => if t then wps a lm σ₁ Q else wps b lm σ₁ Q
  | .loop c b, lm, σ, Q => loopW (wpt C P c) (wps b) lm σ Q
  | .for x it b, lm, σ, Q => wpi C P it lm σ fun ys chk σ₁ => forW (wps b) x chk ys lm σ₁ Q
  | .seq a b, lm, σ, Q => wps a lm σ (seqF (fun lm₁ σ₁ => wps b lm₁ σ₁ Q) Q)
end

noncomputable def lmOf (vs : List PV) : LM := fun i => vs[i]?
noncomputable def wpCall (P : Pg) : Nat → CT
  | 0, _, _, _, _ => False
  | n + 1, f, vs, σ, Q => optB (P.fn f) fun fr => vs.length = fr.np ∧ wps (wpCall P n) P fr.body (lmOf vs) σ (retK Q)
end
section
open PySem PySem.W PyProof.Rows

noncomputable def All2 {α β : Type} (R : α → β → Prop) : List α → List β → Prop
  | [], [] => True
  | x :: xs, y :: ys => R x y ∧ All2 R xs ys
  | _, _ => False
namespace All2
variable {α β : Type} {R S : α → β → Prop}
theorem length : ∀ {xs : List α} {ys : List β}, All2 R xs ys → xs.length = ys.length
  | [], [], _ => rfl
  | _ :: _, _ :: _, h => by simp [length h.2]
  | [], _ :: _, h => h.elim
  | _ :: _, [], h => h.elim
theorem mono (f : ∀ x y, R x y → S x y) : ∀ {xs : List α} {ys : List β}, All2 R xs ys → All2 S xs ys
  | [], [], _ => trivial
  | _ :: _, _ :: _, h => ⟨f _ _ h.1, mono f h.2⟩
  | [], _ :: _, h => h.elim
  | _ :: _, [], h => h.elim
theorem append : ∀ {xs : List α} {ys : List β} {xs' : List α} {ys' : List β}, All2 R xs ys → All2 R xs' ys' → All2 R (xs ++ xs') (ys ++ ys')
  | [], [], _, _, _, h => h
  | _ :: _, _ :: _, _, _, h, h' => ⟨h.1, append h.2 h'⟩
  | [], _ :: _, _, _, h, _ => h.elim
  | _ :: _, [], _, _, h, _ => h.elim
theorem get : ∀ {xs : List α} {ys : List β} {i : Nat} {x : α}, All2 R xs ys → xs[i]? = some x → ∃ y, ys[i]? = some y ∧ R x y
  | _ :: _, y :: _, 0, _, h, e => by cases e; exact ⟨y, rfl, h.1⟩
  | _ :: _, _ :: _, i + 1, _, h, e => get (i := i) h.2 e
  | [], [], _, _, _, e => by simp at e
  | [], _ :: _, _, _, h, _ => h.elim
  | _ :: _, [], _, _, h, _ => h.elim
theorem get' : ∀ {xs : List α} {ys : List β} {i : Nat} {y : β}, All2 R xs ys → ys[i]? = some y → ∃ x, xs[i]? = some x ∧ R x y
  | x :: _, _ :: _, 0, _, h, e => by cases e; exact ⟨x, rfl, h.1⟩
  | _ :: _, _ :: _, i + 1, _, h, e => get' (i := i) h.2 e
  | [], [], _, _, _, e => by simp at e
  | [], _ :: _, _, _, h, _ => h.elim
  | _ :: _, [], _, _, h, _ => h.elim
theorem set : ∀ {xs : List α} {ys : List β} {i : Nat} {x : α} {y : β}, All2 R xs ys → R x y → All2 R (xs.set i x) (ys.set i y)
  | [], [], _, _, _, _, _ => trivial
  | _ :: _, _ :: _, 0, _, _, h, r => ⟨r, h.2⟩
  | _ :: _, _ :: _, _ + 1, _, _, h, r => ⟨h.1, set h.2 r⟩
  | [], _ :: _, _, _, _, h, _ => h.elim
  | _ :: _, [], _, _, _, h, _ => h.elim
theorem snoc {xs : List α} {ys : List β} {x : α} {y : β} (h : All2 R xs ys) (r : R x y) : All2 R (xs ++ [x]) (ys ++ [y]) := h.append ⟨r, trivial⟩
theorem reverse : ∀ {xs : List α} {ys : List β}, All2 R xs ys → All2 R xs.reverse ys.reverse
  | [], [], _ => trivial
  | _ :: _, _ :: _, h => by rw [List.reverse_cons, List.reverse_cons]; exact (reverse h.2).snoc h.1
  | [], _ :: _, h => h.elim
  | _ :: _, [], h => h.elim
theorem dropLast : ∀ {xs : List α} {ys : List β}, All2 R xs ys → All2 R xs.dropLast ys.dropLast
  | [], [], _ => trivial
  | [_], [_], _ => trivial
  | _ :: _ :: _, _ :: _ :: _, h => ⟨h.1, dropLast h.2⟩
  | [], _ :: _, h => h.elim
  | _ :: _, [], h => h.elim
  | [_], _ :: _ :: _, h => h.2.elim
  | _ :: _ :: _, [_], h => h.2.elim
theorem getLast? : ∀ {xs : List α} {ys : List β} {x : α}, All2 R xs ys → xs.getLast? = some x → ∃ y, ys.getLast? = some y ∧ R x y := by
  intro xs ys x h e
  rw [List.getLast?_eq_getElem?] at e
  obtain ⟨y, hy, r⟩ := h.get e
  exact ⟨y, by rw [List.getLast?_eq_getElem?, ← h.length]; exact hy, r⟩
theorem map_left {γ : Type} {f : γ → α} : ∀ {xs : List γ} {ys : List β}, All2 (fun x y => R (f x) y) xs ys → All2 R (xs.map f) ys
  | [], [], _ => trivial
  | _ :: _, _ :: _, h => ⟨h.1, map_left h.2⟩
  | [], _ :: _, h => h.elim
  | _ :: _, [], h => h.elim
theorem of_get {xs : List α} {ys : List β} (hl : xs.length = ys.length) (h : ∀ (i : Nat) (x : α) (y : β), xs[i]? = some x → ys[i]? = some y → R x y) : All2 R xs ys := by
  induction xs generalizing ys with
  | nil => cases ys with
    | nil => trivial
    | cons y ys => simp at hl
  | cons x xs ih => cases ys with
    | nil => simp at hl
    | cons y ys => exact ⟨h 0 x y rfl rfl, ih (by simpa using hl) fun i a b ha hb => h (i + 1) a b ha hb⟩
theorem filterMap_get {xs : List α} {ys : List β} (h : All2 R xs ys) : ∀ is : List Nat, All2 R (is.filterMap (xs[·]?)) (is.filterMap (ys[·]?))
  | [] => trivial
  | i :: is => by
    rw [List.filterMap_cons, List.filterMap_cons]
    cases e : xs[i]? with
    | none =>
      have e' : ys[i]? = none := by rw [List.getElem?_eq_none_iff] at e ⊢; rw [← h.length]; exact e
      rw [e']; exact filterMap_get h is
    | some x =>
      obtain ⟨y, hy, r⟩ := h.get e
      rw [hy]; exact ⟨r, filterMap_get h is⟩
end All2

abbrev Rho := List (Addr × Addr)
abbrev tupObj (its : Array Value) (n : Nat) : Obj := { cls := .type "tuple", data := .seq its n }

mutual
inductive VR (h : Heap) (ρ : Rho) : PV → Value → Prop where
  | none : VR h ρ .none .none
  | bool (b : Bool) : VR h ρ (.bool b) (.bool b)
  | int (i : Int) (t : Tok) : VR h ρ (.int i) (.int i t)
  | str (x : Str) (t : Tok) : VR h ρ (.str x) (.str x t)
  | tup {a : Addr} {its : Array Value} {n : Nat} {xs : List PV} : h.get? a = some (tupObj its n) → VRs h ρ xs its.toList → xs.length ≤ big → VR h ρ (.tup xs) (.ref a)
  | obj {k : Nat} {a d : Addr} : ρ[k]? = some (a, d) → VR h ρ (.obj k) (.ref a)
inductive VRs (h : Heap) (ρ : Rho) : List PV → List Value → Prop where
  | nil : VRs h ρ [] []
  | cons {x : PV} {v : Value} {xs : List PV} {vs : List Value} : VR h ρ x v → VRs h ρ xs vs → VRs h ρ (x :: xs) (v :: vs)
end

theorem VRs.all {h : Heap} {ρ : Rho} : ∀ {xs : List PV} {vs : List Value}, VRs h ρ xs vs → All2 (VR h ρ) xs vs
  | _, _, .nil => trivial
  | _, _, .cons a b => ⟨a, b.all⟩
theorem VRs.of_all {h : Heap} {ρ : Rho} : ∀ {xs : List PV} {vs : List Value}, All2 (VR h ρ) xs vs → VRs h ρ xs vs
  | [], [], _ => .nil
  | _ :: _, _ :: _, h => .cons h.1 (VRs.of_all h.2)
  | [], _ :: _, h => h.elim
  | _ :: _, [], h => h.elim

mutual
theorem VR.mono {h h' : Heap} {ρ δ : Rho} (k : ∀ a its n, h.get? a = some (tupObj its n) → h'.get? a = some (tupObj its n)) : ∀ {x : PV} {v : Value}, VR h ρ x v → VR h' (ρ ++ δ) x v
  | _, _, .none => .none
  | _, _, .bool b => .bool b
  | _, _, .int i t => .int i t
  | _, _, .str x t => .str x t
  | _, _, .tup a b c => .tup (k _ _ _ a) (VRs.mono k b) c
  | _, _, .obj e => .obj (by rw [List.getElem?_append_left (List.getElem?_eq_some_iff.mp e).1]; exact e)
theorem VRs.mono {h h' : Heap} {ρ δ : Rho} (k : ∀ a its n, h.get? a = some (tupObj its n) → h'.get? a = some (tupObj its n)) : ∀ {xs : List PV} {vs : List Value}, VRs h ρ xs vs → VRs h' (ρ ++ δ) xs vs
  | _, _, .nil => .nil
  | _, _, .cons a b => .cons (VR.mono k a) (VRs.mono k b)
end

noncomputable def NotT (o : Obj) : Prop := (∀ its n, o ≠ tupObj its n) ∧ ∀ C dx, o ≠ instObj C dx
theorem NotT.list {its n} : NotT { cls := .type "list", data := .seq its n } := ⟨fun _ _ e => by injection e with e; injection e with e; exact absurd e (by decide), fun _ _ e => by injection e with e; cases e⟩
theorem NotT.data {o : Obj} (h1 : ∀ its n, o.data ≠ .seq its n) (h2 : o.data ≠ .plain) : NotT o := ⟨fun _ _ e => h1 _ _ (by rw [e]), fun _ _ e => h2 (by rw [e])⟩
theorem NotT.dict {o : Obj} {es n} (h : o.data = .dict es n) : NotT o := .data (fun _ _ e => by rw [h] at e; cases e) (fun e => by rw [h] at e; cases e)
theorem NotT.cell {o : Obj} {v} (h : o.data = .cell v) : NotT o := .data (fun _ _ e => by rw [h] at e; cases e) (fun e => by rw [h] at e; cases e)

section
variable (w : World)
noncomputable def hashP : PV → Int
  | .str x => hashStr w x
  | .int i => hashInt i
  | .tup [.int a, .int b] => reduceHash (Builtin.Tuple.tupleHashOf [hashInt a, hashInt b])
  | _ => 0
noncomputable def EntR (h : Heap) (ρ : Rho) (p : PV × PV) (e : DictEntry) : Prop := VR h ρ p.1 e.key ∧ VR h ρ p.2 e.val ∧ e.hash = hashP w p.1
noncomputable def FldR (AT : Nat → Str) (h : Heap) (ρ : Rho) (p : Nat × PV) (e : DictEntry) : Prop := (∃ t, e.key = .str (AT p.1) t) ∧ VR h ρ p.2 e.val
abbrev lstObj (its : Array Value) (n : Nat) : Obj := { cls := .type "list", data := .seq its n }
abbrev dctObj (es : Array DictEntry) (n : Nat) : Obj := { cls := .type "dict", data := .dict es n }
noncomputable def ORel (AT : Nat → Str) (h : Heap) (ρ : Rho) (p : Addr × Addr) : AObj → Prop
  | .list xs => p.1 = p.2 ∧ xs.length ≤ big ∧ ∃ its n, h.get? p.2 = some (lstObj its n) ∧ All2 (VR h ρ) xs its.toList
  | .ro xs => p.1 = p.2 ∧ xs.length ≤ big ∧ ∃ its, h.IsList p.2 its ∧ All2 (VR h ρ) xs its.toList
  | .dict kvs => p.1 = p.2 ∧ kvs.length ≤ 1000 ∧ ∃ es n, h.get? p.2 = some (dctObj es n) ∧ All2 (EntR w h ρ) kvs es.toList ∧ (kvs.map (·.1)).Nodup
  | .inst c fs => h.get? p.1 = some (instObj c p.2) ∧ ∃ es n, h.get? p.2 = some (dctObj es.toArray n) ∧ All2 (FldR AT h ρ) fs es
end

theorem ORel.notT {w AT h ρ p o} (x : ORel w AT h ρ p o) : ∃ ob, h.get? p.2 = some ob ∧ NotT ob := by
  cases o with
  | list xs => obtain ⟨_, _, its, n, e, _⟩ := x; exact ⟨_, e, .list⟩
  | ro xs =>
    obtain ⟨_, _, its, ⟨o, e, hc, n, hd⟩, _⟩ := x
    exact ⟨o, e, fun its n q => by rw [q] at hc; injection hc with hc; exact absurd hc (by decide), fun C dx q => by rw [q] at hd; cases hd⟩
  | dict kvs => obtain ⟨_, _, es, n, e, _⟩ := x; exact ⟨_, e, .dict rfl⟩
  | inst c fs => obtain ⟨_, es, n, e, _⟩ := x; exact ⟨_, e, .dict rfl⟩

structure Glb where
  w : World
  AT : Nat → Str
  h₀ : Heap
  h₁ : Heap

structure Rel (g : Glb) (ρ : Rho) (σ : St) (h : Heap) : Prop where
  keep : ∀ b o, g.h₀.get? b = some o → h.get? b = some o
  low : ∃ o, g.h₀.get? cStatics = some o
  mods : ∀ p ∈ ρ, p.2 ≠ sysModules
  above : ∀ p ∈ ρ, g.h₀.get? p.2 = none
  nodup : (ρ.map (·.2)).Nodup
  len : ρ.length = σ.length
  objs : ∀ (k : Nat) (o : AObj) (p : Addr × Addr), σ[k]? = some o → ρ[k]? = some p → ORel g.w g.AT h ρ p o
  fro : ∀ (k : Nat) (xs : List PV) (p : Addr × Addr), σ[k]? = some (.ro xs) → ρ[k]? = some p → h.get? p.2 = g.h₁.get? p.2

structure Step (X : List Addr) (ρ : Rho) (h : Heap) (ρ' : Rho) (h' : Heap) : Prop where
  ext : ∃ δ, ρ' = ρ ++ δ ∧ ∀ p ∈ δ, h.get? p.2 = none
  live : ∀ a o, h.get? a = some o → ∃ o', h'.get? a = some o'
  keep : ∀ a o, h.get? a = some o → a ∉ ρ.map (·.2) → a ∉ X → h'.get? a = some o

namespace Step
variable {X : List Addr} {ρ ρ' ρ'' : Rho} {h h' h'' : Heap}
theorem refl (X ρ h) : Step X ρ h ρ h := ⟨⟨[], by simp, by simp⟩, fun _ o e => ⟨o, e⟩, fun _ _ e _ _ => e⟩
theorem trans (a : Step X ρ h ρ' h') (b : Step X ρ' h' ρ'' h'') : Step X ρ h ρ'' h'' := by
  obtain ⟨⟨δ, rfl, hδ⟩, sz, k⟩ := a
  obtain ⟨⟨ε, rfl, hε⟩, sz', k'⟩ := b
  refine ⟨⟨δ ++ ε, by rw [List.append_assoc], fun p hp => ?_⟩, fun a o e => ?_, fun a o e hn hx => ?_⟩
  · rcases List.mem_append.mp hp with hp | hp
    · exact hδ p hp
    · cases q : h.get? p.2 with
      | none => rfl
      | some o => obtain ⟨o', e'⟩ := sz _ _ q; rw [hε p hp] at e'; cases e'
  · obtain ⟨o', e'⟩ := sz _ _ e; exact sz' _ _ e'
  · refine k' a o (k a o e hn hx) (fun hm => ?_) hx
    rw [List.map_append, List.mem_append] at hm
    rcases hm with hm | hm
    · exact hn hm
    · obtain ⟨p, hp, rfl⟩ := List.mem_map.mp hm
      rw [hδ p hp] at e; cases e
theorem weak {Y : List Addr} (a : Step X ρ h ρ' h') (hs : ∀ x ∈ X, x ∈ Y) : Step Y ρ h ρ' h' := ⟨a.ext, a.live, fun b o e hn hx => a.keep b o e hn fun q => hx (hs _ q)⟩
theorem nil (a : Step [] ρ h ρ' h') : Step X ρ h ρ' h' := a.weak fun _ q => nomatch q
end Step

noncomputable def Xok (X : List Addr) (ρ : Rho) (h : Heap) : Prop := ∀ a ∈ X, ∃ o, h.get? a = some o ∧ NotT o

theorem Rel.owned {g ρ σ h} (R : Rel g ρ σ h) {a : Addr} (ha : a ∈ ρ.map (·.2)) : ∃ o, h.get? a = some o ∧ NotT o := by
  obtain ⟨p, hp, rfl⟩ := List.mem_map.mp ha
  obtain ⟨k, hk, e⟩ := List.mem_iff_getElem.mp hp
  have hs : σ[k]? = some (σ[k]'(R.len ▸ hk)) := List.getElem?_eq_getElem _
  exact (R.objs k _ p hs (by rw [List.getElem?_eq_getElem hk, e])).notT
theorem Rel.tupKeep {g ρ σ h} (R : Rel g ρ σ h) {X ρ' h'} (hX : Xok X ρ h) (S : Step X ρ h ρ' h') : ∀ a its n, h.get? a = some (tupObj its n) → h'.get? a = some (tupObj its n) := fun a its n e =>
  S.keep a _ e (fun q => by obtain ⟨o, ho, hn⟩ := R.owned q; rw [e] at ho; cases ho; exact hn.1 _ _ rfl) fun q => by obtain ⟨o, ho, hn⟩ := hX a q; rw [e] at ho; cases ho; exact hn.1 _ _ rfl
theorem Rel.instKeep {g ρ σ h} (R : Rel g ρ σ h) {X ρ' h'} (hX : Xok X ρ h) (S : Step X ρ h ρ' h') : ∀ a C dx, h.get? a = some (instObj C dx) → h'.get? a = some (instObj C dx) := fun a C dx e =>
  S.keep a _ e (fun q => by obtain ⟨o, ho, hn⟩ := R.owned q; rw [e] at ho; cases ho; exact hn.2 _ _ rfl) fun q => by obtain ⟨o, ho, hn⟩ := hX a q; rw [e] at ho; cases ho; exact hn.2 _ _ rfl
theorem VR.step {g ρ σ h} (R : Rel g ρ σ h) {X ρ' h'} (hX : Xok X ρ h) (S : Step X ρ h ρ' h') {x : PV} {v : Value} (V : VR h ρ x v) : VR h' ρ' x v := by
  obtain ⟨δ, rfl, _⟩ := S.ext
  exact V.mono (R.tupKeep hX S)
theorem VRs.step {g ρ σ h} (R : Rel g ρ σ h) {X ρ' h'} (hX : Xok X ρ h) (S : Step X ρ h ρ' h') {x : List PV} {v : List Value} (V : VRs h ρ x v) : VRs h' ρ' x v := by
  obtain ⟨δ, rfl, _⟩ := S.ext
  exact V.mono (R.tupKeep hX S)
theorem xok_nil {ρ h} : Xok [] ρ h := fun _ q => nomatch q
end
section
open PySem PySem.W PyProof.Rows

theorem ORel.keep {w AT} {h h' : Heap} {ρ δ : Rho} {p : Addr × Addr} {o : AObj} (kt : ∀ a its n, h.get? a = some (tupObj its n) → h'.get? a = some (tupObj its n))
    (ki : ∀ a C dx, h.get? a = some (instObj C dx) → h'.get? a = some (instObj C dx)) (ko : ∀ ob, h.get? p.2 = some ob → h'.get? p.2 = some ob)
    (x : ORel w AT h ρ p o) : ORel w AT h' (ρ ++ δ) p o := by
  cases o with
  | list xs =>
    obtain ⟨e, z, its, n, a, b⟩ := x
    exact ⟨e, z, its, n, ko _ a, b.mono fun _ _ r => r.mono kt⟩
  | ro xs =>
    obtain ⟨e, z, its, ⟨o, a, r⟩, b⟩ := x
    exact ⟨e, z, its, ⟨o, ko _ a, r⟩, b.mono fun _ _ r => r.mono kt⟩
  | dict kvs =>
    obtain ⟨e, z, es, n, a, b, c⟩ := x
    exact ⟨e, z, es, n, ko _ a, b.mono fun _ _ r => ⟨r.1.mono kt, r.2.1.mono kt, r.2.2⟩, c⟩
  | inst c fs =>
    obtain ⟨e, es, n, a, b⟩ := x
    exact ⟨ki _ _ _ e, es, n, ko _ a, b.mono fun _ _ r => ⟨r.1, r.2.mono kt⟩⟩

theorem Rel.lookup {g ρ σ h} (R : Rel g ρ σ h) {k : Nat} {o : AObj} (e : σ[k]? = some o) : ∃ p, ρ[k]? = some p ∧ ORel g.w g.AT h ρ p o := by
  have hk : k < ρ.length := by rw [R.len]; exact (List.getElem?_eq_some_iff.mp e).1
  exact ⟨ρ[k], List.getElem?_eq_getElem hk, R.objs k o _ e (List.getElem?_eq_getElem hk)⟩
theorem Rel.own_ne {g ρ σ h} (R : Rel g ρ σ h) {i j : Nat} {p q : Addr × Addr} (ei : ρ[i]? = some p) (ej : ρ[j]? = some q) (hne : i ≠ j) : p.2 ≠ q.2 := by
  intro e
  have hi := (List.getElem?_eq_some_iff.mp ei).1
  have a : (ρ.map (·.2))[i]? = some p.2 := by rw [List.getElem?_map, ei]; rfl
  have b : (ρ.map (·.2))[j]? = some q.2 := by rw [List.getElem?_map, ej]; rfl
  exact hne ((List.getElem?_inj (by simpa using hi) R.nodup).mp (a.trans (by rw [e, b])))
theorem mem_own {ρ : Rho} {k : Nat} {p : Addr × Addr} (e : ρ[k]? = some p) : p.2 ∈ ρ.map (·.2) := List.mem_map.mpr ⟨p, List.mem_of_getElem? e, rfl⟩

theorem Rel.mono {g ρ σ h h' X} (R : Rel g ρ σ h) (hX : Xok X ρ h) (hXb : ∀ a ∈ X, g.h₀.get? a = none) (S : Step X ρ h ρ h')
    (ho : ∀ a ∈ ρ.map (·.2), ∀ o, h.get? a = some o → h'.get? a = some o) : Rel g ρ σ h' where
  keep := fun b o e => S.keep b o (R.keep b o e) (fun q => by
      obtain ⟨p, hp, rfl⟩ := List.mem_map.mp q
      rw [R.above p hp] at e; cases e) fun q => by rw [hXb _ q] at e; cases e
  low := R.low
  mods := R.mods
  above := R.above
  nodup := R.nodup
  len := R.len
  objs := fun k o p e1 e2 => by
    have := (R.objs k o p e1 e2).keep (δ := []) (R.tupKeep hX S) (R.instKeep hX S) (ho _ (mem_own e2))
    rwa [List.append_nil] at this
  fro := fun k xs p e1 e2 => by
    obtain ⟨o, eo, _⟩ := R.owned (mem_own e2)
    rw [ho _ (mem_own e2) o eo, ← R.fro k xs p e1 e2, eo]

theorem Rel.set {g ρ σ h h'} (R : Rel g ρ σ h) {k : Nat} {o o' : AObj} {p : Addr × Addr} (e : σ[k]? = some o) (ep : ρ[k]? = some p) (hs : Heap.SameBut p.2 h h')
    (hn : ORel g.w g.AT h' ρ p o') (hr : ∀ xs, o' ≠ .ro xs := by intro _ e; cases e) : Rel g ρ (σ.set k o') h' := by
  have S : Step [p.2] ρ h ρ h' := ⟨⟨[], by simp, by simp⟩, fun a ob ea => by
    by_cases q : a = p.2
    · obtain ⟨o, eo, _⟩ := hn.notT; exact ⟨o, q ▸ eo⟩
    · exact ⟨ob, (hs.2 a q).trans ea⟩, fun a ob ea _ hx => (hs.2 a (by simpa using hx)).trans ea⟩
  have hX : Xok [p.2] ρ h := fun a ha => by rw [List.mem_singleton.mp ha]; exact R.owned (mem_own ep)
  exact {
    keep := fun b ob eb => (hs.2 b fun q => by rw [q, R.above p (List.mem_of_getElem? ep)] at eb; cases eb).trans (R.keep b ob eb)
    low := R.low
    mods := R.mods
    above := R.above
    nodup := R.nodup
    len := by rw [List.length_set]; exact R.len
    objs := fun j oj q ej eq => by
      by_cases hjk : j = k
      · subst hjk
        rw [ep] at eq; cases eq
        rw [List.getElem?_set_self (List.getElem?_eq_some_iff.mp e).1] at ej
        cases ej; exact hn
      · rw [List.getElem?_set_ne (Ne.symm hjk)] at ej
        have := (R.objs j oj q ej eq).keep (δ := []) (R.tupKeep hX S) (R.instKeep hX S) fun ob eo => (hs.2 _ (R.own_ne eq ep hjk)).trans eo
        rwa [List.append_nil] at this
    fro := fun j xs q ej eq => by
      by_cases hjk : j = k
      · subst hjk
        rw [List.getElem?_set_self (List.getElem?_eq_some_iff.mp e).1] at ej
        cases ej; exact absurd rfl (hr xs)
      · rw [List.getElem?_set_ne (Ne.symm hjk)] at ej
        exact (hs.2 _ (R.own_ne eq ep hjk)).trans (R.fro j xs q ej eq) }
theorem Step.set {ρ : Rho} {h h' : Heap} {k : Nat} {p : Addr × Addr} (ep : ρ[k]? = some p) (hs : Heap.SameBut p.2 h h') (hl : ∃ o, h'.get? p.2 = some o) : Step [] ρ h ρ h' :=
  ⟨⟨[], by simp, by simp⟩, fun a ob ea => by
    by_cases q : a = p.2
    · exact q ▸ hl
    · exact ⟨ob, (hs.2 a q).trans ea⟩, fun a _ ea hn _ => (hs.2 a fun q => hn (q ▸ mem_own ep)).trans ea⟩

theorem Step.grow {ρ : Rho} {h h' : Heap} (k : ∀ a o, h.get? a = some o → h'.get? a = some o) : Step [] ρ h ρ h' :=
  ⟨⟨[], by simp, by simp⟩, fun a o e => ⟨o, k a o e⟩, fun a o e _ _ => k a o e⟩
theorem Rel.grow {g ρ σ h h'} (R : Rel g ρ σ h) (k : ∀ a o, h.get? a = some o → h'.get? a = some o) : Rel g ρ σ h' :=
  R.mono (X := []) xok_nil (fun _ q => nomatch q) (Step.grow k) fun a _ o e => k a o e

theorem Rel.big {g ρ σ h} (R : Rel g ρ σ h) : sysModules < h.objs.size := by
  obtain ⟨o, e⟩ := R.low
  exact Nat.lt_trans (by decide) (Heap.lt_size (R.keep _ _ e))
theorem Rel.ne_mods {g ρ σ h} (R : Rel g ρ σ h) {a : Addr} (ha : h.objs.size ≤ a) : a ≠ sysModules := fun q => Nat.lt_irrefl _ (Nat.lt_of_lt_of_le R.big (q ▸ ha))
theorem Rel.alloc {g ρ σ h} (R : Rel g ρ σ h) {o : AObj} {p : Addr × Addr} (hp : g.h₀.get? p.2 = none) (hf : p.2 ∉ ρ.map (·.2)) (hm : p.2 ≠ sysModules) (hn : ORel g.w g.AT h ρ p o) (hr : ∀ xs, o ≠ .ro xs := by intro _ e; cases e) : Rel g (ρ ++ [p]) (σ ++ [o]) h where
  keep := R.keep
  low := R.low
  mods := fun q hq => by
    rcases List.mem_append.mp hq with hq | hq
    · exact R.mods q hq
    · rw [List.mem_singleton.mp hq]; exact hm
  above := fun q hq => by
    rcases List.mem_append.mp hq with hq | hq
    · exact R.above q hq
    · rw [List.mem_singleton.mp hq]; exact hp
  nodup := by
    rw [List.map_append, List.map_cons, List.map_nil, List.nodup_append]
    refine ⟨R.nodup, by simp, fun a ha b hb e => hf ?_⟩
    rw [List.mem_singleton.mp hb] at e; exact e ▸ ha
  len := by simp [R.len]
  objs := fun k ok q e1 e2 => by
    by_cases hk : k < σ.length
    · rw [List.getElem?_append_left hk] at e1
      rw [List.getElem?_append_left (by rw [R.len]; exact hk)] at e2
      exact (R.objs k ok q e1 e2).keep (fun _ _ _ e => e) (fun _ _ _ e => e) fun _ e => e
    · have hk' : σ.length ≤ k := Nat.le_of_not_lt hk
      rw [List.getElem?_append_right hk'] at e1
      rw [List.getElem?_append_right (by rw [R.len]; exact hk'), R.len] at e2
      have hz : k - σ.length = 0 := by
        have := (List.getElem?_eq_some_iff.mp e1).1
        simp at this; exact this
      rw [hz] at e1 e2
      cases e1; cases e2
      exact hn.keep (fun _ _ _ e => e) (fun _ _ _ e => e) fun _ e => e
  fro := fun k xs q e1 e2 => by
    by_cases hk : k < σ.length
    · rw [List.getElem?_append_left hk] at e1
      rw [List.getElem?_append_left (by rw [R.len]; exact hk)] at e2
      exact R.fro k xs q e1 e2
    · have hk' : σ.length ≤ k := Nat.le_of_not_lt hk
      rw [List.getElem?_append_right hk'] at e1
      have hz : k - σ.length = 0 := by
        have := (List.getElem?_eq_some_iff.mp e1).1
        simp at this; exact this
      rw [hz] at e1
      cases e1
      exact absurd rfl (hr xs)

noncomputable def Like (s s' : Shared) : Prop := ∃ h t, s' = { s with heap := h, toks := t }
theorem Like.refl (s : Shared) : Like s s := ⟨s.heap, s.toks, rfl⟩
theorem Like.trans {a b c : Shared} (x : Like a b) (y : Like b c) : Like a c := by
  obtain ⟨h, t, rfl⟩ := x
  obtain ⟨h', t', rfl⟩ := y
  exact ⟨h', t', rfl⟩
theorem Like.mk (s : Shared) (h : Heap) (t : Nat) : Like s { s with heap := h, toks := t } := ⟨h, t, rfl⟩
theorem Like.hp (s : Shared) (h : Heap) : Like s { s with heap := h } := ⟨h, s.toks, rfl⟩

inductive EP (g : Glb) (ρ : Rho) (s : Shared) (Q : PV → St → Prop) (v : Value) (s' : Shared) : Prop
  | mk (pv : PV) (σ' : St) (ρ' : Rho) (l : Like s s') (S : Step [] ρ s.heap ρ' s'.heap) (R : Rel g ρ' σ' s'.heap) (V : VR s'.heap ρ' pv v) (q : Q pv σ')
inductive EPs (g : Glb) (ρ : Rho) (s : Shared) (Q : List PV → St → Prop) (vs : List Value) (s' : Shared) : Prop
  | mk (pvs : List PV) (σ' : St) (ρ' : Rho) (l : Like s s') (S : Step [] ρ s.heap ρ' s'.heap) (R : Rel g ρ' σ' s'.heap) (V : VRs s'.heap ρ' pvs vs) (q : Q pvs σ')
inductive UP (g : Glb) (ρ : Rho) (s : Shared) (Q : St → Prop) (s' : Shared) : Prop
  | mk (σ' : St) (ρ' : Rho) (l : Like s s') (S : Step [] ρ s.heap ρ' s'.heap) (R : Rel g ρ' σ' s'.heap) (q : Q σ')
abbrev NoE : Value → Shared → Prop := fun _ _ => False

theorem EP.trans {g ρ s ρ' s' Q v s''} (l : Like s s') (S : Step [] ρ s.heap ρ' s'.heap) (x : EP g ρ' s' Q v s'') : EP g ρ s Q v s'' := by
  obtain ⟨pv, σ', ρ'', l', S', R', V', q⟩ := x
  exact ⟨pv, σ', ρ'', l.trans l', S.trans S', R', V', q⟩
theorem EP.here {g ρ σ} {s : Shared} {Q : PV → St → Prop} {pv v} (R : Rel g ρ σ s.heap) (V : VR s.heap ρ pv v) (q : Q pv σ) (t : Nat) : EP g ρ s Q v { s with toks := t } :=
  ⟨pv, σ, ρ, ⟨s.heap, t, rfl⟩, Step.refl .., R, V, q⟩
theorem EP.here' {g ρ σ} {s : Shared} {Q : PV → St → Prop} {pv v} (R : Rel g ρ σ s.heap) (V : VR s.heap ρ pv v) (q : Q pv σ) : EP g ρ s Q v s :=
  ⟨pv, σ, ρ, Like.refl s, Step.refl .., R, V, q⟩

structure Room (n : Nat) (A : Around) : Prop where
  hd : A.handled = none
  dp : A.depth + 2 * n + 4 ≤ recursionLimit
  un : A.units + 20 * n + 1000 ≤ cLine
theorem Room.in1 {n A} (x : Room (n + 1) A) : Room n A.in1 := ⟨x.hd, by have := x.dp; simp only [Around.in1_depth]; (first | lia | omega), by have := x.un; simp only [Around.in1_units]; (first | lia | omega)⟩
theorem Room.less {n m A} (x : Room n A) (h : m ≤ n) : Room m A := ⟨x.hd, by have := x.dp; (first | lia | omega), by have := x.un; (first | lia | omega)⟩
end
section
open PySem PySem.W PyProof.Rows PySem.SeqAt

theorem beq_decide_int (a b : Int) : (a == b) = decide (a = b) := rfl
theorem beq_decide_str (a b : Str) : (a == b) = decide (a = b) := by
  rw [Bool.eq_iff_iff]; simp

theorem eqL_all {f : PV → PV → Option Bool} : ∀ {xs ys : List PV} {b : Bool}, eqL f xs ys = some b →
    ∃ e : Nat → Bool, b = ((List.range (min xs.length ys.length)).all e && xs.length == ys.length) ∧ ∀ j x y, xs[j]? = some x → ys[j]? = some y → f x y = some (e j)
  | [], [], b, h => by cases h; exact ⟨fun _ => true, by simp, fun j x y hx _ => by simp at hx⟩
  | [], _ :: _, b, h => by cases h; exact ⟨fun _ => true, by simp, fun j x y hx _ => by simp at hx⟩
  | _ :: _, [], b, h => by cases h; exact ⟨fun _ => true, by simp, fun j x y _ hy => by simp at hy⟩
  | x :: xs, y :: ys, b, h => by
    replace h : (match f x y with | some a => (match eqL f xs ys with | some b => some (a && b) | none => none) | none => none) = some b := h
    cases ha : f x y with
    | none => rw [ha] at h; exact nos h
    | some a =>
    cases hc : eqL f xs ys with
    | none => rw [ha, hc] at h; exact nos h
    | some c =>
      rw [ha, hc] at h
      cases h
      obtain ⟨e, rfl, he⟩ := eqL_all hc
      refine ⟨fun j => match j with | 0 => a | j + 1 => e j, ?_, ?_⟩
      · simp only [List.length_cons, Nat.add_min_add_right, List.range_succ_eq_map, List.all_cons, List.all_map]
        rw [Bool.and_assoc]
        have e1 : ((fun j => match j with | 0 => a | j + 1 => e j) ∘ Nat.succ) = e := rfl
        rw [e1]
        have e2 : (xs.length + 1 == ys.length + 1) = (xs.length == ys.length) := by rw [Bool.eq_iff_iff]; simp
        rw [e2]
      · intro j x' y' hx hy
        cases j with
        | zero => cases hx; cases hy; exact ha
        | succ j => exact he j x' y' hx hy

theorem isTuple_of {h : Heap} {a : Addr} {its n} (e : h.get? a = some (tupObj its n)) : h.IsTuple a its := ⟨_, e, rfl, n, rfl⟩
theorem isList_of {h : Heap} {a : Addr} {its n} (e : h.get? a = some (lstObj its n)) : h.IsList a its := ⟨_, e, rfl, n, rfl⟩

theorem eqv_same {h : Heap} {ρ : Rho} : ∀ (n : Nat) {x y : PV} {v : Value} {b : Bool}, eqv n x y = some b → VR h ρ x v → VR h ρ y v → b = true := by
  intro n
  induction n with
  | zero => exact fun e => nos e
  | succ n ih =>
    intro x y v b e hx hy
    cases hx with
    | none => exact nos e
    | bool => exact nos e
    | obj => exact nos e
    | int i => cases hy; exact (Option.some.inj e).symm.trans (decide_eq_true rfl)
    | str i => cases hy; exact (Option.some.inj e).symm.trans (decide_eq_true rfl)
    | tup ha ka _ =>
      cases hy with
      | obj => exact nos e
      | tup hb kb _ =>
        rw [ha] at hb
        cases hb
        obtain ⟨f, rfl, hf⟩ := eqL_all e
        have l1 := ka.all.length
        have l2 := kb.all.length
        rw [Bool.and_eq_true, List.all_eq_true]
        refine ⟨fun j hj => ?_, by simp [l1, l2]⟩
        rw [List.mem_range] at hj
        have h1 : j < _ := Nat.lt_of_lt_of_le hj (Nat.min_le_left _ _)
        have h2 : j < _ := Nat.lt_of_lt_of_le hj (Nat.min_le_right _ _)
        obtain ⟨v1, e1, r1⟩ := ka.all.get (List.getElem?_eq_getElem h1)
        obtain ⟨v2, e2, r2⟩ := kb.all.get (List.getElem?_eq_getElem h2)
        rw [e1] at e2; cases e2
        exact ih (hf j _ _ (List.getElem?_eq_getElem h1) (List.getElem?_eq_getElem h2)) r1 r2

theorem eqv_at {ρ : Rho} : ∀ (n : Nat) {A : Around} {s : Shared} {x y : PV} {v w : Value} {b : Bool}, eqv n x y = some b → VR s.heap ρ x v → VR s.heap ρ y w → A.units + n < cLine →
    RcAt A s v w b ∧ RcNeAt A s v w (!b) ∧ EqAt A s v w b := by
  intro n
  induction n with
  | zero => exact fun e => nos e
  | succ n ih =>
    intro A s x y v w b e hx hy hu
    have hu0 : A.units < cLine := by (first | lia | omega)
    cases hx with
    | none => exact nos e
    | bool => exact nos e
    | obj => exact nos e
    | int i t =>
      cases hy with
      | none => exact nos e
      | bool => exact nos e
      | obj => exact nos e
      | int j u => cases (show (i == j) = b from Option.some.inj e); exact ⟨RcAt.int_int _ _ _ _, RcNeAt.int_int _ _ _ _, EqAt.int_int _ _ _ _⟩
      | str j u => cases (show false = b from Option.some.inj e); exact ⟨RcAt.int_str _ _ _ _, RcNeAt.int_str _ _ _ _, EqAt.int_str _ _ _ _⟩
      | tup hb kb _ => cases (show false = b from Option.some.inj e); exact ⟨RcAt.int_tuple _ _ (isTuple_of hb) hu0, RcNeAt.int_tuple _ _ (isTuple_of hb) hu0, EqAt.int_tuple _ _ (isTuple_of hb) hu0⟩
    | str i t =>
      cases hy with
      | none => exact nos e
      | bool => exact nos e
      | obj => exact nos e
      | int j u => cases (show false = b from Option.some.inj e); exact ⟨RcAt.str_int _ _ _ _, RcNeAt.str_int _ _ _ _, EqAt.str_int _ _ _ _⟩
      | str j u => cases (beq_decide_str i j).trans (Option.some.inj e); exact ⟨RcAt.str_str _ _ _ _, RcNeAt.str_str _ _ _ _, EqAt.str_str _ _ _ _⟩
      | tup hb kb _ => cases (show false = b from Option.some.inj e); exact ⟨RcAt.str_tuple _ _ (isTuple_of hb) hu0, RcNeAt.str_tuple _ _ (isTuple_of hb) hu0, EqAt.str_tuple _ _ (isTuple_of hb) hu0⟩
    | @tup la ita na xs ha ka za =>
      cases hy with
      | none => exact nos e
      | bool => exact nos e
      | obj => exact nos e
      | int j u => cases (show false = b from Option.some.inj e); exact ⟨RcAt.tuple_int _ _ (isTuple_of ha) hu0, RcNeAt.tuple_int _ _ (isTuple_of ha) hu0, EqAt.tuple_int _ _ (isTuple_of ha) hu0⟩
      | str j u => cases (show false = b from Option.some.inj e); exact ⟨RcAt.tuple_str _ _ (isTuple_of ha) hu0, RcNeAt.tuple_str _ _ (isTuple_of ha) hu0, EqAt.tuple_str _ _ (isTuple_of ha) hu0⟩
      | @tup lb itb nb ys hb kb zb =>
        have e0 := e
        obtain ⟨f, rfl, hf⟩ := eqL_all e
        have l1 := ka.all.length
        have l2 := kb.all.length
        have he : ∀ j (h1 : j < ita.size) (h2 : j < itb.size), EqAt A.in1 s ita[j] itb[j] (f j) := fun j h1 h2 => by
          obtain ⟨x', ex, rx⟩ := ka.all.get' (i := j) (y := ita[j]) (by simp [h1])
          obtain ⟨y', ey, ry⟩ := kb.all.get' (i := j) (y := itb[j]) (by simp [h2])
          exact (ih (hf j _ _ ex ey) rx ry (by simp only [Around.in1_units]; (first | lia | omega))).2.2
        have r1 := RcAt.tuples (isTuple_of ha) (isTuple_of hb) hu0 he
        have r2 := RcNeAt.tuples (isTuple_of ha) (isTuple_of hb) hu0 he
        simp only [Array.length_toList] at l1 l2
        rw [l1, l2] at e0 ⊢
        refine ⟨r1, ?_, ?_⟩
        · exact r2
        · by_cases hne : la = lb
          · subst hne
            have := eqv_same (n + 1) e0 (.tup ha ka za) (.tup hb kb zb)
            rw [this]
            exact EqAt.same _
          · exact EqAt.of_refs hne r1
end
section
open PySem PySem.W PyProof.Rows

noncomputable def AN : List Str := ["texts", "atom_numbers", "functors", "functor_numbers", "next", "fresh", "used", "ball", "atom", "text", "functor", "func", "name", "arity", "number", "variable"]
noncomputable def attrId (a : Str) : Option Nat := AN.findIdx? (· == a)
noncomputable def attrAt (i : Nat) : Str := AN.getD i Str.empty

structure CC where
  vars : List (Str × Nat)
  names : List (Str × NameKind)

inductive SV : Expr → Type where
  | name (x : Str) (p : Pos) : SV (.Name x p)
  | attr (o : Expr) (a : Str) (p : Pos) : SV (.Attribute o a p)
  | sub (o i : Expr) (p : Pos) : SV (.Subscript o i p)
  | slice (lo hi st : Option Expr) (p : Pos) : SV (.Slice lo hi st p)
  | tup (es : List Expr) (k : Nat) (p : Pos) : SV (.Tuple es k p)
  | call (f : Expr) (args : List Expr) (p : Pos) : SV (.Call f args [] p)
  | const (c : Const) (k : Nat) (p : Pos) : SV (.Constant c k p)
  | other (e : Expr) : SV e
noncomputable def svCall (f : Expr) (args : List Expr) (p : Pos) : (kws : List Keyword) → SV (.Call f args kws p)
  | [] => .call f args p
  | _ :: _ => .other _
noncomputable def sv : (e : Expr) → SV e
  | .Name x p => .name x p
  | .Attribute o a p => .attr o a p
  | .Subscript o i p => .sub o i p
  | .Slice lo hi st p => .slice lo hi st p
  | .Tuple es k p => .tup es k p
  | .Call f args kws p => svCall f args p kws
  | .Constant c k p => .const c k p
  | e => .other e
noncomputable def isNm (e : Expr) (x : Str) : Bool := match sv e with
  | .name y _ => y == x
  | _ => false
theorem isNm_inv {e : Expr} {x : Str} (h : isNm e x = true) : ∃ p, e = .Name x p := by
  revert h
  unfold isNm
  cases sv e with
  | name y p => intro h; exact ⟨p, by rw [beq_iff_eq.mp h]⟩
  | _ => intro h; exact Bool.noConfusion h
/- kinds of an expression, by the number of its constructor -/
noncomputable def notStar (e : Expr) : Bool := !(e.ctorIdx == 22)
noncomputable def notSlice (e : Expr) : Bool := !(e.ctorIdx == 26)
noncomputable def notSet (e : Expr) : Bool := !(e.ctorIdx == 7)
noncomputable def plainBase (e : Expr) : Bool := !(e.ctorIdx == 16)
noncomputable def isComp (e : Expr) : Bool := e.ctorIdx == 8 || e.ctorIdx == 9 || e.ctorIdx == 10
noncomputable def isCmp (e : Expr) : Bool := e.ctorIdx == 15
noncomputable def isTup (e : Expr) : Bool := e.ctorIdx == 25 || e.ctorIdx == 24
noncomputable def CC.implicit (cc : CC) (x : Str) : Bool := (cc.vars.lookup x).isNone && cc.names.lookup x == some .globalImplicit && x != ("__debug__" : Str)
noncomputable def compNames (outer : List (Str × NameKind)) (sc : Scope) : List (Str × NameKind) :=
  sc.names.map fun (n, k) => if k == .free && outer.lookup n == some .cell then (n, .cell) else (n, k)
noncomputable def CC.inner (cc : CC) (x : Str) (sc : Scope) : CC :=
  { vars := (x, 50) :: cc.vars.filter (fun p => sc.names.lookup p.1 == some .free && p.1 != x), names := compNames cc.names sc }
noncomputable def CC.compOk (cc : CC) (x : Str) (sc : Scope) : Bool :=
  sc.kind == .function && sc.names.lookup x == some .local && sc.names.all (fun p => p.2 == .local && sc.names.lookup p.1 == some .local || p.2 == .globalImplicit || (p.2 == .free && cc.names.lookup p.1 == some .cell && sc.names.lookup p.1 == some .free && p.1 != ("__classdict__" : Str)))
  && cc.vars.all (fun p => decide (p.2 < 50)) && x != ("__debug__" : Str) && x != (".0" : Str)

noncomputable def binPrimC : Operator → Option Prim
  | .Add => some .add
  | .Sub => some .sub
  | .Mod => some .mod
  | _ => none
noncomputable def cmpPrimC : CmpOp → Option Prim
  | .Eq => some .eq
  | .NotEq => some .ne
  | .Lt => some .lt
  | .LtE => none
  | .Gt => some .gt
  | .GtE => some .ge
  | .Is => some .is
  | .IsNot => some .isNot
  | .In => some .inn
  | .NotIn => some .notIn
noncomputable def MEs.of : List ME → MEs
  | [] => .nil
  | e :: r => .cons e (MEs.of r)
noncomputable def argsC (es : List Expr) (f : Expr → ME) : MEs := if es.all notStar then MEs.of (es.map f) else .cons .stuck .nil

section
variable (K : Frag)
noncomputable def gval (x : Str) : Option Value := (nsIn K mainGlobals x).join
noncomputable def isB (x : Str) : Bool := match nsIn K mainGlobals x with | some none => true | _ => false

noncomputable def valInt : Value → Option Int
  | .int i _ => some i
  | _ => none
noncomputable def valRef : Value → Option Addr
  | .ref a => some a
  | _ => none
noncomputable def onlyIf (b : Bool) (f : Addr) : Option Addr := if b = true then some f else none
theorem valInt_inv {v : Value} {i : Int} (h : valInt v = some i) : ∃ t, v = .int i t := by cases v <;> first | exact nos h | exact ⟨_, by rw [Option.some.inj h]⟩
theorem valRef_inv {v : Value} {a : Addr} (h : valRef v = some a) : v = .ref a := by cases v <;> first | exact nos h | rw [Option.some.inj h]
theorem onlyIf_inv {b : Bool} {f f' : Addr} (h : onlyIf b f = some f') : b = true ∧ f = f' := by
  unfold onlyIf at h
  cases b with
  | false => exact nos h
  | true => exact ⟨rfl, Option.some.inj h⟩
noncomputable def gInt (x : Str) : Option Int := (gval K x).bind valInt
noncomputable def gRef (x : Str) : Option Addr := (gval K x).bind fun v => (valRef v).bind fun a => onlyIf (keepIn K (.ref a)) a
variable {K} in
theorem gInt_inv {x : Str} {i : Int} (h : gInt K x = some i) : ∃ t, gval K x = some (.int i t) := by
  obtain ⟨v, e, h⟩ := Option.bind_eq_some_iff.mp h
  obtain ⟨t, rfl⟩ := valInt_inv h
  exact ⟨t, e⟩
variable {K} in
theorem gRef_inv {x : Str} {a : Addr} (h : gRef K x = some a) : gval K x = some (.ref a) ∧ keepIn K (.ref a) = true := by
  obtain ⟨v, e, h⟩ := Option.bind_eq_some_iff.mp h
  obtain ⟨b, e', h⟩ := Option.bind_eq_some_iff.mp h
  obtain ⟨hb, rfl⟩ := onlyIf_inv h
  rw [valRef_inv e'] at e
  exact ⟨e, hb⟩

noncomputable def one? (args : List Expr) : Option Expr := match args with
  | [] => none
  | a :: r => match r with
    | [] => some a
    | _ :: _ => none
noncomputable def revArg? (cc : CC) (e : Expr) : Option Expr := match sv e with
  | .call f args _ => if (isNm f "reversed" && cc.implicit "reversed" && isB K "reversed" && args.all notStar) = true then one? args else none
  | _ => none
noncomputable def rangeArgs? (cc : CC) (e : Expr) : Option (List Expr) := match sv e with
  | .call f args _ => if (isNm f "range" && cc.implicit "range" && isB K "range") = true then some args else none
  | _ => none
noncomputable def valsOf (f : Expr) (args : List Expr) (pos : Pos) : Option Expr := match sv f with
  | .attr d m ap => if (m == "values" && ap.endLine == pos.line && plainBase d && args.isEmpty) = true then some d else none
  | _ => none
noncomputable def valsArg? (e : Expr) : Option Expr := match sv e with
  | .call f args pos => valsOf f args pos
  | _ => none

variable {K} in
theorem one_inv {l : List Expr} {a : Expr} (h : one? l = some a) : l = [a] := by
  match l, h with
  | [_], h => rw [Option.some.inj h]
variable {K} in
theorem rev_of {cc : CC} {e t : Expr} (h : revArg? K cc e = some t) : ∃ p pos, e = .Call (.Name "reversed" p) [t] [] pos ∧ cc.implicit "reversed" = true ∧ isB K "reversed" = true ∧ notStar t = true := by
  revert h
  unfold revArg?
  cases sv e with
  | call f args pos =>
    intro h
    obtain ⟨h, q⟩ := ite_inv h
    obtain ⟨h, hs⟩ := Bool.and_eq_true_iff.mp h
    obtain ⟨h, hB⟩ := Bool.and_eq_true_iff.mp h
    obtain ⟨h, hi⟩ := Bool.and_eq_true_iff.mp h
    obtain ⟨p, rfl⟩ := isNm_inv h
    cases one_inv q
    exact ⟨p, pos, rfl, hi, hB, (Bool.and_eq_true_iff.mp hs).1⟩
  | _ => exact fun h => nos h
variable {K} in
theorem range_of {cc : CC} {e : Expr} {args : List Expr} (h : rangeArgs? K cc e = some args) : ∃ p pos, e = .Call (.Name "range" p) args [] pos ∧ cc.implicit "range" = true ∧ isB K "range" = true := by
  revert h
  unfold rangeArgs?
  cases sv e with
  | call f args pos =>
    intro h
    obtain ⟨h, q⟩ := ite_inv h
    obtain ⟨h, hB⟩ := Bool.and_eq_true_iff.mp h
    obtain ⟨h, hi⟩ := Bool.and_eq_true_iff.mp h
    obtain ⟨p, rfl⟩ := isNm_inv h
    cases q
    exact ⟨p, pos, rfl, hi, hB⟩
  | _ => exact fun h => nos h
theorem valsOf_inv {f d : Expr} {args : List Expr} {pos : Pos} (h : valsOf f args pos = some d) : ∃ ap, f = .Attribute d "values" ap ∧ args = [] ∧ (ap.endLine == pos.line) = true ∧ plainBase d = true := by
  revert h
  unfold valsOf
  cases sv f with
  | attr o m ap =>
    intro h
    obtain ⟨h, q⟩ := ite_inv h
    obtain ⟨h1, ha⟩ := Bool.and_eq_true_iff.mp h
    obtain ⟨h2, hb⟩ := Bool.and_eq_true_iff.mp h1
    obtain ⟨h3, hl⟩ := Bool.and_eq_true_iff.mp h2
    have e : m = "values" := beq_iff_eq.mp h3
    cases q
    exact ⟨ap, by rw [e], List.isEmpty_iff.mp ha, hl, hb⟩
  | _ => exact fun h => nos h
theorem vals_of {r d : Expr} (h : valsArg? r = some d) : ∃ ap pos, r = .Call (.Attribute d "values" ap) [] [] pos ∧ (ap.endLine == pos.line) = true ∧ plainBase d = true := by
  revert h
  unfold valsArg?
  cases sv r with
  | call f args pos =>
    intro h
    obtain ⟨ap, rfl, rfl, hl, hb⟩ := valsOf_inv h
    exact ⟨ap, pos, rfl, hl, hb⟩
  | _ => exact fun h => nos h
noncomputable def cConst : Const → ME
  | .none => .none
  | .bool b => .bool b
  | .int i => .int i
  | .str s => .str s
  | _ => .stuck
noncomputable def cNameG (o : Option Int) : ME := match o with
  | some i => .int i
  | none => .stuck
noncomputable def cNameV (o : Option Nat) (e : ME) : ME := match o with
  | some i => .var i
  | none => e
noncomputable def cName (cc : CC) (x : Str) : ME := if x = "__debug__" then .stuck else cNameV (cc.vars.lookup x) (if cc.implicit x = true then cNameG (gInt K x) else .stuck)
noncomputable def cNeg (op : UnaryOp) (x : Expr) : ME := if (op.ctorIdx == 3) = true then (match sv x with
  | .const c _ _ => (match c with
    | .int i => .int (-i)
    | _ => .stuck)
  | _ => .stuck) else .stuck
noncomputable def cBin (op : Operator) (a b : ME) : ME := match binPrimC op with
  | some p => .prim p (.cons a (.cons b .nil))
  | none => .stuck
noncomputable def cDict (ks : List (Option Expr)) (vs : List Expr) : ME := match ks with
  | [] => match vs with
    | [] => .dict0
    | _ => .stuck
  | _ => .stuck
noncomputable def cBool (op : BoolOp) (es : List Expr) (f : Expr → ME) : ME := match op with
  | .Or => match es with
    | [a, b] => .or (f a) (f b)
    | _ => .stuck
  | _ => .stuck
noncomputable def isIn (op : CmpOp) : Bool := op.ctorIdx == 8
noncomputable def cCmp2 (l : Expr) (op : CmpOp) (r : Expr) (f : Expr → ME) : ME := if notSet r = true then (match cmpPrimC op with
  | some p => .prim p (.cons (f l) (.cons (f r) .nil))
  | none => .stuck) else .stuck
noncomputable def cCmp1 (l : Expr) (op : CmpOp) (r : Expr) (f : Expr → ME) : ME := match valsArg? r with
  | some d => if isIn op = true then .prim .inVals (.cons (f l) (.cons (f d) .nil)) else .stuck
  | none => cCmp2 l op r f
noncomputable def cCmp (l : Expr) (ops : List CmpOp) (rs : List Expr) (f : Expr → ME) : ME := match ops with
  | [op] => match rs with
    | [r] => cCmp1 l op r f
    | _ => .stuck
  | _ => .stuck
noncomputable def cAttr (v : Expr) (a : Str) (f : Expr → ME) : ME := match attrId a with
  | some i => if plainBase v then .attr (f v) i else .stuck
  | none => .stuck
noncomputable def cSub (v i : Expr) (f : Expr → ME) (o : Option Expr → ME) : ME := if notSlice i = true then .prim .idx (.cons (f v) (.cons (f i) .nil)) else match sv i with
  | .slice lo hi st _ => .prim .slice (.cons (f v) (.cons (o lo) (.cons (o hi) (.cons (o st) .nil))))
  | _ => .stuck
noncomputable def bmOf (m : Str) (k : Nat) : Option BM :=
  if (m == "append" && k == 1) = true then some .append else if (m == "pop" && k == 0) = true then some .pop else if (m == "get" && k == 2) = true then some .get
  else none
noncomputable def cExt (cc : CC) (o : Expr) (args : List Expr) (f : Expr → ME) : ME := match one? args with
  | some a => match revArg? K cc a with
    | some t => .bm .extendRev (f o) (.cons (f t) .nil)
    | none => .stuck
  | none => .stuck
noncomputable def cMeth (o : Expr) (m : Str) (args : List Expr) (f : Expr → ME) : ME := match attrId m with
  | some i => .meth (f o) i (MEs.of (args.map f))
  | none => .stuck
noncomputable def cCallA (cc : CC) (o : Expr) (m : Str) (ap : Pos) (args : List Expr) (pos : Pos) (f : Expr → ME) : ME :=
  if (ap.endLine == pos.line && plainBase o && decide (args.length < 20) && args.all notStar) = true then
    (match bmOf m args.length with
    | some b => .bm b (f o) (MEs.of (args.map f))
    | none => if (m == "extend") = true then cExt K cc o args f else cMeth o m args f)
  else .stuck
noncomputable def fn1 (g : Str) : Option Prim :=
  if (g == "len") = true then some .len else if (g == "tuple") = true then some .tupleOf
  else if (g == "abs") = true then some .abs
  else none
noncomputable def cList (cc : CC) (x : Expr) (f : Expr → ME) : ME := match revArg? K cc x with
  | some t => .prim .listRev (.cons (f t) .nil)
  | none => .stuck
noncomputable def cFn1 (cc : CC) (g : Str) (x : Expr) (f : Expr → ME) : ME := match fn1 g with
  | some p => .prim p (.cons (f x) .nil)
  | none => if (g == "list") = true then cList K cc x f else .stuck
noncomputable def cFnB (cc : CC) (g : Str) (args : List Expr) (f : Expr → ME) : ME := match one? args with
  | some x => if isB K g = true then cFn1 K cc g x f else .stuck
  | none => .stuck
noncomputable def cCallN (cc : CC) (g : Str) (args : List Expr) (f : Expr → ME) : ME :=
  if (cc.implicit g && decide (args.length < 20) && args.all notStar) = true then
    (match gRef K g with
    | some a => if fnIn K a = true then .call a (MEs.of (args.map f)) else .new a (MEs.of (args.map f))
    | none => cFnB K cc g args f)
  else .stuck
noncomputable def cCall (cc : CC) (c : Expr) (args : List Expr) (kws : List Keyword) (pos : Pos) (f : Expr → ME) : ME := match kws with
  | [] => match sv c with
    | .attr o m ap => cCallA K cc o m ap args pos f
    | .name g _ => cCallN K cc g args f
    | _ => .stuck
  | _ :: _ => .stuck
noncomputable def cCompN (cc : CC) (elt t i : Expr) (ifs : List Expr) (sc : Scope) (f : CC → Expr → ME) (it : Expr → MI) (c : CC → List Expr → MT) : ME := match sv t with
  | .name x _ => if cc.compOk x sc = true then .comp (f (cc.inner x sc) elt) 50 (it i) (c (cc.inner x sc) ifs) else .stuck
  | _ => .stuck
noncomputable def cComp (cc : CC) (elt : Expr) (gens : List Comprehension) (sc : Scope) (f : CC → Expr → ME) (it : Expr → MI) (c : CC → List Expr → MT) : ME := match gens with
  | [] => .stuck
  | ⟨t, i, ifs, as⟩ :: r => match r with
    | [] => if as = 0 then cCompN cc elt t i ifs sc f it c else .stuck
    | _ :: _ => .stuck

inductive TV : Expr → Type where
  | not (x : Expr) (p : Pos) : TV (.UnaryOp .Not x p)
  | bool (op : BoolOp) (es : List Expr) (p : Pos) : TV (.BoolOp op es p)
  | plain (e : Expr) (h : ∀ env, isCmp e = true ∨ isTrue e env (eval e env) = (do let v ← eval e env; standAt e.pos; holding [v] (PySem.truthy v))) : TV e
  | other (e : Expr) : TV e
noncomputable def tview : (e : Expr) → TV e
  | .UnaryOp op x p => match op with
    | .Not => .not x p
    | _ => .other _
  | .BoolOp op es p => .bool op es p
  | .Compare .. => .plain _ fun _ => .inl rfl
  | .Name .. => .plain _ fun _ => .inr rfl
  | .Attribute .. => .plain _ fun _ => .inr rfl
  | .Subscript .. => .plain _ fun _ => .inr rfl
  | .Call .. => .plain _ fun _ => .inr rfl
  | .Constant .. => .plain _ fun _ => .inr rfl
  | _ => .other _
noncomputable def andL : List MT → MT
  | [] => .e .stuck
  | a :: r => match r with
    | [] => a
    | _ :: _ => .and a (andL r)
noncomputable def orL : List MT → MT
  | [] => .e .stuck
  | a :: r => match r with
    | [] => a
    | _ :: _ => .or a (orL r)
noncomputable def cTB (op : BoolOp) (es : List Expr) (f : Expr → MT) : MT := match op with
  | .And => andL (es.map f)
  | .Or => orL (es.map f)
noncomputable def cIV (cc : CC) (e : Expr) (f : Expr → ME) : MI := match revArg? K cc e with
  | some t => .rev (f t)
  | none => if notSet e = true then .val (f e) else .val .stuck
mutual
noncomputable def cE : Nat → CC → Expr → ME
  | 0, _, _ => .stuck
  | n + 1, cc, e => match e with
    | .Constant c _ _ => cConst c
    | .Name x _ => cName K cc x
    | .UnaryOp op x _ => cNeg op x
    | .BinOp l op r _ => cBin op (cE n cc l) (cE n cc r)
    | .Tuple es _ _ => .tup (argsC es (cE n cc))
    | .List es _ => .list (argsC es (cE n cc))
    | .Dict ks vs _ => cDict ks vs
    | .IfExp t a b _ => .ite (cT n cc t) (cE n cc a) (cE n cc b)
    | .BoolOp op es _ => cBool op es (cE n cc)
    | .Compare l ops rs _ => cCmp l ops rs (cE n cc)
    | .Attribute v a _ => cAttr v a (cE n cc)
    | .Subscript v i _ => cSub v i (cE n cc) (cO n cc)
    | .Call c args kws pos => cCall K cc c args kws pos (cE n cc)
    | .ListComp elt gens sc _ => cComp cc elt gens sc (fun c e => cE n c e) (cI n cc) (fun c l => cIfs n c l)
    | _ => .stuck
noncomputable def cO : Nat → CC → Option Expr → ME
  | 0, _, _ => .stuck
  | n + 1, cc, o => match o with
    | none => .none
    | some e => cE n cc e
noncomputable def cIfs : Nat → CC → List Expr → MT
  | 0, _, _ => .e .stuck
  | n + 1, cc, l => match l with
    | [] => .tt
    | [c] => cT n cc c
    | _ => .e .stuck
noncomputable def cT : Nat → CC → Expr → MT
  | 0, _, _ => .e .stuck
  | n + 1, cc, e => match tview e with
    | .not x _ => .not (cT n cc x)
    | .bool op es _ => cTB op es (cT n cc)
    | .plain e _ => .e (cE n cc e)
    | .other _ => .e .stuck
noncomputable def cI : Nat → CC → Expr → MI
  | 0, _, _ => .val .stuck
  | n + 1, cc, e => match rangeArgs? K cc e with
    | some args => .range (argsC args (cE n cc))
    | none => cIV K cc e (cE n cc)
end

noncomputable def nmIx (cc : CC) (e : Expr) : Option Nat := match sv e with
  | .name x _ => cc.vars.lookup x
  | _ => none
noncomputable def cNames (cc : CC) : List Expr → Option (List Nat)
  | [] => some []
  | e :: r => (nmIx cc e).bind fun i => (cNames cc r).map (i :: ·)
noncomputable def cTGt (o : Option (List Nat)) : TG := match o with
  | some is => .tup is
  | none => .stuck
noncomputable def cTGa (o : Option Nat) (e : ME) : TG := match o with
  | some i => .attr e i
  | none => .stuck
noncomputable def cTGv (o : Option Nat) : TG := match o with
  | some i => .var i
  | none => .stuck
noncomputable def cTG (n : Nat) (cc : CC) (t : Expr) : TG := match sv t with
  | .name x _ => cTGv (cc.vars.lookup x)
  | .tup es _ _ => cTGt (cNames cc es)
  | .attr o a _ => cTGa (attrId a) (cE K n cc o)
  | .sub o i _ => if notSlice i = true then .idx (cE K n cc o) (cE K n cc i) else .stuck
  | _ => .stuck

noncomputable def cRet (v : Option Expr) (f : Expr → ME) : MS := match v with
  | some e => .ret (f e)
  | none => .ret .none
noncomputable def cAsg (n : Nat) (cc : CC) (ts : List Expr) (e : Expr) : MS := match one? ts with
  | some t => if ((isTup t && isTup e) || isComp e) = true then .stuck else .assign (cTG K n cc t) (cE K n cc e)
  | none => .stuck
noncomputable def isAdd (op : Operator) : Bool := op.ctorIdx == 0
noncomputable def cAug (cc : CC) (t : Expr) (op : Operator) (f : Expr → ME) (e : ME) : MS := if isAdd op = true then (match sv t with
  | .sub o i _ => if notSlice i = true then .augIdx (f o) (f i) e else .stuck
  | _ => .stuck) else .stuck
noncomputable def cNil (l : List Stmt) (x : MS) : MS := match l with
  | [] => x
  | _ => .stuck
noncomputable def cForN (cc : CC) (x : Str) (it : MI) (b : MS) : MS := match cc.vars.lookup x with
  | some i => .for i it b
  | none => .stuck
noncomputable def cFor (cc : CC) (t : Expr) (it : MI) (b : MS) (e : List Stmt) : MS := match sv t with
  | .name x _ => cNil e (cForN cc x it b)
  | _ => .stuck
mutual
noncomputable def cS : Nat → CC → Stmt → MS
  | 0, _, _ => .stuck
  | n + 1, cc, s => match s with
    | .Expr e _ => if isComp e then .stuck else .expr (cE K n cc e)
    | .Pass _ => .skip
    | .Return v _ => cRet v (cE K n cc)
    | .Assign ts e _ => cAsg K n cc ts e
    | .AugAssign t op e _ => cAug cc t op (cE K n cc) (cE K n cc e)
    | .If t a b _ => .ite (cT K n cc t) (cSs n cc a) (cSs n cc b)
    | .While t b e _ => cNil e (.loop (cT K n cc t) (cSs n cc b))
    | .For t it b e _ => cFor cc t (cI K n cc it) (cSs n cc b) e
    | _ => .stuck
noncomputable def cSs : Nat → CC → List Stmt → MS
  | 0, _, _ => .stuck
  | n + 1, cc, l => match l with
    | [] => .skip
    | s :: r => .seq (cS n cc s) (cSs n cc r)
end

noncomputable def fnCC (fd : FuncData) : CC :=
  let ps := fd.params.args.map (·.arg)
  { vars := (ps ++ (fd.scope.names.filter fun p => (p.2 == .local || p.2 == .cell) && !ps.contains p.1).map (·.1)).zipIdx, names := fd.scope.names }
noncomputable def depthC : Nat := 40
noncomputable def seqOf : Data → Option (Array Value × Nat)
  | .seq its n => some (its, n)
  | _ => none
noncomputable def fdOf : Data → Option FuncData
  | .func fd => some fd
  | _ => none
noncomputable def dfltOk (fd : FuncData) : Bool := fd.defaults == .none || ((valRef fd.defaults).bind fun T => (K.lookup T).bind fun o => seqOf o.data).isSome
noncomputable def okFn (fd : FuncData) : Bool := dfltOk K fd &&
  fd.params.posonlyargs.isEmpty && fd.params.vararg.isNone && fd.params.kwonlyargs.isEmpty && fd.params.kwarg.isNone &&
  decide (fd.globals = mainGlobals) && fd.closure.isEmpty && decide (fd.builtins = builtinsNs) && fd.scope.kind == .function && !fd.scope.isGenerator && !fd.scope.isCoroutine &&
  codeIn K fd.code fd.qualname && decide ((fnCC fd).vars.map (·.1)).Nodup && (fnCC fd).vars.all (fun p => decide (p.2 < 50) && (fd.scope.names.lookup p.1 == some .local || fd.scope.names.lookup p.1 == some .cell)) &&
  decide (fd.scope.names.map (·.1)).Nodup
noncomputable def fnBody (fd : FuncData) : Option (List Stmt) := match fd.body with
  | .stmts b => some b
  | .expr _ => none
noncomputable def fnFR (a : Addr) : Option FR := (K.lookup a).bind fun o => (fdOf o.data).bind fun fd => (fnBody fd).bind fun b => if okFn K fd = true then some ⟨fd.params.args.length, cSs K depthC (fnCC fd) b⟩ else none
noncomputable def refOf (o : Option (Option Value)) : Option Addr := o.bind fun o => o.bind valRef
noncomputable def initOf (c : Addr) : Option Addr := (refOf (findIn K (.ref c) "__init__")).bind fun f => onlyIf (makesIn K c && isFn K (.ref f)) f
noncomputable def methOf (c : Addr) (m : Nat) : Option Addr := (refOf (findIn K (.ref c) (attrAt m))).bind fun f => onlyIf (plainGet K c (attrAt m) && isFn K (.ref f) && keepIn K (.ref f)) f
theorem refOf_inv {o : Option (Option Value)} {f : Addr} (h : refOf o = some f) : o = some (some (.ref f)) := by
  obtain ⟨o', e, h⟩ := Option.bind_eq_some_iff.mp h
  obtain ⟨v, e', h⟩ := Option.bind_eq_some_iff.mp h
  rw [e, e', valRef_inv h]
variable {K} in
theorem initOf_inv {c f : Addr} (h : initOf K c = some f) : findIn K (.ref c) "__init__" = some (some (.ref f)) ∧ makesIn K c = true ∧ isFn K (.ref f) = true := by
  obtain ⟨f', e, h⟩ := Option.bind_eq_some_iff.mp h
  obtain ⟨hb, rfl⟩ := onlyIf_inv h
  rw [Bool.and_eq_true] at hb
  exact ⟨refOf_inv e, hb.1, hb.2⟩
variable {K} in
theorem methOf_inv {c f : Addr} {m : Nat} (h : methOf K c m = some f) : findIn K (.ref c) (attrAt m) = some (some (.ref f)) ∧ plainGet K c (attrAt m) = true ∧ isFn K (.ref f) = true ∧ keepIn K (.ref f) = true := by
  obtain ⟨f', e, h⟩ := Option.bind_eq_some_iff.mp h
  obtain ⟨hb, rfl⟩ := onlyIf_inv h
  rw [Bool.and_eq_true, Bool.and_eq_true] at hb
  exact ⟨refOf_inv e, hb.1.1, hb.1.2, hb.2⟩
noncomputable def fldOf (c : Addr) (m : Nat) : Bool := plainGet K c (attrAt m) && (hasDictIn K c && ((match findIn K (.ref c) (attrAt m) with | some attr => noGet K attr | none => false) &&
  (findIn K (.ref c) "__setattr__" == some (some (.builtin "object.__setattr__")) && (plainOver K c && takerIn K c (attrAt m) == some none))))
variable {K} in
theorem fldOf_inv {c : Addr} {m : Nat} (h : fldOf K c m = true) : plainGet K c (attrAt m) = true ∧ hasDictIn K c = true ∧ (∃ attr, findIn K (.ref c) (attrAt m) = some attr ∧ noGet K attr = true) ∧ findIn K (.ref c) "__setattr__" = some (some (.builtin "object.__setattr__")) ∧
    plainOver K c = true ∧ takerIn K c (attrAt m) = some none := by
  obtain ⟨h1, h⟩ := Bool.and_eq_true_iff.mp h
  obtain ⟨h2, h⟩ := Bool.and_eq_true_iff.mp h
  obtain ⟨h3, h⟩ := Bool.and_eq_true_iff.mp h
  obtain ⟨h4, h⟩ := Bool.and_eq_true_iff.mp h
  obtain ⟨h5, h⟩ := Bool.and_eq_true_iff.mp h
  refine ⟨h1, h2, ?_, beq_iff_eq.mp h4, h5, beq_iff_eq.mp h⟩
  revert h3
  cases findIn K (.ref c) (attrAt m) with
  | none => exact noB
  | some a => exact fun q => ⟨a, rfl, q⟩
noncomputable def pgOf : Pg := { fn := fnFR K, init := initOf K, meth := methOf K, fld := fldOf K }
end
end
section
open PySem PySem.W PyProof.Rows PySem.SeqAt

theorem big_le : big ≤ sizeLine := by rw [sizeLine_eq]; decide
theorem get_push_lt {h : Heap} {o : Obj} {a : Addr} {o' : Obj} (e : h.get? a = some o') : (h.push o).get? a = some o' := Heap.get?_push_of_some o e

section build
variable {g : Glb} {ρ : Rho} {σ : St} {s : Shared} {Q : PV → St → Prop}

theorem Rel.push {h : Heap} (R : Rel g ρ σ h) (o : Obj) : Rel g ρ σ (h.push o) := R.grow fun _ _ e => get_push_lt e
theorem Step.push {h : Heap} (o : Obj) : Step [] ρ h ρ (h.push o) := Step.grow fun _ _ e => get_push_lt e
theorem vr_push {h : Heap} {o : Obj} {x v} (V : VR h ρ x v) : VR (h.push o) ρ x v := by
  have := V.mono (δ := []) (h' := h.push o) fun _ _ _ e => get_push_lt e
  rwa [List.append_nil] at this
theorem vr_grow {h h' : Heap} {x v δ} (V : VR h ρ x v) (k : ∀ a o, h.get? a = some o → h'.get? a = some o) : VR h' (ρ ++ δ) x v := V.mono fun _ _ _ e => k _ _ e
theorem own_lt {h : Heap} (R : Rel g ρ σ h) {a : Addr} (ha : a ∈ ρ.map (·.2)) : a < h.objs.size := by
  obtain ⟨o, e, _⟩ := R.owned ha
  exact Heap.lt_size e

theorem get_size (h : Heap) : h.get? h.objs.size = none := by
  cases q : h.get? h.objs.size with
  | none => rfl
  | some o => exact absurd (Heap.lt_size q) (Nat.lt_irrefl _)
theorem Rel.fresh {h : Heap} (R : Rel g ρ σ h) {a : Addr} (e : h.get? a = none) : g.h₀.get? a = none := by
  cases q : g.h₀.get? a with
  | none => rfl
  | some o => rw [R.keep _ _ q] at e; cases e
theorem Rel.new {h : Heap} (R : Rel g ρ σ h) {o : Obj} {ao : AObj} (hn : ORel g.w g.AT (h.push o) ρ (h.objs.size, h.objs.size) ao) (hr : ∀ xs, ao ≠ .ro xs := by intro _ e; cases e) :
    Rel g (ρ ++ [(h.objs.size, h.objs.size)]) (σ ++ [ao]) (h.push o) :=
  (R.push o).alloc (R.fresh (get_size h)) (fun q => Nat.lt_irrefl _ (own_lt R q)) (R.ne_mods (Nat.le_refl _)) hn hr
theorem Step.new {h : Heap} (o : Obj) : Step [] ρ h (ρ ++ [(h.objs.size, h.objs.size)]) (h.push o) :=
  ⟨⟨_, rfl, fun p hp => by rw [List.mem_singleton.mp hp]; exact get_size h⟩, fun _ o e => ⟨o, get_push_lt e⟩, fun _ _ e _ _ => get_push_lt e⟩
theorem orel_list {h : Heap} {w AT} {xs : List PV} {its : Array Value} {a : Addr} {n : Nat} (e : h.get? a = some (lstObj its n)) (V : All2 (VR h ρ) xs its.toList) (hb : xs.length ≤ big) : ORel w AT h ρ (a, a) (.list xs) := ⟨rfl, hb, its, n, e, V⟩
theorem all_push {h : Heap} {o : Obj} {xs vs} (V : All2 (VR h ρ) xs vs) : All2 (VR (h.push o) ρ) xs vs := V.mono fun _ _ r => vr_push r

theorem EP.newList {xs : List PV} {its : Array Value} (R : Rel g ρ σ s.heap) (V : All2 (VR s.heap ρ) xs its.toList) (hb : xs.length ≤ big) (q : Q (.obj σ.length) (σ ++ [.list xs])) (t : Nat) :
    EP g ρ s Q (.ref s.heap.objs.size) { s with heap := s.heap.push (lstObj its 0), toks := t } :=
  ⟨_, _, _, ⟨_, _, rfl⟩, Step.new _, R.new (orel_list (Heap.get?_push_size _ rfl) (all_push V) hb), .obj (d := s.heap.objs.size) (by rw [List.getElem?_append_right (by rw [R.len]; exact Nat.le_refl _), R.len]; simp), q⟩
theorem EP.newTup {xs : List PV} {its : Array Value} (R : Rel g ρ σ s.heap) (V : All2 (VR s.heap ρ) xs its.toList) (hb : xs.length ≤ big) (q : Q (.tup xs) σ) (t : Nat) :
    EP g ρ s Q (.ref s.heap.objs.size) { s with heap := s.heap.push (tupObj its 0), toks := t } :=
  ⟨_, _, _, ⟨_, _, rfl⟩, Step.push _, R.push _, .tup (Heap.get?_push_size _ rfl) (VRs.of_all (all_push V)) hb, q⟩
theorem EP.newDict {kvs : List (PV × PV)} {es : Array DictEntry} (R : Rel g ρ σ s.heap) (V : All2 (EntR g.w s.heap ρ) kvs es.toList) (hn : (kvs.map (·.1)).Nodup) (hb : kvs.length ≤ 1000) {n : Nat} (q : Q (.obj σ.length) (σ ++ [.dict kvs])) (t : Nat) :
    EP g ρ s Q (.ref s.heap.objs.size) { s with heap := s.heap.push (dctObj es n), toks := t } :=
  ⟨_, _, _, ⟨_, _, rfl⟩, Step.new _, R.new (ao := .dict kvs) ⟨rfl, hb, es, n, Heap.get?_push_size _ rfl, V.mono fun _ _ r => ⟨vr_push r.1, vr_push r.2.1, r.2.2⟩, hn⟩,
    .obj (d := s.heap.objs.size) (by rw [List.getElem?_append_right (by rw [R.len]; exact Nat.le_refl _), R.len]; simp), q⟩
end build

section
variable {prog : Program} {w : World} {A : Around} {g : Glb} {ρ : Rho} {σ : St} {s : Shared} {Q : PV → St → Prop} {n : Nat}

theorem VR.none_inv {h : Heap} {v : Value} (V : VR h ρ .none v) : v = .none := by cases V; rfl
theorem VR.int_inv {h : Heap} {i : Int} {v : Value} (V : VR h ρ (.int i) v) : ∃ t, v = .int i t := by cases V; exact ⟨_, rfl⟩
theorem VR.str_inv {h : Heap} {i : Str} {v : Value} (V : VR h ρ (.str i) v) : ∃ t, v = .str i t := by cases V; exact ⟨_, rfl⟩
theorem VR.tup_inv {h : Heap} {xs : List PV} {v : Value} (V : VR h ρ (.tup xs) v) : ∃ a its n, v = .ref a ∧ h.get? a = some (tupObj its n) ∧ All2 (VR h ρ) xs its.toList ∧ xs.length ≤ big := by cases V with | tup a b c => exact ⟨_, _, _, rfl, a, b.all, c⟩
theorem VR.obj_inv {h : Heap} {k : Nat} {v : Value} (V : VR h ρ (.obj k) v) : ∃ a d, v = .ref a ∧ ρ[k]? = some (a, d) := by cases V with | obj e => exact ⟨_, _, rfl, e⟩
theorem VR.list_inv {h : Heap} (R : Rel g ρ σ h) {k : Nat} {xs : List PV} (e : σ[k]? = some (.list xs)) {v : Value} (V : VR h ρ (.obj k) v) :
    ∃ a its n, v = .ref a ∧ ρ[k]? = some (a, a) ∧ h.get? a = some (lstObj its n) ∧ All2 (VR h ρ) xs its.toList ∧ xs.length ≤ big := by
  obtain ⟨a, d, rfl, er⟩ := V.obj_inv
  obtain ⟨q, z, its, n, hg, hv⟩ := R.objs k _ _ e er
  dsimp only at q; subst q
  exact ⟨a, its, n, rfl, er, hg, hv, z⟩
theorem VR.dict_inv {h : Heap} (R : Rel g ρ σ h) {k : Nat} {kvs : List (PV × PV)} (e : σ[k]? = some (.dict kvs)) {v : Value} (V : VR h ρ (.obj k) v) :
    ∃ a es n, v = .ref a ∧ ρ[k]? = some (a, a) ∧ h.get? a = some (dctObj es n) ∧ All2 (EntR g.w h ρ) kvs es.toList ∧ (kvs.map (·.1)).Nodup ∧ kvs.length ≤ 1000 := by
  obtain ⟨a, d, rfl, er⟩ := V.obj_inv
  obtain ⟨q, z, es, n, hg, hv, hn⟩ := R.objs k _ _ e er
  dsimp only at q; subst q
  exact ⟨a, es, n, rfl, er, hg, hv, hn, z⟩
theorem VR.inst_inv {h : Heap} (R : Rel g ρ σ h) {k : Nat} {c : Addr} {fs : List (Nat × PV)} (e : σ[k]? = some (.inst c fs)) {v : Value} (V : VR h ρ (.obj k) v) :
    ∃ a d es n, v = .ref a ∧ ρ[k]? = some (a, d) ∧ h.get? a = some (instObj c d) ∧ h.get? d = some (dctObj es.toArray n) ∧ All2 (FldR g.AT h ρ) fs es := by
  obtain ⟨a, d, rfl, er⟩ := V.obj_inv
  obtain ⟨hi, es, n, hg, hv⟩ := R.objs k _ _ e er
  exact ⟨a, d, es, n, rfl, er, hi, hg, hv⟩

theorem size_of {h : Heap} {xs : List PV} {its : Array Value} (V : All2 (VR h ρ) xs its.toList) : xs.length = its.size := V.length.trans Array.length_toList
theorem intB_two {h : Heap} {a b : PV} {x y : Value} {f : Int → Int → Prop} (Va : VR h ρ a x) (Vb : VR h ρ b y) (q : intB a b f) : ∃ i j t u, x = .int i t ∧ y = .int j u ∧ f i j := by
  obtain ⟨i, j, rfl, rfl, q⟩ := q
  obtain ⟨t, rfl⟩ := Va.int_inv; obtain ⟨u, rfl⟩ := Vb.int_inv
  exact ⟨i, j, t, u, rfl, rfl, q⟩
theorem lst_two {h : Heap} {a : PV} {x : Value} (R : Rel g ρ σ h) (Va : VR h ρ a x) {f : Nat → List PV → Prop} (q : lstB σ a f) :
    ∃ k xs l its m, a = .obj k ∧ x = .ref l ∧ σ[k]? = some (.list xs) ∧ ρ[k]? = some (l, l) ∧ h.get? l = some (lstObj its m) ∧ All2 (VR h ρ) xs its.toList ∧ xs.length ≤ big ∧ f k xs := by
  obtain ⟨k, xs, rfl, e, q⟩ := q
  obtain ⟨l, its, m, rfl, er, hg, hv, z⟩ := Va.list_inv R e
  exact ⟨k, xs, l, its, m, rfl, rfl, e, er, hg, hv, z, q⟩
theorem dct_two {h : Heap} {a : PV} {x : Value} (R : Rel g ρ σ h) (Va : VR h ρ a x) {f : Nat → List (PV × PV) → Prop} (q : dctB σ a f) :
    ∃ k kvs l es m, a = .obj k ∧ x = .ref l ∧ σ[k]? = some (.dict kvs) ∧ ρ[k]? = some (l, l) ∧ h.get? l = some (dctObj es m) ∧ All2 (EntR g.w h ρ) kvs es.toList ∧ (kvs.map (·.1)).Nodup ∧ kvs.length ≤ 1000 ∧ f k kvs := by
  obtain ⟨k, kvs, rfl, e, q⟩ := q
  obtain ⟨l, es, m, rfl, er, hg, hr, hn, z⟩ := Va.dict_inv R e
  exact ⟨k, kvs, l, es, m, rfl, rfl, e, er, hg, hr, hn, z, q⟩
theorem tup_two {h : Heap} {a : PV} {x : Value} (Va : VR h ρ a x) {f : List PV → Prop} (q : tupB a f) : ∃ xs l its m, a = .tup xs ∧ x = .ref l ∧ h.get? l = some (tupObj its m) ∧ All2 (VR h ρ) xs its.toList ∧ xs.length ≤ big ∧ f xs := by
  obtain ⟨xs, rfl, q⟩ := q
  obtain ⟨l, its, m, rfl, hg, hv, z⟩ := Va.tup_inv
  exact ⟨xs, l, its, m, rfl, rfl, hg, hv, z, q⟩
theorem nil_of {h : Heap} {xs : List PV} {its : Array Value} (V : All2 (VR h ρ) xs its.toList) (e : its.isEmpty = true) : xs = [] :=
  List.eq_nil_of_length_eq_zero ((size_of V).trans (by rw [Array.isEmpty_iff.mp e]; rfl))

theorem add_tup {xs ys : List PV} {l l2 : Addr} {its its2 : Array Value} {m m2 : Nat} (R : Rel g ρ σ s.heap) (hl : s.heap.get? l = some (tupObj its m)) (hl2 : s.heap.get? l2 = some (tupObj its2 m2)) (hv : All2 (VR s.heap ρ) xs its.toList) (hv2 : All2 (VR s.heap ρ) ys its2.toList)
    (hz : xs.length + ys.length ≤ big) (h : Q (.tup (xs ++ ys)) σ) : wpAny (model prog w) A (binaryOp .Add (.ref l) (.ref l2)) (EP g ρ s Q) NoE s := by
  have hsz : its.size + its2.size ≤ sizeLine := by rw [← size_of hv, ← size_of hv2]; exact Nat.le_trans hz big_le
  by_cases e1 : its.isEmpty = true
  · refine concat_meets ⟨_, hl, rfl⟩ ⟨_, hl2, rfl⟩ noFill_tuple_add seq_tuple_add F.slot_tuple_add F.entry_tuple_add (F.args_tuple_add_2 _ _) (AutoSeq1.tuple___add___tuple_tuple_0 l its m l2 its2 m2 e1) ⟨hl, hl2, ?_⟩
    cases nil_of hv e1
    exact EP.here' R (.tup hl2 (.of_all hv2) (Nat.le_trans (Nat.le_add_left _ _) hz)) h
  · by_cases e2 : its2.isEmpty = true
    · refine concat_meets ⟨_, hl, rfl⟩ ⟨_, hl2, rfl⟩ noFill_tuple_add seq_tuple_add F.slot_tuple_add F.entry_tuple_add (F.args_tuple_add_2 _ _) (AutoSeq1.tuple___add___tuple_tuple_1 l its m l2 its2 m2 e1 e2) ⟨hl, hl2, ?_⟩
      cases nil_of hv2 e2
      rw [List.append_nil] at h
      exact EP.here' R (.tup hl (.of_all hv) (Nat.le_trans (Nat.le_add_right _ _) hz)) h
    · exact PySem.P.add_tuple hl hl2 e1 e2 (EP.newTup R (by rw [Array.toList_append]; exact hv.append hv2) (by rw [List.length_append]; exact hz) h _) hsz
theorem binop_sound {op : Operator} {p : Prim} (hp : binPrimC op = some p) {a b : PV} {x y : Value} (R : Rel g ρ σ s.heap) (Va : VR s.heap ρ a x) (Vb : VR s.heap ρ b y)
    (h : prim2 p a b σ Q) : wpAny (model prog w) A (binaryOp op x y) (EP g ρ s Q) NoE s := by
  cases op <;> first | exact nos hp | cases hp
  · -- add
    rcases h with h | h
    · obtain ⟨i, j, t, u, rfl, rfl, h⟩ := intB_two Va Vb h
      exact wpAny_add_int (EP.here R (.int _ _) h _)
    · obtain ⟨xs, l, its, m, rfl, rfl, hl, hv, _, h⟩ := tup_two Va h
      obtain ⟨ys, l2, its2, m2, rfl, rfl, hl2, hv2, _, hz, h⟩ := tup_two Vb h
      exact add_tup R hl hl2 hv hv2 hz h
  · -- sub
    obtain ⟨i, j, t, u, rfl, rfl, h⟩ := intB_two Va Vb h
    exact PyProof.Rows.sub_int' (EP.here R (.int _ _) h _)
  · -- mod
    obtain ⟨i, j, t, u, rfl, rfl, hj, h⟩ := intB_two Va Vb h
    refine PyProof.Rows.mod_int' (by (first | lia | omega)) (EP.here R ?_ h _)
    rw [Int.fmod_eq_emod_of_nonneg _ (by (first | lia | omega))]; exact .int _ _
end
end
section
open PySem PySem.W PyProof.Rows PySem.SeqAt

theorem All2.find {α β : Type} {R : α → β → Prop} {p : α → Bool} {q : β → Bool} (hpq : ∀ x y, R x y → p x = q y) : ∀ {xs : List α} {ys : List β}, All2 R xs ys →
    (match xs.find? p, ys.find? q with | some x, some y => R x y | none, none => True | _, _ => False)
  | [], [], _ => trivial
  | x :: xs, y :: ys, h => by
    rw [List.find?_cons, List.find?_cons, hpq x y h.1]
    cases q y with
    | true => exact h.1
    | false => exact All2.find hpq h.2
  | [], _ :: _, h => h.elim
  | _ :: _, [], h => h.elim

section kk
variable {prog : Program} {w : World}
structure Enc {K : Type} [DecidableEq K] (knd : PySem.KeyKind prog w K) (enc : K → PV) : Prop where
  vr : ∀ {h : Heap} {ρ : Rho} {k : K} {v : Value}, VR h ρ (enc k) v → knd.is k v = true
  rv : ∀ {h : Heap} {ρ : Rho} {k : K} {v : Value}, knd.is k v = true → VR h ρ (enc k) v
  hash : ∀ k, hashP w (enc k) = knd.hash k
  inj : ∀ a b, enc a = enc b → a = b

theorem encStr : Enc (PySem.strKind prog w) PV.str where
  vr := fun V => by obtain ⟨t, rfl⟩ := V.str_inv; simp [PySem.strKind, Value.isStrOf]
  rv := fun e => by obtain ⟨t, rfl⟩ := Value.isStrOf_shape e; exact .str _ _
  hash := fun _ => rfl
  inj := fun _ _ e => by injection e
theorem encInt : Enc (PySem.intKind prog w) PV.int where
  vr := fun V => by obtain ⟨t, rfl⟩ := V.int_inv; simp [PySem.intKind, Value.isInt]
  rv := fun e => by obtain ⟨t, rfl⟩ := Value.isInt_shape e; exact .int _ _
  hash := fun _ => rfl
  inj := fun _ _ e => by injection e

variable {K : Type} [DecidableEq K] {knd : PySem.KeyKind prog w K} {enc : K → PV} {ρ : Rho} {h : Heap}
noncomputable def KV (enc : K → PV) (h : Heap) (ρ : Rho) (p : PV × PV) (x : K × Value) : Prop := p.1 = enc x.1 ∧ VR h ρ p.2 x.2

theorem kv_keys : ∀ {kvs : List (PV × PV)} {xs : List (K × Value)}, All2 (KV enc h ρ) kvs xs → kvs.map (·.1) = xs.map fun x => enc x.1
  | [], [], _ => rfl
  | _ :: _, _ :: _, r => by rw [List.map_cons, List.map_cons, kv_keys r.2, r.1.1]
  | [], _ :: _, r => r.elim
  | _ :: _, [], r => r.elim

theorem dict_to (N : Enc knd enc) {a : Addr} {es : Array DictEntry} {n : Nat} {kvs : List (PV × PV)} (e : h.get? a = some (dctObj es n)) (hr : All2 (EntR w h ρ) kvs es.toList)
    (hn : (kvs.map (·.1)).Nodup) (hk : ∀ p ∈ kvs, ∃ k, p.1 = enc k) : ∃ xs : List (K × Value), All2 (KV enc h ρ) kvs xs ∧ h.DictOf knd a xs := by
  have key : ∀ (kvs : List (PV × PV)) (l : List DictEntry), All2 (EntR w h ρ) kvs l → (∀ p ∈ kvs, ∃ k, p.1 = enc k) →
      ∃ xs : List (K × Value), All2 (KV enc h ρ) kvs xs ∧ Pairs knd l xs ∧ ∀ e ∈ l, ∃ k, knd.is k e.key = true ∧ e.hash = knd.hash k := by
    intro kvs
    induction kvs with
    | nil => intro l hr _; cases l with
      | nil => exact ⟨[], trivial, .nil, fun _ q => nomatch q⟩
      | cons => exact hr.elim
    | cons p kvs ih => intro l hr hk; cases l with
      | nil => exact hr.elim
      | cons e l =>
        obtain ⟨xs, h1, h2, h3⟩ := ih l hr.2 fun q hq => hk q (.tail _ hq)
        obtain ⟨k, hp⟩ := hk p (.head _)
        have r := hr.1
        have r1 : VR h ρ (enc k) e.key := hp ▸ r.1
        refine ⟨(k, e.val) :: xs, ⟨⟨hp, r.2.1⟩, h1⟩, .cons (N.vr r1) rfl h2, fun x hx => ?_⟩
        rcases List.mem_cons.mp hx with rfl | hx
        · exact ⟨k, N.vr r1, by rw [r.2.2, hp, N.hash]⟩
        · exact h3 x hx
  obtain ⟨xs, h1, h2, h3⟩ := key kvs es.toList hr hk
  refine ⟨xs, h1, _, es, n, e, ⟨rfl, rfl, rfl⟩, rfl, fun x hx => h3 x (Array.mem_toList_iff.mpr hx), h2, ?_⟩
  rw [kv_keys h1] at hn
  have : (xs.map fun x => enc x.1) = (xs.map (·.1)).map enc := by rw [List.map_map]; rfl
  rw [this] at hn
  rw [List.Nodup, List.pairwise_map] at hn
  exact hn.imp fun {a b} hab q => hab (by rw [q])
theorem dict_from (N : Enc knd enc) {a : Addr} {kvs : List (PV × PV)} {xs : List (K × Value)} (D : h.DictOf knd a xs) (hr : All2 (KV enc h ρ) kvs xs) (hz : kvs.length ≤ 1000) {AT} : ORel w AT h ρ (a, a) (.dict kvs) := by
  obtain ⟨⟨c, d, dt, sl⟩, es, ep, e, ⟨hc, hd, hs⟩, hdt, hk, hp, hn⟩ := D
  dsimp only at hc hd hs hdt
  subst hc hd hs hdt
  refine ⟨rfl, hz, es, ep, e, ?_, ?_⟩
  · have key : ∀ (kvs : List (PV × PV)) (l : List DictEntry) (xs : List (K × Value)), All2 (KV enc h ρ) kvs xs → Pairs knd l xs → (∀ e ∈ l, ∃ k, knd.is k e.key = true ∧ e.hash = knd.hash k) → All2 (EntR w h ρ) kvs l := by
      intro kvs
      induction kvs with
      | nil => intro l xs hr hp _; cases xs with
        | nil => cases hp; trivial
        | cons => exact hr.elim
      | cons p kvs ih => intro l xs hr hp hk; cases xs with
        | nil => exact hr.elim
        | cons x xs =>
          cases hp with
          | @cons e _ l _ i1 i2 i3 =>
            refine ⟨⟨hr.1.1 ▸ N.rv i1, i2 ▸ hr.1.2, ?_⟩, ih l xs hr.2 i3 fun e he => hk e (.tail _ he)⟩
            obtain ⟨k, k1, k2⟩ := hk e (.head _)
            rw [k2, hr.1.1, N.hash, knd.inj _ _ _ k1 i1]
    exact key kvs es.toList xs hr hp fun e he => hk e (Array.mem_toList_iff.mp he)
  · rw [kv_keys hr]
    have : (xs.map fun x => enc x.1) = (xs.map (·.1)).map enc := by rw [List.map_map]; rfl
    rw [this]
    rw [List.Nodup, List.pairwise_map]
    exact hn.imp fun {a b} hab q => hab (N.inj _ _ q)

set_option tactic.hygienic true in
theorem kv_get (N : Enc knd enc) {kvs : List (PV × PV)} {xs : List (K × Value)} (hr : All2 (KV enc h ρ) kvs xs) (k : K) :
    (dget (enc k) kvs = none ∧ valueAt xs k = none) ∨ ∃ pv v, dget (enc k) kvs = some pv ∧ valueAt xs k = some v ∧ VR h ρ pv v := by
  have := hr.find (p := fun p => decide (p.1 = enc k)) (q := fun x => decide (x.1 = k)) (fun p x r => by
    rw [Bool.eq_iff_iff]
    simp only [decide_eq_true_eq]
    rw [r.1]
    exact ⟨fun e => N.inj _ _ e, fun e => by rw [e]⟩)
  unfold dget valueAt
  split at this
  · rename_i a b e1 e2
    rw [e1, e2]; exact .inr ⟨_, _, rfl, rfl, this.2⟩
  · rename_i e1 e2
    rw [e1, e2]; exact .inl ⟨rfl, rfl⟩
  · exact this.elim
theorem kv_put (N : Enc knd enc) {kvs : List (PV × PV)} {xs : List (K × Value)} (hr : All2 (KV enc h ρ) kvs xs) (k : K) {pv : PV} {v : Value} (V : VR h ρ pv v) :
    All2 (KV enc h ρ) (dput (enc k) pv kvs) (stored xs k v) := by
  have he : (xs.any fun kv => decide (kv.1 = k)) = (dget (enc k) kvs).isSome := by
    rw [← valueAt_isSome_eq_any]
    rcases kv_get N hr k with ⟨a, b⟩ | ⟨_, _, a, b, _⟩ <;> rw [a, b] <;> rfl
  unfold dput stored
  rw [he]
  cases (dget (enc k) kvs).isSome with
  | true =>
    simp only [if_true]
    have key : ∀ (kvs : List (PV × PV)) (xs : List (K × Value)), All2 (KV enc h ρ) kvs xs →
        All2 (KV enc h ρ) (kvs.map fun p => if p.1 = enc k then (p.1, pv) else p) (xs.map fun kv => if kv.1 = k then (kv.1, v) else kv) := by
      intro kvs
      induction kvs with
      | nil => intro xs hr; cases xs with
        | nil => trivial
        | cons => exact hr.elim
      | cons p kvs ih => intro xs hr; cases xs with
        | nil => exact hr.elim
        | cons x xs =>
          refine ⟨?_, ih xs hr.2⟩
          dsimp only
          by_cases hx : x.1 = k
          · rw [if_pos hx, if_pos (by rw [hr.1.1, hx])]; exact ⟨hr.1.1, V⟩
          · rw [if_neg hx, if_neg (by rw [hr.1.1]; exact fun e => hx (N.inj _ _ e))]; exact hr.1
    exact key kvs xs hr
  | false => exact hr.append ⟨⟨rfl, V⟩, trivial⟩
end kk
end
section
open PySem PySem.W PyProof.Rows PySem.SeqAt

section hh
variable {prog : Program} {w : World} {ρ : Rho} {h : Heap}
abbrev tk (prog : Program) (w : World) : HeapKind prog w (List Int) := tupleKind (PySem.intKind prog w)
noncomputable def encT (k : List Int) : PV := .tup (k.map .int)
noncomputable def KVH (h : Heap) (ρ : Rho) (p : PV × PV) (x : List Int × Addr × Value) : Prop := (∃ i j, x.1 = [i, j] ∧ p.1 = .tup [.int i, .int j]) ∧ VR h ρ p.1 (.ref x.2.1) ∧ VR h ρ p.2 x.2.2

theorem encT_inj : ∀ {a b : List Int}, encT a = encT b → a = b := by
  intro a b e
  have key : ∀ (a b : List Int), a.map PV.int = b.map PV.int → a = b := by
    intro a
    induction a with
    | nil => intro b e; cases b with
      | nil => rfl
      | cons => cases e
    | cons x a ih => intro b e; cases b with
      | nil => cases e
      | cons y b =>
        rw [List.map_cons, List.map_cons] at e
        injection e with e1 e2
        injection e1 with e1
        rw [e1, ih b e2]
  unfold encT at e
  injection e with e
  exact key a b e

theorem is_pair {i j : Int} {a : Addr} (V : VR h ρ (.tup [.int i, .int j]) (.ref a)) : (tk prog w).is h [i, j] a := by
  obtain ⟨a', its, n, e, hg, hv, _⟩ := V.tup_inv
  injection e with e; subst e
  refine ⟨_, its, n, hg, rfl, rfl, ?_⟩
  match hl : its.toList, hv with
  | [x, y], hv =>
    obtain ⟨t, rfl⟩ := hv.1.int_inv
    obtain ⟨u, rfl⟩ := hv.2.1.int_inv
    exact .cons (by simp [PySem.intKind, Value.isInt]) (.cons (by simp [PySem.intKind, Value.isInt]) .nil)

theorem kvh_keys : ∀ {kvs : List (PV × PV)} {xs : List (List Int × Addr × Value)}, All2 (KVH h ρ) kvs xs → kvs.map (·.1) = xs.map fun x => encT x.1
  | [], [], _ => rfl
  | _ :: _, _ :: _, r => by
    obtain ⟨i, j, e1, e2⟩ := r.1.1
    rw [List.map_cons, List.map_cons, kvh_keys r.2, e1, e2]; rfl
  | [], _ :: _, r => r.elim
  | _ :: _, [], r => r.elim

theorem dictH_to {a : Addr} {es : Array DictEntry} {n : Nat} {kvs : List (PV × PV)} (e : h.get? a = some (dctObj es n)) (hr : All2 (EntR w h ρ) kvs es.toList)
    (hn : (kvs.map (·.1)).Nodup) (hk : ∀ p ∈ kvs, ∃ i j, p.1 = .tup [.int i, .int j]) : ∃ xs, All2 (KVH h ρ) kvs xs ∧ h.DictOfH (tk prog w) a xs := by
  have key : ∀ (kvs : List (PV × PV)) (l : List DictEntry), All2 (EntR w h ρ) kvs l → (∀ p ∈ kvs, ∃ i j, p.1 = .tup [.int i, .int j]) →
      ∃ xs, All2 (KVH h ρ) kvs xs ∧ l = xs.map (entryOfKey (tk prog w)) ∧ ∀ x ∈ xs, (tk prog w).is h x.1 x.2.1 := by
    intro kvs
    induction kvs with
    | nil => intro l hr _; cases l with
      | nil => exact ⟨[], trivial, rfl, fun _ q => nomatch q⟩
      | cons => exact hr.elim
    | cons p kvs ih => intro l hr hk; cases l with
      | nil => exact hr.elim
      | cons e l =>
        obtain ⟨xs, h1, h2, h3⟩ := ih l hr.2 fun q hq => hk q (.tail _ hq)
        obtain ⟨i, j, hp⟩ := hk p (.head _)
        have r := hr.1
        have r1 := r.1
        obtain ⟨b, its, m, eb, _, _⟩ := (hp ▸ r1 : VR h ρ (.tup [.int i, .int j]) e.key).tup_inv
        rw [eb] at r1
        obtain ⟨hs, ky, vl⟩ := e
        dsimp only at eb r
        subst eb
        refine ⟨([i, j], b, vl) :: xs, ⟨⟨⟨i, j, rfl, hp⟩, r1, r.2.1⟩, h1⟩, ?_, fun x hx => ?_⟩
        · rw [List.map_cons, h2]
          have := r.2.2
          rw [hp] at this
          dsimp only at this
          rw [this]; rfl
        · rcases List.mem_cons.mp hx with rfl | hx
          · exact is_pair (hp ▸ r1)
          · exact h3 x hx
  obtain ⟨xs, h1, h2, h3⟩ := key kvs es.toList hr hk
  refine ⟨xs, h1, _, es, n, e, ⟨rfl, rfl, rfl⟩, rfl, h2, h3, ?_⟩
  rw [kvh_keys h1] at hn
  have : (xs.map fun x => encT x.1) = (xs.map (·.1)).map encT := by rw [List.map_map]; rfl
  rw [this, List.Nodup, List.pairwise_map] at hn
  exact hn.imp fun {a b} hab q => hab (by rw [q])
theorem dictH_from {a : Addr} {kvs : List (PV × PV)} {xs : List (List Int × Addr × Value)} (D : h.DictOfH (tk prog w) a xs) (hr : All2 (KVH h ρ) kvs xs) (hz : kvs.length ≤ 1000) {AT} : ORel w AT h ρ (a, a) (.dict kvs) := by
  obtain ⟨⟨c, d, dt, sl⟩, es, ep, e, ⟨hc, hd, hs⟩, hdt, hp, hi, hn⟩ := D
  dsimp only at hc hd hs hdt
  subst hc hd hs hdt
  refine ⟨rfl, hz, es, ep, e, ?_, ?_⟩
  · rw [hp]
    have key : ∀ (kvs : List (PV × PV)) (xs : List (List Int × Addr × Value)), All2 (KVH h ρ) kvs xs → All2 (EntR w h ρ) kvs (xs.map (entryOfKey (tk prog w))) := by
      intro kvs
      induction kvs with
      | nil => intro xs hr; cases xs with
        | nil => trivial
        | cons => exact hr.elim
      | cons p kvs ih => intro xs hr; cases xs with
        | nil => exact hr.elim
        | cons x xs =>
          obtain ⟨i, j, e1, e2⟩ := hr.1.1
          refine ⟨⟨hr.1.2.1, hr.1.2.2, ?_⟩, ih xs hr.2⟩
          rw [e2]
          show (tk prog w).hash x.1 = _
          rw [e1]; rfl
    exact key kvs xs hr
  · rw [kvh_keys hr]
    have : (xs.map fun x => encT x.1) = (xs.map (·.1)).map encT := by rw [List.map_map]; rfl
    rw [this, List.Nodup, List.pairwise_map]
    exact hn.imp fun {a b} hab q => hab (encT_inj q)

set_option tactic.hygienic true in
theorem kvh_get {kvs : List (PV × PV)} {xs : List (List Int × Addr × Value)} (hr : All2 (KVH h ρ) kvs xs) (i j : Int) :
    (dget (.tup [.int i, .int j]) kvs = none ∧ atKey xs [i, j] = none) ∨ ∃ pv p, dget (.tup [.int i, .int j]) kvs = some pv ∧ atKey xs [i, j] = some p ∧ VR h ρ pv p.2 := by
  have := hr.find (p := fun p => decide (p.1 = .tup [.int i, .int j])) (q := fun x => decide (x.1 = [i, j])) (fun p x r => by
    obtain ⟨i', j', e1, e2⟩ := r.1
    rw [e1, e2, Bool.eq_iff_iff]
    simp)
  unfold dget atKey
  split at this
  · rename_i a b e1 e2
    rw [e1, e2]; exact .inr ⟨_, _, rfl, rfl, this.2.2⟩
  · rename_i e1 e2
    rw [e1, e2]; exact .inl ⟨rfl, rfl⟩
  · exact this.elim
theorem kvh_put {kvs : List (PV × PV)} {xs : List (List Int × Addr × Value)} (hr : All2 (KVH h ρ) kvs xs) {i j : Int} {a : Addr} (Vk : VR h ρ (.tup [.int i, .int j]) (.ref a)) {pv : PV} {v : Value} (V : VR h ρ pv v) :
    All2 (KVH h ρ) (dput (.tup [.int i, .int j]) pv kvs) (storedH xs [i, j] a v) := by
  have he : (atKey xs [i, j]).isSome = (dget (.tup [.int i, .int j]) kvs).isSome := by
    rcases kvh_get hr i j with ⟨a, b⟩ | ⟨_, _, a, b, _⟩ <;> rw [a, b] <;> rfl
  unfold dput storedH
  rw [he]
  cases (dget (.tup [.int i, .int j]) kvs).isSome with
  | true =>
    simp only [if_true]
    have key : ∀ (kvs : List (PV × PV)) (xs : List (List Int × Addr × Value)), All2 (KVH h ρ) kvs xs →
        All2 (KVH h ρ) (kvs.map fun p => if p.1 = .tup [.int i, .int j] then (p.1, pv) else p) (xs.map (putAt [i, j] v)) := by
      intro kvs
      induction kvs with
      | nil => intro xs hr; cases xs with
        | nil => trivial
        | cons => exact hr.elim
      | cons p kvs ih => intro xs hr; cases xs with
        | nil => exact hr.elim
        | cons x xs =>
          refine ⟨?_, ih xs hr.2⟩
          obtain ⟨i', j', e1, e2⟩ := hr.1.1
          unfold putAt
          dsimp only
          by_cases hx : x.1 = [i, j]
          · have hp : p.1 = .tup [.int i, .int j] := by
              rw [e2]; rw [e1] at hx; injection hx with a1 a2; injection a2 with a2; rw [a1, a2]
            rw [if_pos hx, if_pos hp]; exact ⟨hr.1.1, hr.1.2.1, V⟩
          · have hp : ¬ p.1 = .tup [.int i, .int j] := by
              rw [e2]; rw [e1] at hx; intro q; apply hx; injection q with q; injection q with q1 q2; injection q2 with q2; injection q1 with q1; injection q2 with q2; rw [q1, q2]
            rw [if_neg hx, if_neg hp]; exact hr.1
    exact key kvs xs hr
  | false => exact hr.append ⟨⟨⟨i, j, rfl, rfl⟩, Vk, V⟩, trivial⟩
end hh
end
section
open PySem PySem.W PyProof.Rows PySem.SeqAt

theorem eqv_func {h : Heap} {ρ : Rho} : ∀ (n : Nat) {x y z : PV} {v : Value} {b c : Bool}, VR h ρ x v → VR h ρ y v → eqv n x z = some b → eqv n y z = some c → b = c := by
  intro n
  induction n with
  | zero => exact fun _ _ e => nos e
  | succ n ih =>
    intro x y z v b c hx hy e e'
    cases hx with
    | none => exact nos e
    | bool => exact nos e
    | obj => exact nos e
    | int => cases hy; rw [e] at e'; exact Option.some.inj e'
    | str => cases hy; rw [e] at e'; exact Option.some.inj e'
    | tup ha ka _ =>
      cases hy with
      | obj => exact nos e'
      | tup hb kb _ =>
        rw [ha] at hb
        cases hb
        cases z with
        | none => exact nos e
        | bool => exact nos e
        | obj => exact nos e
        | int => exact (show false = b from Option.some.inj e).symm.trans (Option.some.inj e')
        | str => exact (show false = b from Option.some.inj e).symm.trans (Option.some.inj e')
        | tup zs =>
          obtain ⟨f, rfl, hf⟩ := eqL_all e
          obtain ⟨f', rfl, hf'⟩ := eqL_all e'
          have l1 := ka.all.length
          have l2 := kb.all.length
          rw [l1, l2]
          congr 1
          rw [Bool.eq_iff_iff, List.all_eq_true, List.all_eq_true]
          have : ∀ j ∈ List.range (min _ zs.length), f j = f' j := fun j hj => by
            rw [List.mem_range] at hj
            have h1 : j < _ := Nat.lt_of_lt_of_le hj (Nat.min_le_left _ _)
            have h2 : j < zs.length := Nat.lt_of_lt_of_le hj (Nat.min_le_right _ _)
            obtain ⟨x', ex, rx⟩ := ka.all.get' (List.getElem?_eq_getElem h1)
            obtain ⟨y', ey, ry⟩ := kb.all.get' (List.getElem?_eq_getElem h1)
            exact ih rx ry (hf j _ _ ex (List.getElem?_eq_getElem h2)) (hf' j _ _ ey (List.getElem?_eq_getElem h2))
          exact ⟨fun a j hj => (this j hj) ▸ a j hj, fun a j hj => (this j hj).symm ▸ a j hj⟩

section
variable {prog : Program} {w : World} {A : Around} {g : Glb} {ρ : Rho} {σ : St} {s : Shared} {Q : PV → St → Prop} {n : Nat}

noncomputable def hit (h : Heap) (ρ : Rho) (ys : List PV) (x : PV) (v : Value) : Bool := by
  classical exact decide (∃ y ∈ ys, VR h ρ y v ∧ eqv eqDepth y x = some true)
theorem anyL_all {x : PV} {f : PV → Option Bool} : ∀ {ys : List PV} {b : Bool}, anyL f ys = some b → (∀ y ∈ ys, ∃ c, f y = some c) ∧ (b = true ↔ ∃ y ∈ ys, f y = some true)
  | [], b, e => by cases e; simp
  | y :: ys, b, e => by
    replace e : (match f y with | some a => (match anyL f ys with | some b => some (a || b) | none => none) | none => none) = some b := e
    cases ha : f y with
    | none => rw [ha] at e; exact nos e
    | some a =>
    cases hc : anyL f ys with
    | none => rw [ha, hc] at e; exact nos e
    | some c =>
      rw [ha, hc] at e
      cases e
      obtain ⟨h1, h2⟩ := anyL_all (x := x) hc
      refine ⟨fun z hz => ?_, ?_⟩
      · rcases List.mem_cons.mp hz with rfl | hz
        · exact ⟨a, ha⟩
        · exact h1 z hz
      · rw [Bool.or_eq_true, h2]
        constructor
        · rintro (rfl | ⟨z, hz, e⟩)
          · exact ⟨y, .head _, ha⟩
          · exact ⟨z, .tail _ hz, e⟩
        · rintro ⟨z, hz, e⟩
          rcases List.mem_cons.mp hz with rfl | hz
          · rw [ha] at e; exact .inl (Option.some.inj e)
          · exact .inr ⟨z, hz, e⟩

theorem hits {ys : List PV} {vs : List Value} {x : PV} {v : Value} {b : Bool} (V : All2 (VR s.heap ρ) ys vs) (Vx : VR s.heap ρ x v) (hu : A.units + eqDepth < cLine)
    (e : anyL (fun y => eqv eqDepth y x) ys = some b) : (∀ u ∈ vs, EqAt A s u v (hit s.heap ρ ys x u)) ∧ vs.any (hit s.heap ρ ys x) = b := by
  classical
  obtain ⟨h1, h2⟩ := anyL_all (x := x) e
  have key : ∀ (i : Nat) y u, ys[i]? = some y → vs[i]? = some u → VR s.heap ρ y u → eqv eqDepth y x = some (hit s.heap ρ ys x u) := fun i y u ey eu r => by
    obtain ⟨c, hc⟩ := h1 y (List.mem_of_getElem? ey)
    rw [hc]
    unfold hit
    cases c with
    | true => rw [decide_eq_true]; exact ⟨y, List.mem_of_getElem? ey, r, hc⟩
    | false =>
      rw [decide_eq_false]
      rintro ⟨z, hz, rz, ez⟩
      exact absurd (eqv_func _ r rz hc ez) (by decide)
  refine ⟨fun u hu' => ?_, ?_⟩
  · obtain ⟨i, hi, rfl⟩ := List.mem_iff_getElem.mp hu'
    obtain ⟨y, ey, r⟩ := V.get' (List.getElem?_eq_getElem hi)
    exact (eqv_at eqDepth (key i y _ ey (List.getElem?_eq_getElem hi) r) r Vx hu).2.2
  · rw [Bool.eq_iff_iff, List.any_eq_true, h2]
    constructor
    · rintro ⟨u, hu', hh⟩
      obtain ⟨i, hi, rfl⟩ := List.mem_iff_getElem.mp hu'
      obtain ⟨y, ey, r⟩ := V.get' (List.getElem?_eq_getElem hi)
      exact ⟨y, List.mem_of_getElem? ey, by rw [key i y _ ey (List.getElem?_eq_getElem hi) r, hh]⟩
    · rintro ⟨y, hy, ey⟩
      obtain ⟨i, hi, rfl⟩ := List.mem_iff_getElem.mp hy
      obtain ⟨u, eu, r⟩ := V.get (List.getElem?_eq_getElem hi)
      refine ⟨u, List.mem_of_getElem? eu, ?_⟩
      have := key i _ u (List.getElem?_eq_getElem hi) eu r
      rw [ey] at this; exact (Option.some.inj this).symm

theorem Room.eqd {n A} (x : Room n A) : A.units + eqDepth + 2 < cLine := by have := x.un; unfold eqDepth; (first | lia | omega)
theorem isStrV_inv {p : PV} (h : isStrV p = true) : ∃ k', p = .str k' := by cases p <;> first | exact ⟨_, rfl⟩ | exact noB h
theorem isIntV_inv {p : PV} (h : isIntV p = true) : ∃ k', p = .int k' := by cases p <;> first | exact ⟨_, rfl⟩ | exact noB h
theorem isPairL_inv {l : List PV} (h : isPairL l = true) : ∃ i j, l = [.int i, .int j] := by
  match l, h with
  | [a, b], h =>
    obtain ⟨h1, h2⟩ := Bool.and_eq_true_iff.mp (show (isIntV a && isIntV b) = true from h)
    obtain ⟨i, rfl⟩ := isIntV_inv h1
    obtain ⟨j, rfl⟩ := isIntV_inv h2
    exact ⟨i, j, rfl⟩
theorem isPairV_inv {p : PV} (h : isPairV p = true) : ∃ i j, p = .tup [.int i, .int j] := by
  cases p with
  | tup l => obtain ⟨i, j, rfl⟩ := isPairL_inv h; exact ⟨i, j, rfl⟩
  | _ => exact noB h
theorem pair_key {l : List PV} {p : PV} (h : keyLike (.tup l) p = true) : isPairL l = true ∧ isPairV p = true := Bool.and_eq_true_iff.mp h
theorem keysLike_inv {k : PV} {kvs : List (PV × PV)} (h : keysLike k kvs = true) : keyLike k k = true ∧ ∀ p ∈ kvs, keyLike k p.1 = true := by
  unfold keysLike at h
  rw [Bool.and_eq_true, List.all_eq_true] at h
  exact h
theorem not_mods {g ρ σ h} (R : Rel g ρ σ h) {k : Nat} {p : Addr × Addr} (e : ρ[k]? = some p) : (p.2 == sysModules) = false := by
  rw [beq_eq_false_iff_ne]
  exact R.mods p (List.mem_of_getElem? e)

theorem in_enc {K : Type} [DecidableEq K] {knd : PySem.KeyKind prog g.w K} {enc : K → PV} (N : Enc knd enc) {k : Nat} {kvs : List (PV × PV)} {x : K} {v d : Value} (R : Rel g ρ σ s.heap) (ek : σ[k]? = some (.dict kvs)) (Vd : VR s.heap ρ (.obj k) d)
    (Vx : VR s.heap ρ (enc x) v) (hk : ∀ p ∈ kvs, ∃ k, p.1 = enc k) {P : Value → Shared → Prop} :
    ((∀ t, P (.bool (dget (enc x) kvs).isSome) { s with toks := t }) → wpAny (model prog g.w) A (compareOp .In v d) P NoE s) ∧
    ((∀ t, P (.bool (!(dget (enc x) kvs).isSome)) { s with toks := t }) → wpAny (model prog g.w) A (compareOp .NotIn v d) P NoE s) := by
  obtain ⟨a, es, m, rfl, er, hg, hr, hn, _⟩ := Vd.dict_inv R ek
  have hm : (a == sysModules) = false := not_mods R er
  obtain ⟨xs, hx, D⟩ := dict_to N hg hr hn hk
  have e : (valueAt xs x).isSome = (dget (enc x) kvs).isSome := by rcases kv_get N hx x with ⟨a, b⟩ | ⟨_, _, a, b, _⟩ <;> rw [a, b] <;> rfl
  rw [← e]
  exact ⟨fun q => wpAny_in_of (N.vr Vx) hm D.mapOf (q _), fun q => wpAny_notIn_of (N.vr Vx) hm D.mapOf (q _)⟩
theorem inDict_sound (H : Room n A) {k : Nat} {kvs : List (PV × PV)} {x : PV} {v d : Value} (R : Rel g ρ σ s.heap) (ek : σ[k]? = some (.dict kvs)) (Vd : VR s.heap ρ (.obj k) d) (Vx : VR s.heap ρ x v)
    (hk : keysLike x kvs = true) (hw : g.w = w) {P : Value → Shared → Prop} :
    ((∀ t, P (.bool (dget x kvs).isSome) { s with toks := t }) → wpAny (model prog w) A (compareOp .In v d) P NoE s) ∧
    ((∀ t, P (.bool (!(dget x kvs).isSome)) { s with toks := t }) → wpAny (model prog w) A (compareOp .NotIn v d) P NoE s) := by
  subst hw
  obtain ⟨h1, h2⟩ := keysLike_inv hk
  cases x with
  | str x => exact in_enc encStr R ek Vd Vx fun p hp => isStrV_inv (h2 p hp)
  | int x => exact in_enc encInt R ek Vd Vx fun p hp => isIntV_inv (h2 p hp)
  | tup x =>
    obtain ⟨i, j, rfl⟩ := isPairL_inv (pair_key h1).1
    obtain ⟨a, es, m, rfl, er, hg, hr, hn, _⟩ := Vd.dict_inv R ek
    obtain ⟨b, its, m', rfl, _⟩ := Vx.tup_inv
    obtain ⟨xs, hx, D⟩ := dictH_to (prog := prog) hg hr hn fun p hp => isPairV_inv (pair_key (h2 p hp)).2
    have e : (atKey xs [i, j]).isSome = (dget (.tup [.int i, .int j]) kvs).isSome := by rcases kvh_get hx i j with ⟨a, b⟩ | ⟨_, _, a, b, _⟩ <;> rw [a, b] <;> rfl
    have hroom : (tk prog g.w).room A.in1 := by show A.units + 1 < cLine; have := H.eqd; (first | lia | omega)
    rw [← e]
    exact ⟨fun q => wpAny_in_heap hroom (is_pair Vx) (not_mods R er) D (q _), fun q => wpAny_notIn_heap hroom (is_pair Vx) (not_mods R er) D (q _)⟩
  | _ => exact noB h1

theorem eqL_sound (H : Room n A) {xs ys : List PV} {l1 l2 : Addr} {i1 i2 : Array Value} {n1 n2 : Nat} {r : Bool} (g1 : s.heap.get? l1 = some (lstObj i1 n1)) (g2 : s.heap.get? l2 = some (lstObj i2 n2)) (v1 : All2 (VR s.heap ρ) xs i1.toList) (v2 : All2 (VR s.heap ρ) ys i2.toList)
    (h : eqLs xs ys = some r) : RcAt A s (.ref l1) (.ref l2) r ∧ RcNeAt A s (.ref l1) (.ref l2) (!r) := by
  have hu := H.eqd
  have hu0 : A.units < cLine := Nat.lt_of_le_of_lt (Nat.le_trans (Nat.le_add_right _ eqDepth) (Nat.le_add_right _ 2)) hu
  have z1 := size_of v1
  have z2 := size_of v2
  unfold eqLs at h
  by_cases hl : xs.length = ys.length
  · rw [if_pos hl] at h
    obtain ⟨f, rfl, hf⟩ := eqL_all h
    have he : ∀ j (h1 : j < i1.size) (h2 : j < i2.size), EqAt A.in1 s i1[j] i2[j] (f j) := fun j h1 h2 => by
      obtain ⟨x', ex, rx⟩ := v1.get' (i := j) (y := i1[j]) (by simp [h1])
      obtain ⟨y', ey, ry⟩ := v2.get' (i := j) (y := i2[j]) (by simp [h2])
      exact (eqv_at eqDepth (hf j _ _ ex ey) rx ry (by show A.units + 1 + eqDepth < cLine; (first | lia | omega))).2.2
    have hsz : i1.size = i2.size := z1.symm.trans (hl.trans z2)
    have e0 : ((List.range (min xs.length ys.length)).all f && xs.length == ys.length) = (List.range i1.size).all f := by
      rw [hl, Nat.min_self, z2, ← hsz, BEq.rfl, Bool.and_true]
    rw [e0]
    exact ⟨RcAt.lists (isList_of g1) (isList_of g2) hsz hu0 he, RcNeAt.lists (isList_of g1) (isList_of g2) hsz hu0 he⟩
  · rw [if_neg hl] at h
    cases h
    have hsz : (i1.size != i2.size) = true := by rw [bne_iff_ne, ← z1, ← z2]; exact hl
    exact ⟨RcAt.lists_lengths (isList_of g1) (isList_of g2) hsz hu0, RcNeAt.lists_lengths (isList_of g1) (isList_of g2) hsz hu0⟩
theorem eqS_sound (H : Room n A) {a b : PV} {x y : Value} {r : Bool} (R : Rel g ρ σ s.heap) (Va : VR s.heap ρ a x) (Vb : VR s.heap ρ b y) (h : eqS σ a b = some r) : RcAt A s x y r ∧ RcNeAt A s x y (!r) := by
  have plain : eqv eqDepth a b = some r → RcAt A s x y r ∧ RcNeAt A s x y (!r) := fun h =>
    ⟨(eqv_at eqDepth h Va Vb (Nat.lt_of_le_of_lt (Nat.le_add_right _ 2) H.eqd)).1, (eqv_at eqDepth h Va Vb (Nat.lt_of_le_of_lt (Nat.le_add_right _ 2) H.eqd)).2.1⟩
  cases a with
  | obj i =>
    cases b with
    | obj j =>
      obtain ⟨xs, e1, h⟩ := Option.bind_eq_some_iff.mp h
      obtain ⟨ys, e2, h⟩ := Option.bind_eq_some_iff.mp h
      obtain ⟨l1, i1, n1, rfl, _, g1, v1, _⟩ := Va.list_inv R (lst_inv e1)
      obtain ⟨l2, i2, n2, rfl, _, g2, v2, _⟩ := Vb.list_inv R (lst_inv e2)
      exact eqL_sound H g1 g2 v1 v2 h
    | _ => exact nos h
  | _ => exact plain h

theorem in_sound (H : Room n A) {x c : PV} {v d : Value} {r : Bool} (hw : g.w = w) (R : Rel g ρ σ s.heap) (Vx : VR s.heap ρ x v) (Vc : VR s.heap ρ c d) (h : inS σ x c = some r) {P : Value → Shared → Prop} :
    ((∀ t, P (.bool r) { s with toks := t }) → wpAny (model prog w) A (compareOp .In v d) P NoE s) ∧ ((∀ t, P (.bool (!r)) { s with toks := t }) → wpAny (model prog w) A (compareOp .NotIn v d) P NoE s) := by
  have hu : A.in1.units + eqDepth < cLine := by show A.units + 1 + eqDepth < cLine; have := H.eqd; (first | lia | omega)
  cases c with
  | tup ys =>
    obtain ⟨l, its, m, rfl, hg, hv, _⟩ := Vc.tup_inv
    obtain ⟨a, b⟩ := hits hv Vx hu h
    have e : its.any (hit s.heap ρ ys x) = r := by rw [← b, Array.any_toList]
    exact ⟨fun q => in_tupleAt _ (isTuple_of hg) (fun y hy => a y (Array.mem_toList_iff.mpr hy)) (by rw [e]; exact q s.toks),
      fun q => notIn_tupleAt _ (isTuple_of hg) (fun y hy => a y (Array.mem_toList_iff.mpr hy)) (by rw [e]; exact q s.toks)⟩
  | obj k =>
    obtain ⟨o, e1, h⟩ := Option.bind_eq_some_iff.mp h
    cases o with
    | list ys =>
      obtain ⟨l, its, m, rfl, _, hg, hv, _⟩ := Vc.list_inv R e1
      obtain ⟨a, b⟩ := hits hv Vx hu h
      have e : its.any (hit s.heap ρ ys x) = r := by rw [← b, Array.any_toList]
      exact ⟨fun q => in_listAt _ (isList_of hg) (fun y hy => a y (Array.mem_toList_iff.mpr hy)) (by rw [e]; exact q s.toks),
        fun q => notIn_listAt _ (isList_of hg) (fun y hy => a y (Array.mem_toList_iff.mpr hy)) (by rw [e]; exact q s.toks)⟩
    | dict kvs =>
      replace h : (if keysLike x kvs then some (dget x kvs).isSome else none) = some r := h
      by_cases hk : keysLike x kvs = true
      · rw [if_pos hk] at h
        cases h
        exact inDict_sound H R e1 Vc Vx hk hw
      · rw [if_neg hk] at h; exact nos h
    | _ => exact nos h
  | _ => exact nos h

theorem cmp_sound (H : Room n A) {op : CmpOp} {p : Prim} (hp : cmpPrimC op = some p) {a b : PV} {x y : Value} (hw : g.w = w) (R : Rel g ρ σ s.heap) (Va : VR s.heap ρ a x) (Vb : VR s.heap ρ b y)
    (h : prim2 p a b σ Q) : wpAny (model prog w) A (compareOp op x y) (EP g ρ s Q) NoE s := by
  have non : (x == Value.none) = decide (a = .none) := by cases Va <;> simp
  cases op
  case LtE => exact nos hp
  all_goals cases hp
  · obtain ⟨r, e, h⟩ := h
    exact (eqS_sound H R Va Vb e).1 _ _ _ _ (EP.here' R (.bool _) h)
  · obtain ⟨r, e, h⟩ := h
    exact (eqS_sound H R Va Vb e).2 _ _ _ _ (EP.here' R (.bool _) h)
  · obtain ⟨i, j, t, u, rfl, rfl, h⟩ := intB_two Va Vb h
    exact PySem.P.lt_int (EP.here' R (.bool _) h)
  · obtain ⟨i, j, t, u, rfl, rfl, h⟩ := intB_two Va Vb h
    exact PySem.P.gt_int (EP.here' R (.bool _) h)
  · obtain ⟨i, j, t, u, rfl, rfl, h⟩ := intB_two Va Vb h
    exact PySem.P.ge_int (EP.here' R (.bool _) h)
  · obtain ⟨rfl, h⟩ := h
    cases Vb.none_inv
    exact is_none_gen (EP.here' R (non ▸ .bool _) h)
  · obtain ⟨rfl, h⟩ := h
    cases Vb.none_inv
    exact isnot_none_gen (EP.here' R (non ▸ .bool _) h)
  · obtain ⟨r, e, h⟩ := h
    exact (in_sound H hw R Va Vb e).1 fun t => EP.here R (.bool _) h t
  · obtain ⟨r, e, h⟩ := h
    exact (in_sound H hw R Va Vb e).2 fun t => EP.here R (.bool _) h t
end
end
section
open PySem PySem.W PyProof.Rows PySem.SeqAt

theorem pyIdx_range {α : Type} {xs : List α} {k : Int} {x : α} (h : pyIdx xs k = some x) : -(xs.length : Int) ≤ k ∧ k < xs.length := by
  unfold pyIdx at h
  split at h
  · have hl := (List.getElem?_eq_some_iff.mp h).1; (first | lia | omega)
  · split at h
    · have hl := (List.getElem?_eq_some_iff.mp h).1; (first | lia | omega)
    · cases h
theorem pyIdx_seq {α : Type} {xs : List α} {k : Int} {x : α} (h : pyIdx xs k = some x) : ∃ j, seqIndex? k xs.length = some j ∧ xs[j]? = some x := by
  have hr := pyIdx_range h
  unfold pyIdx at h
  unfold seqIndex?
  by_cases h0 : 0 ≤ k
  · rw [if_pos h0] at h
    refine ⟨k.toNat, ?_, h⟩
    have h1 : ¬ k < 0 := by (first | lia | omega)
    have h2 : k < (xs.length : Int) := hr.2
    simp [h0, h1, h2]
  · rw [if_neg h0] at h
    have h1 : 0 ≤ k + (xs.length : Int) := by (first | lia | omega)
    rw [if_pos h1] at h
    refine ⟨(k + xs.length).toNat, ?_, h⟩
    have h2 : k < 0 := by (first | lia | omega)
    have h3 : k + (xs.length : Int) < xs.length := by (first | lia | omega)
    simp [h1, h2, h3]
theorem big63 : (big : Int) < 2 ^ 63 := by decide

section
variable {prog : Program} {w : World} {A : Around} {g : Glb} {ρ : Rho} {σ : St} {s : Shared} {Q : PV → St → Prop} {n : Nat}

theorem idx_tup {xs : List PV} {k : Int} {pv : PV} {l : Addr} {its : Array Value} {m : Nat} {t : Tok} {P : Value → Shared → Prop} (e : s.heap.get? l = some (tupObj its m)) (V : All2 (VR s.heap ρ) xs its.toList)
    (h : pyIdx xs k = some pv) (hb : xs.length ≤ big) (q : ∀ v, VR s.heap ρ pv v → P v s) : wpAny (model prog w) A (getItem (.ref l) (.int k t)) P NoE s := by
  obtain ⟨j, e1, e2⟩ := pyIdx_seq h
  have hr := pyIdx_range h
  have hz := big63
  have hb' : (xs.length : Int) ≤ big := by exact_mod_cast hb
  obtain ⟨v, ev, r⟩ := V.get e2
  have hl : xs.length = its.size := by have := V.length; simpa using this
  rw [hl] at e1
  refine PySem.P.getItem_tuple (k := j) e (by (first | lia | omega)) (by (first | lia | omega)) e1 (by simpa using ev) (q v r)
theorem idx_list {xs : List PV} {k : Int} {pv : PV} {l : Addr} {its : Array Value} {m : Nat} {t : Tok} {P : Value → Shared → Prop} (e : s.heap.get? l = some (lstObj its m)) (V : All2 (VR s.heap ρ) xs its.toList)
    (h : pyIdx xs k = some pv) (hb : xs.length ≤ big) (q : ∀ v, VR s.heap ρ pv v → P v s) : wpAny (model prog w) A (getItem (.ref l) (.int k t)) P NoE s := by
  have hr := pyIdx_range h
  have hz := big63
  have hb' : (xs.length : Int) ≤ big := by exact_mod_cast hb
  have hl : xs.length = its.size := by have := V.length; simpa using this
  unfold pyIdx at h
  split at h
  · obtain ⟨v, ev, r⟩ := V.get h
    exact wpAny_getItem_list (isList_of e) (by (first | lia | omega)) (by (first | lia | omega)) (by simpa using ev) (q v r)
  · split at h
    · obtain ⟨v, ev, r⟩ := V.get h
      rw [hl] at ev
      exact wpAny_getItem_list_neg (isList_of e) (by (first | lia | omega)) (by (first | lia | omega)) (by (first | lia | omega)) (by simpa using ev) (q v r)
    · cases h

noncomputable def SubT (s : Shared) (o : Value) : Prop := ∃ T id, s.TypeIs o T ∧ typeLookup (.type T) "__getitem__" = pure (some (.builtin id))

theorem getItem_sound {a b : PV} {x y : Value} (hw : g.w = w) (R : Rel g ρ σ s.heap) (Va : VR s.heap ρ a x) (Vb : VR s.heap ρ b y) (h : prim .idx [a, b] σ Q) :
    SubT s x ∧ wpAny (model prog w) A (getItem x y) (EP g ρ s Q) NoE s := by
  subst hw
  replace h : prim2 .idx a b σ Q := h
  rcases h with h | h
  · obtain ⟨xs, l, its, m, rfl, rfl, hg, hv, zb, k, rfl, v, e, h⟩ := tup_two Va h
    obtain ⟨u, rfl⟩ := Vb.int_inv
    exact ⟨⟨_, _, ⟨_, hg, rfl⟩, F.slot_tuple_getitem.lookup⟩, idx_tup hg hv e zb fun u r => EP.here' R r h⟩
  rcases h with h | h
  · obtain ⟨i, xs, l, its, m, rfl, rfl, _, _, hg, hv, zb, k, rfl, v, e, h⟩ := lst_two R Va h
    obtain ⟨u, rfl⟩ := Vb.int_inv
    exact ⟨⟨_, _, ⟨_, hg, rfl⟩, F.slot_list_getitem.lookup⟩, idx_list hg hv e zb fun u r => EP.here' R r h⟩
  · obtain ⟨i, kvs, l, es, m, rfl, rfl, _, _, hg, hr, hn, _, k, rfl, v, e, hk, h⟩ := dct_two R Va h
    refine ⟨⟨_, _, ⟨_, hg, rfl⟩, F.slot_dict_getitem.lookup⟩, ?_⟩
    obtain ⟨h1, h2⟩ := keysLike_inv hk
    obtain ⟨xs, hx, D⟩ := dict_to (prog := prog) (knd := PySem.intKind prog g.w) encInt hg hr hn fun p hp => isIntV_inv (h2 p hp)
    rcases kv_get (encInt (prog := prog) (w := g.w)) hx k with ⟨q, _⟩ | ⟨pv, v', q1, q2, q3⟩
    · rw [q] at e; exact nos e
    · rw [q1] at e; cases e
      exact wpAny_getItem_of (encInt.vr Vb) D.mapOf q2 (EP.here R q3 h _)

end
section
variable {prog : Program} {w : World} {A : Around} {s : Shared} {E : Value → Shared → Prop}
theorem call_setitem_exact {l : Addr} {its : Array Value} {m j : Nat} {t : Tok} {k : Int} {v : Value} {P : Value → Shared → Prop} (e : s.heap.get? l = some (lstObj its m)) (hk : k = (j : Int)) (hj : j < its.size) (hf : Builtin.List.listFitsIndex k = true)
    (q : P .none { s with heap := s.heap.update l (Obj.mapSeq (·.setIfInBounds j v)) }) : wpAny (model prog w) A (call (.builtin "list.__setitem__") [.ref l, .int k t, v]) P E s := by
  have hT : s.TypeIs (.ref l) "list" := ⟨_, e, rfl⟩
  have hx : its[j]? = some its[j] := Array.getElem?_eq_getElem hj
  refine wpAny_call_entry PySem.slot_list_setitem hT PySem.entry_list_setitem ?_ (PySem.args_list_setitem _ _ _)
  show wpAny _ _ (Builtin.List.listSubscript? (.int k t) >>= _) _ _ s
  refine wpAny_bind (wpAny_listSubscript_int hf ?_)
  subst hk
  show wpAny _ _ ((seqItemAt l j >>= fun r => pure (r.map (j, ·))) >>= _) _ _ s
  refine wpAny_bind (wpAny_bind (wpAny_seqItemAt e rfl (wpAny_pure ?_)))
  rw [hx]
  show wpAny _ _ (setSeqItemAt l j v >>= _) _ _ s
  refine wpAny_bind (wpAny_setSeqItemAt e rfl ?_)
  first
    | exact wpAny_bind (wpAny_pure (wpAny_pure ⟨.none, rfl, q⟩))
    | exact wpAny_pure ⟨.none, rfl, q⟩
theorem setItem_exact {l : Addr} {its : Array Value} {m j : Nat} {t : Tok} {k : Int} {v : Value} {P : Unit → Shared → Prop} (e : s.heap.get? l = some (lstObj its m)) (hk : k = (j : Int)) (hj : j < its.size) (hf : Builtin.List.listFitsIndex k = true)
    (q : P () { s with heap := s.heap.update l (Obj.mapSeq (·.setIfInBounds j v)) }) : wpAny (model prog w) A (setItem (.ref l) (.int k t) v) P E s := by
  have hT : s.TypeIs (.ref l) "list" := ⟨_, e, rfl⟩
  unfold setItem
  try with_reducible refine wpAny_holding ?_
  refine wpAny_bind (wpAny_sequenceKey hT (by decide) ?_)
  refine wpAny_bind (wpAny_callSpecial?_slot (name := Str.ofString "__setitem__") hT PySem.slot_list_setitem (call_setitem_exact e hk hj hf ?_))
  exact wpAny_pure q

end
section
variable {prog : Program} {w : World} {A : Around} {g : Glb} {ρ : Rho} {σ : St} {s : Shared} {Q : PV → St → Prop} {n : Nat}
theorem mapSeq_lst {l : Addr} {h : Heap} {its : Array Value} {m : Nat} (e : h.get? l = some (lstObj its m)) (f : Array Value → Array Value) : ∃ m', (h.update l (Obj.mapSeq f)).get? l = some (lstObj (f its) m') :=
  ⟨_, Heap.get?_update_self _ e rfl⟩

theorem UP.list {k : Nat} {xs ys : List PV} {l : Addr} {its : Array Value} {m : Nat} {f : Array Value → Array Value} {Q : St → Prop} (R : Rel g ρ σ s.heap) (e1 : σ[k]? = some (.list xs)) (er : ρ[k]? = some (l, l))
    (hg : s.heap.get? l = some (lstObj its m)) (hv : All2 (VR s.heap ρ) ys (f its).toList) (hb : ys.length ≤ big) (q : Q (σ.set k (.list ys))) (t : Nat) : UP g ρ s Q { s with heap := s.heap.update l (Obj.mapSeq f), toks := t } := by
  obtain ⟨m', hg'⟩ := mapSeq_lst hg f
  have hs : Heap.SameBut (l, l).2 s.heap (s.heap.update l (Obj.mapSeq f)) := Heap.SameBut.update ..
  have S := Step.set er hs ⟨_, hg'⟩
  refine ⟨_, ρ, ⟨_, _, rfl⟩, S, R.set (o' := .list ys) e1 er hs ⟨rfl, hb, _, _, hg', hv.mono fun _ _ r => r.step R xok_nil S⟩, q⟩

theorem dput_len {i v : PV} {kvs : List (PV × PV)} (hz : kvs.length < 1000) : (dput i v kvs).length ≤ 1000 := by
  unfold dput
  split
  · rw [List.length_map]; exact Nat.le_of_lt hz
  · rw [List.length_append]; exact hz
theorem UP.dict {k : Nat} {kvs kvs' : List (PV × PV)} {l : Addr} {h' : Heap} {Q : St → Prop} (R : Rel g ρ σ s.heap) (e1 : σ[k]? = some (.dict kvs)) (er : ρ[k]? = some (l, l)) (q : Q (σ.set k (.dict kvs'))) (t : Nat)
    (hs : Heap.SameBut l s.heap h') (hlv : ∃ o, h'.get? l = some o) (ho : Step [] ρ s.heap ρ h' → ORel g.w g.AT h' ρ (l, l) (.dict kvs')) : UP g ρ s Q { s with heap := h', toks := t } :=
  have S : Step [] ρ s.heap ρ h' := Step.set er hs hlv
  ⟨_, ρ, ⟨_, _, rfl⟩, S, R.set e1 er hs (ho S), q⟩
theorem small_dict {kvs : List (PV × PV)} {c : Nat} (hz : kvs.length < 1000) (e : kvs.length = c) : c ≤ sizeLine := by have := big_le; unfold big at this; (first | lia | omega)
theorem set_enc {K : Type} [DecidableEq K] {knd : PySem.KeyKind prog g.w K} {enc : K → PV} (N : Enc knd enc) {k : Nat} {kvs : List (PV × PV)} {l : Addr} {es : Array DictEntry} {m : Nat} {i : K} {v : PV} {y z : Value} {Q : St → Prop} (R : Rel g ρ σ s.heap) (e1 : σ[k]? = some (.dict kvs)) (er : ρ[k]? = some (l, l))
    (hg : s.heap.get? l = some (dctObj es m)) (hr : All2 (EntR g.w s.heap ρ) kvs es.toList) (hn : (kvs.map (·.1)).Nodup) (Vi : VR s.heap ρ (enc i) y) (Vv : VR s.heap ρ v z) (hk : ∀ p ∈ kvs, ∃ k, p.1 = enc k) (hz : kvs.length < 1000) (h : Q (σ.set k (.dict (dput (enc i) v kvs)))) :
    wpAny (model prog g.w) A (setItem (.ref l) y z) (fun _ => UP g ρ s Q) NoE s := by
  obtain ⟨xs, hx, D⟩ := dict_to N hg hr hn hk
  refine wpAny_setItem_pairs (N.vr Vi) D (fun h' D' hs' => UP.dict R e1 er h _ hs' (let ⟨o, _, _, e, _⟩ := D'; ⟨o, e⟩) fun S => ?_) (small_dict hz hx.length)
  exact dict_from N D' ((kv_put N hx i Vv).mono fun _ _ r => ⟨r.1, r.2.step R xok_nil S⟩) (dput_len hz)
theorem setIdx_sound (H : Room n A) {o i v : PV} {x y z : Value} (hw : g.w = w) (R : Rel g ρ σ s.heap) (Vo : VR s.heap ρ o x) (Vi : VR s.heap ρ i y) (Vv : VR s.heap ρ v z) {Q : St → Prop} (h : setIdx o i v σ Q) :
    wpAny (model prog w) A (setItem x y z) (fun _ => UP g ρ s Q) NoE s := by
  subst hw
  rcases h with h | h
  · obtain ⟨k, xs, l, its, m, rfl, rfl, e1, er, hg, hv, h2, m', rfl, h0, h1, h3⟩ := lst_two R Vo h
    obtain ⟨u, rfl⟩ := Vi.int_inv
    have hl := size_of hv
    have hz := big63
    have hb' : (xs.length : Int) ≤ big := by exact_mod_cast h2
    obtain ⟨j, rfl⟩ := Int.eq_ofNat_of_zero_le h0
    refine setItem_exact hg rfl (by (first | lia | omega)) (fitsIndex_of (by (first | lia | omega)) (by (first | lia | omega))) (UP.list R e1 er hg ?_ (by rw [List.length_set]; exact h2) h3 _)
    rw [Int.toNat_natCast, Array.toList_setIfInBounds]
    exact hv.set Vv
  · obtain ⟨k, kvs, l, es, m, rfl, rfl, e1, er, hg, hr, hn, _, hk, hz, h⟩ := dct_two R Vo h
    obtain ⟨h1, h2⟩ := keysLike_inv hk
    cases i with
    | str i => exact set_enc encStr R e1 er hg hr hn Vi Vv (fun p hp => isStrV_inv (h2 p hp)) hz h
    | int i => exact set_enc encInt R e1 er hg hr hn Vi Vv (fun p hp => isIntV_inv (h2 p hp)) hz h
    | tup x =>
      obtain ⟨i, j, rfl⟩ := isPairL_inv (pair_key h1).1
      obtain ⟨b, its, m', rfl, _⟩ := Vi.tup_inv
      obtain ⟨xs, hx, D⟩ := dictH_to (prog := prog) hg hr hn fun p hp => isPairV_inv (pair_key (h2 p hp)).2
      have hroom : (tk prog g.w).room A.in1 := by show A.units + 1 < cLine; have := H.eqd; (first | lia | omega)
      refine wpAny_setItem_heap hroom (is_pair Vi) D (fun h' D' hs' => UP.dict R e1 er h _ hs' (let ⟨o, _, _, e, _⟩ := D'; ⟨o, e⟩) fun S => ?_) (small_dict hz hx.length)
      exact dictH_from D' ((kvh_put hx Vi Vv).mono fun _ _ r => ⟨r.1, r.2.1.step R xok_nil S, r.2.2.step R xok_nil S⟩) (dput_len hz)
    | _ => exact noB h1
end
end
section
open PySem PySem.W PyProof.Rows PySem.SeqAt

section
variable {prog : Program} {w : World} {A : Around} {g : Glb} {ρ : Rho} {σ : St} {s : Shared} {Q : PV → St → Prop} {n : Nat}

theorem len_int {h : Heap} {xs : List PV} {its : Array Value} (V : All2 (VR h ρ) xs its.toList) (hb : xs.length ≤ big) : (its.size : Int) < 2 ^ 63 := by
  rw [← size_of V]
  exact Int.lt_of_le_of_lt (Int.ofNat_le.mpr hb) big63
theorem truthy_sound {a : PV} {v : Value} {b : Bool} (R : Rel g ρ σ s.heap) (V : VR s.heap ρ a v) (h : truthy σ a = some b) {P : Bool → Shared → Prop} (q : ∀ t, P b { s with toks := t }) :
    wpAny (model prog w) A (PySem.truthy v) P NoE s := by
  cases a with
  | bool c => cases V; cases h; exact wpAny_truthy_bool (q s.toks)
  | obj k =>
    obtain ⟨xs, e, rfl⟩ := Option.map_eq_some_iff.mp h
    obtain ⟨l, its, m, rfl, er, hg, hv, zb⟩ := V.list_inv R (lst_inv e)
    refine wpAny_truthy_list (isList_of hg) (len_int hv zb) ?_
    have hl := size_of hv
    have : its.isEmpty = xs.isEmpty := by
      rw [Bool.eq_iff_iff, Array.isEmpty_iff_size_eq_zero, List.isEmpty_iff_length_eq_zero, hl]
    rw [this]; exact q _
  | _ => exact nos h

theorem sliceP_len (xs : List PV) (lo hi st : Option Int) : (sliceP xs lo hi st).length ≤ xs.length := by
  have h := slicePick_size_le (xs.map fun _ => Value.none).toArray lo hi st
  have e : ∀ (is : List Nat), (is.filterMap (xs[·]?)).length = (is.filterMap ((xs.map fun _ => Value.none).toArray[·]?)).length := by
    intro is
    induction is with
    | nil => rfl
    | cons i is ih =>
      rw [List.filterMap_cons, List.filterMap_cons]
      have e2 : (xs.map fun _ => Value.none).toArray[i]? = (xs[i]?).map fun _ => Value.none := by simp
      rw [e2]
      cases xs[i]? with
      | none => exact ih
      | some x => simp [ih]
  unfold slicePick at h
  unfold sliceP
  rw [List.size_toArray] at h
  rw [e]
  simpa using h

theorem sliceL_sound {k : Nat} {xs : List PV} {o : Value} {sl : Addr} {lo hi st : Option Int} {vl vu vs : Value} (R : Rel g ρ σ s.heap) (e : σ[k]? = some (.list xs) ∨ σ[k]? = some (.ro xs)) (V : VR s.heap ρ (.obj k) o)
    (hs : s.heap.IsSliceOf sl vl vu vs) (pl : IsPart vl lo) (pu : IsPart vu hi) (ps : IsPart vs st) (h0 : st ≠ some 0) (q : Q (.obj σ.length) (σ ++ [.list (sliceP xs lo hi st)])) :
    wpAny (model prog w) A (getItem o (.ref sl)) (EP g ρ s Q) NoE s := by
  have inv : ∃ l its, o = .ref l ∧ s.heap.IsList l its ∧ All2 (VR s.heap ρ) xs its.toList ∧ xs.length ≤ big := by
    rcases e with e | e
    · obtain ⟨l, its, m, h1, _, h2, h3, h4⟩ := V.list_inv R e
      exact ⟨l, its, h1, isList_of h2, h3, h4⟩
    · obtain ⟨p, hp, ho⟩ := R.lookup e
      cases V with
      | obj hk =>
        rw [hp] at hk; cases hk
        obtain ⟨e1, z, its, h1, h2⟩ := ho
        exact ⟨_, its, rfl, by dsimp only at e1 h1; rw [e1]; exact h1, h2, z⟩
  obtain ⟨l, its, rfl, hg, hv, zb⟩ := inv
  have hl : xs.length = its.size := by have := hv.length; simpa using this
  refine wpAny_getItem_list_slice hg hs pl pu ps h0 (EP.newList R ?_ (Nat.le_trans (sliceP_len ..) zb) q _) (by have := big_le; (first | lia | omega))
  unfold slicePick sliceP
  rw [hl]
  have := hv.filterMap_get (sliceRange (sliceBounds lo hi st its.size).1 (sliceBounds lo hi st its.size).2.1 (sliceBounds lo hi st its.size).2.2)
  simpa using this

theorem are_ints {h : Heap} : ∀ {vs : List Value} {ns : List Int}, IntsAre vs ns → All2 (VR h ρ) (ns.map .int) vs
  | _, _, .nil => trivial
  | _, _, .cons i t r => ⟨.int i t, are_ints r⟩

theorem len_sound {a : PV} {v : Value} (R : Rel g ρ σ s.heap) (V : VR s.heap ρ a v) (h : prim1 .len a σ Q) : wpAny (model prog w) A (call (.builtin "len") [v]) (EP g ρ s Q) NoE s := by
  rcases h with h | h
  · obtain ⟨xs, l, its, m, rfl, rfl, hg, hv, zb, h⟩ := tup_two V h
    rw [size_of hv] at h
    exact PySem.P.len_tuple hg (Int.not_le.mpr (len_int hv zb)) (EP.here R (.int _ _) h _)
  · obtain ⟨k, xs, l, its, m, rfl, rfl, _, _, hg, hv, zb, h⟩ := lst_two R V h
    rw [size_of hv] at h
    exact PySem.Calls.call_len_list (isList_of hg) (len_int hv zb) (EP.here R (.int _ _) h _)
theorem abs_sound {a : PV} {v : Value} (R : Rel g ρ σ s.heap) (V : VR s.heap ρ a v) (h : prim1 .abs a σ Q) : wpAny (model prog w) A (call (.builtin "abs") [v]) (EP g ρ s Q) NoE s := by
  obtain ⟨i, rfl, h⟩ := h
  obtain ⟨t, rfl⟩ := V.int_inv
  refine call_abs_int fun u tk => EP.here R ?_ h tk
  have : (if i < 0 then -i else i) = (i.natAbs : Int) := by split <;> (first | lia | omega)
  rw [this]; exact .int _ _
theorem tuple_sound {a : PV} {v : Value} (R : Rel g ρ σ s.heap) (V : VR s.heap ρ a v) (h : prim1 .tupleOf a σ Q) : wpAny (model prog w) A (call (.type "tuple") [v]) (EP g ρ s Q) NoE s := by
  rcases h with h | h
  · obtain ⟨xs, l, its, m, rfl, rfl, hg, hv, zb, h⟩ := tup_two V h
    exact call_tuple_same (isTuple_of hg) (EP.here' R V h)
  · obtain ⟨k, xs, l, its, m, rfl, rfl, _, _, hg, hv, zb, h⟩ := lst_two R V h
    refine call_tuple_list (isList_of hg) (fun h' hk => ?_) (by rw [← size_of hv]; exact Nat.le_trans zb big_le)
    have V' : All2 (VR h' ρ) xs its.toList := hv.mono fun _ _ r => by have := vr_grow (δ := []) r hk; rwa [List.append_nil] at this
    exact EP.trans (s' := { s with heap := h' }) (Like.hp _ _) (Step.grow hk) (EP.newTup (s := { s with heap := h' }) (R.grow hk) V' zb h _)
end
end
section
open PySem PySem.W PyProof.Rows PySem.SeqAt

section
variable {prog : Program} {w : World} {A : Around} {g : Glb} {ρ : Rho} {σ : St} {s : Shared} {Q : PV → St → Prop} {n : Nat}

theorem EP.fresh {xs : List PV} {its : Array Value} {h' : Heap} {a : Addr} {m : Nat} (R : Rel g ρ σ s.heap) (hk : ∀ b o, s.heap.get? b = some o → h'.get? b = some o) (hz : s.heap.objs.size ≤ a)
    (e : h'.get? a = some (lstObj its m)) (V : All2 (VR s.heap ρ) xs its.toList) (hb : xs.length ≤ big) (q : Q (.obj σ.length) (σ ++ [.list xs])) (t : Nat) : EP g ρ s Q (.ref a) { s with heap := h', toks := t } := by
  have V' : All2 (VR h' ρ) xs its.toList := V.mono fun _ _ r => by have := vr_grow (δ := []) r hk; rwa [List.append_nil] at this
  have R' : Rel g ρ σ h' := R.grow hk
  have ha : s.heap.get? a = none := by
    cases q : s.heap.get? a with
    | none => rfl
    | some o => exact absurd (Nat.lt_of_lt_of_le (Heap.lt_size q) hz) (Nat.lt_irrefl _)
  refine ⟨_, _, ρ ++ [(a, a)], ⟨_, _, rfl⟩, ⟨⟨_, rfl, fun p hp => by rw [List.mem_singleton.mp hp]; exact ha⟩, fun _ o e => ⟨o, hk _ _ e⟩, fun _ _ e _ _ => hk _ _ e⟩,
    R'.alloc (p := (a, a)) (R.fresh ha) (fun q => by obtain ⟨o, e, _⟩ := R.owned q; rw [ha] at e; cases e) (R.ne_mods hz) (orel_list e V' hb), .obj (d := a) (by rw [List.getElem?_append_right (by rw [R.len]; exact Nat.le_refl _), R.len]; simp), q⟩


theorem UP.none {Q : PV → St → Prop} {s' : Shared} (x : UP g ρ s (fun τ => Q .none τ) s') : EP g ρ s Q .none s' := by
  obtain ⟨σ', ρ', L, S, R', q⟩ := x
  exact ⟨_, σ', ρ', L, S, R', .none, q⟩
theorem append_sound {o v : PV} {x y : Value} (R : Rel g ρ σ s.heap) (Vo : VR s.heap ρ o x) (Vv : VR s.heap ρ v y) (h : bmeth .append o [v] σ Q) :
    wpAny (model prog w) A (call (.builtin "list.append") [x, y]) (EP g ρ s Q) NoE s := by
  obtain ⟨k, xs, l, its, m, rfl, rfl, e, er, hg, hv, zb, v', ev, hz, h⟩ := lst_two R Vo h
  cases ev
  refine call_meets F.slot_list_append ⟨_, hg, rfl⟩ F.entry_list_append (F.args_list_append_2 _ _) (PySem.list_append l its m y (by rw [← size_of hv]; exact Nat.le_trans (Nat.le_of_lt hz) big_le)) ⟨hg, ?_⟩
  exact UP.none (UP.list (f := fun x => x.push y) R e er hg (by rw [Array.toList_push]; exact hv.snoc Vv) (by rw [List.length_append]; exact hz) h s.toks)
theorem pop_sound {o : PV} {x : Value} (R : Rel g ρ σ s.heap) (Vo : VR s.heap ρ o x) (h : bmeth .pop o [] σ Q) :
    wpAny (model prog w) A (call (.builtin "list.pop") [x]) (EP g ρ s Q) NoE s := by
  obtain ⟨k, xs, l, its, m, rfl, rfl, e, er, hg, hv, zb, _, pv, ep, h⟩ := lst_two R Vo h
  have hl := size_of hv
  rw [List.getLast?_eq_getElem?] at ep
  obtain ⟨y, ey, r⟩ := hv.get ep
  rw [hl] at ey
  refine call_meets F.slot_list_pop ⟨_, hg, rfl⟩ F.entry_list_pop (F.args_list_pop_1 _) (MeetsSeq.list_pop_last l its m y (by simpa using ey) (by rw [← hl]; exact Nat.le_trans zb big_le)) ⟨hg, ?_⟩
  have hpos : 0 < its.size := by have := (List.getElem?_eq_some_iff.mp ey).1; rw [Array.length_toList] at this; (first | lia | omega)
  have ed : (its.eraseIdxIfInBounds (its.size - 1)).toList = its.toList.dropLast := by
    rw [Array.eraseIdxIfInBounds, dif_pos (Nat.sub_lt hpos Nat.one_pos), Array.toList_eraseIdx, List.eraseIdx_eq_take_drop_succ, List.dropLast_eq_take, Array.length_toList, List.drop_of_length_le (by rw [Array.length_toList]; (first | lia | omega)), List.append_nil]
  obtain ⟨σ', ρ', L, S, R', q⟩ := UP.list (Q := fun τ => Q pv τ) (f := fun xs => xs.eraseIdxIfInBounds (its.size - 1)) R e er hg (by rw [ed]; exact hv.dropLast) (by rw [List.length_dropLast]; exact Nat.le_trans (Nat.sub_le _ _) zb) h s.toks
  exact ⟨_, σ', ρ', L, S, R', r.step R xok_nil S, q⟩
theorem get_enc {K : Type} [DecidableEq K] {knd : PySem.KeyKind prog g.w K} {enc : K → PV} (N : Enc knd enc) {l : Addr} {es : Array DictEntry} {m : Nat} {kvs : List (PV × PV)} {i : K} {d : PV} {y z : Value} (R : Rel g ρ σ s.heap) (hm : (l == sysModules) = false)
    (hg : s.heap.get? l = some (dctObj es m)) (hr : All2 (EntR g.w s.heap ρ) kvs es.toList) (hn : (kvs.map (·.1)).Nodup) (Vk : VR s.heap ρ (enc i) y) (Vd : VR s.heap ρ d z) (hk : ∀ p ∈ kvs, ∃ k, p.1 = enc k) (h : Q ((dget (enc i) kvs).getD d) σ) :
    wpAny (model prog g.w) A (call (.builtin "dict.get") [.ref l, y, z]) (EP g ρ s Q) NoE s := by
  obtain ⟨xs, hx, D⟩ := dict_to N hg hr hn hk
  refine call_meetsIn F.slot_dict_get ⟨_, hg, rfl⟩ F.entry_dict_get (F.args_dict_get_3 _ _ _) (meets_dict_get_default knd l (N.vr Vk) hm z) ⟨_, D.mapOf, EP.here R ?_ h _⟩
  rcases kv_get N hx i with ⟨a, b⟩ | ⟨_, _, a, b, r⟩ <;> rw [a, b]
  · exact Vd
  · exact r
theorem get_sound (H : Room n A) {o key d : PV} {x y z : Value} (hw : g.w = w) (R : Rel g ρ σ s.heap) (Vo : VR s.heap ρ o x) (Vk : VR s.heap ρ key y) (Vd : VR s.heap ρ d z) (h : bmeth .get o [key, d] σ Q) :
    wpAny (model prog w) A (call (.builtin "dict.get") [x, y, z]) (EP g ρ s Q) NoE s := by
  subst hw
  obtain ⟨k, kvs, l, es, m, rfl, rfl, e, er, hg, hr, hn, zb, key', d', ek, hk, h⟩ := dct_two R Vo h
  cases ek
  have hm : (l == sysModules) = false := not_mods R er
  obtain ⟨h1, h2⟩ := keysLike_inv hk
  cases key with
  | str i => exact get_enc encStr R hm hg hr hn Vk Vd (fun p hp => isStrV_inv (h2 p hp)) h
  | int i => exact get_enc encInt R hm hg hr hn Vk Vd (fun p hp => isIntV_inv (h2 p hp)) h
  | tup x =>
    obtain ⟨i, j, rfl⟩ := isPairL_inv (pair_key h1).1
    obtain ⟨b, its, m', rfl, _⟩ := Vk.tup_inv
    obtain ⟨xs, hx, D⟩ := dictH_to (prog := prog) hg hr hn fun p hp => isPairV_inv (pair_key (h2 p hp)).2
    have hroom : (tk prog g.w).room A.in1 := by show A.units + 1 < cLine; have := H.eqd; (first | lia | omega)
    refine call_meetsIn F.slot_dict_get ⟨_, hg, rfl⟩ F.entry_dict_get (F.args_dict_get_3 _ _ _) (meetsH_dict_get_default (tk prog g.w) l b hm z) ⟨hroom, _, _, is_pair Vk, D, EP.here R ?_ h _⟩
    rcases kvh_get hx i j with ⟨a, b⟩ | ⟨_, _, a, b, r⟩ <;> rw [a, b]
    · exact Vd
    · exact r
  | _ => exact noB h1
end
end
section
open PySem PySem.W PyProof.Rows PySem.SeqAt

theorem plain_contains_iter : plainId "proto.contains_iter" = true := by decide +kernel
theorem entry_contains_iter : entryFor table "proto.contains_iter" = some Builtin.«proto.contains_iter» := entryFor_of_tree (by kernel_rfl)
theorem no_contains_values : typeLookup (.type "dict_values") "__contains__" = pure none := by rw [typeLookup_type, builtinLookup_eq_fast]; kernel_rfl

section
variable {prog : Program} {w : World} {A : Around} {g : Glb} {ρ : Rho} {σ : St} {s : Shared} {Q : PV → St → Prop} {n : Nat}

theorem contains_loop {s₀ : Shared} {I d : Addr} {m : Nat} {P : Nat → Value → Prop} {S : Nat → Heap → Prop} (W : Walks prog w A.in1 I [I, d] [I] m P S) (hI : s₀.heap.get? I = none) {x : PV} {v : Value} (Vx : VR s₀.heap ρ x v)
    (hu : A.in1.units + eqDepth < cLine) {R : Result → Shared → Prop} {b : Bool} :
    ∀ (k i : Nat) (s : Shared) (ys : List PV), m - i = k → i ≤ m → S i s.heap → (∀ b o, s₀.heap.get? b = some o → s.heap.get? b = some o) → Like s₀ s → ys.length = m - i →
      (∀ j u, P (i + j) u → ∃ y, ys[j]? = some y ∧ VR s₀.heap ρ y u) → anyL (fun y => eqv eqDepth y x) ys = some b →
      (∀ s', (∀ b o, s₀.heap.get? b = some o → s'.heap.get? b = some o) → Like s₀ s' → R (.ok (.ret (.bool b))) s') → codeAny (model prog w) A (.builtin "proto.contains_iter" ⟨[.ref I, v], []⟩) R s := by
  intro k
  induction k generalizing b with
  | zero =>
    intro i s ys hk hi st hkp hl hlen hp he hR
    have hin : i = m := by (first | lia | omega)
    subst hin
    have : ys = [] := by cases ys with | nil => rfl | cons => simp at hlen
    subst this
    cases he
    refine codeAny_builtin entry_contains_iter ?_
    rw [Around.under_plainId plain_contains_iter _]
    refine wpAny_bind (W.done s _ _ st fun h' tk hk' => ?_)
    refine wpAny_bind (wpAny_rule (wpAny_pure (hR _ (fun b o e => hk' b o (fun q => ?_) (hkp b o e)) (hl.trans ⟨_, _, rfl⟩))))
    rw [List.mem_singleton.mp q, hI] at e; cases e
  | succ k ih =>
    intro i s ys hk hi st hkp hl hlen hp he hR
    have hlt : i < m := by (first | lia | omega)
    refine codeAny_builtin entry_contains_iter ?_
    rw [Around.under_plainId plain_contains_iter _]
    refine wpAny_bind (W.item i s _ _ hlt st fun u h' tk hPu st' hk' => ?_)
    have hkp' : ∀ b o, s₀.heap.get? b = some o → h'.get? b = some o := fun b o e => hk' b o (fun q => by rw [List.mem_singleton.mp q, hI] at e; cases e) (hkp b o e)
    obtain ⟨y, ey, ry⟩ := hp 0 u hPu
    cases ys with
    | nil => simp at ey
    | cons y' ys =>
      cases ey
      replace he : (match eqv eqDepth y x with | some a => (match anyL (fun y => eqv eqDepth y x) ys with | some b => some (a || b) | none => none) | none => none) = some b := he
      cases ha : eqv eqDepth y x with
      | none => rw [ha] at he; exact nos he
      | some a =>
      cases hc : anyL (fun y => eqv eqDepth y x) ys with
      | none => rw [ha, hc] at he; exact nos he
      | some c =>
        rw [ha, hc] at he
        cases he
        have V1 : VR h' ρ y u := by have := vr_grow (δ := []) ry hkp'; rwa [List.append_nil] at this
        have V2 : VR h' ρ x v := by have := vr_grow (δ := []) Vx hkp'; rwa [List.append_nil] at this
        refine wpAny_bind ((eqv_at (s := { s with heap := h', toks := tk }) eqDepth ha V1 V2 hu).2.2 prog w _ _ ?_)
        cases a with
        | true => exact wpAny_bind (wpAny_rule (wpAny_pure (hR _ hkp' (hl.trans ⟨_, _, rfl⟩))))
        | false =>
          refine wpAny_pure ⟨plainId_quiet plain_contains_iter _, ih (i + 1) _ ys (by (first | lia | omega)) hlt st' hkp' (hl.trans ⟨_, _, rfl⟩) (by rw [List.length_cons] at hlen; (first | lia | omega)) (fun j u' hj => ?_) hc hR⟩
          obtain ⟨z, ez, rz⟩ := hp (j + 1) u' (by rw [show i + (j + 1) = i + 1 + j by (first | lia | omega)]; exact hj)
          exact ⟨z, ez, rz⟩

theorem values_sound {k : Nat} {kvs : List (PV × PV)} {o : Value} (hw : g.w = w) (R : Rel g ρ σ s.heap) (e : σ[k]? = some (.dict kvs)) (V : VR s.heap ρ (.obj k) o) (hk : keysLike (.int 0) kvs = true) {P : Value → Shared → Prop}
    (q : P (.ref s.heap.objs.size) { s with heap := s.heap.push { cls := .type "dict_values", data := .fields #[o] } }) : wpAny (model prog w) A (call (.builtin "dict.values") [o]) P NoE s := by
  subst hw
  obtain ⟨l, es, m, rfl, er, hg, hr, hn, zb⟩ := V.dict_inv R e
  have hm : (l == sysModules) = false := not_mods R er
  obtain ⟨h1, h2⟩ := keysLike_inv hk
  obtain ⟨xs, hx, D⟩ := dict_to (prog := prog) (knd := PySem.intKind prog g.w) encInt hg hr hn fun p hp => isIntV_inv (h2 p hp)
  exact call_meetsIn F.slot_dict_values ⟨_, hg, rfl⟩ F.entry_dict_values (F.args_dict_values_1 _) (meets_dict_values (PySem.intKind prog g.w) l hm) ⟨⟨_, D⟩, q⟩

theorem inVals_sound (H : Room (n + 1) A) {k : Nat} {kvs : List (PV × PV)} {o v : Value} {x : PV} {b : Bool} {r : Addr} (hw : g.w = w) (R : Rel g ρ σ s.heap) (e : σ[k]? = some (.dict kvs)) (V : VR s.heap ρ (.obj k) o) (Vx : VR s.heap ρ x v)
    (hk : keysLike (.int 0) kvs = true) (hr : s.heap.get? r = some { cls := .type "dict_values", data := .fields #[o] }) (hb : anyL (fun y => eqv eqDepth y x) (kvs.map (·.2)) = some b) (q : Q (.bool b) σ) :
    wpAny (model prog w) A (compareOp .In v (.ref r)) (EP g ρ s Q) NoE s := by
  subst hw
  obtain ⟨l, es, m, rfl, er, hg, hre, hn, zb⟩ := V.dict_inv R e
  obtain ⟨h1, h2⟩ := keysLike_inv hk
  obtain ⟨xs, hx, D⟩ := dict_to (prog := prog) (knd := PySem.intKind prog g.w) encInt hg hre hn fun p hp => isIntV_inv (h2 p hp)
  obtain ⟨ep, DA⟩ := D.dictAt
  have hT : s.TypeIs (.ref r) "dict_values" := ⟨_, hr, rfl⟩
  have K := kdl_values (prog := prog) (r := r) (d := l) (knd := PySem.intKind prog g.w) (kvs := xs) (ep := ep)
  obtain ⟨oI, S, hit, W, st⟩ := K.iter A.in1 s H.hd ⟨⟨_, hr, rfl, rfl⟩, DA⟩
  show wpAny _ _ (do return Value.bool (← contains (.ref r) v)) _ _ s
  refine wpAny_bind ?_
  unfold contains
  try with_reducible refine wpAny_holding ?_
  refine wpAny_bind (wpAny_specialOf hT no_contains_values ?_)
  refine wpAny_ite_split (fun h => absurd h (by decide)) fun _ => ?_
  refine wpAny_bind (wpAny_callSpecialUnlessNone?_none hT no_contains_values ?_)
  dsimp only
  refine wpAny_bind (wpAny_rule ?_)
  refine wpAny_bind (wpAny_tryCatch (wpAny_of_in1 (hit _ _ ?_)))
  have hu : A.in1.units + eqDepth < cLine := by show A.units + 1 + eqDepth < cLine; have := H.eqd; (first | lia | omega)
  refine wpAny_bind (wpAny_runValue (contains_loop (s₀ := s) W (get_size _) Vx hu xs.length 0 _ (kvs.map (·.2)) (Nat.sub_zero _) (Nat.zero_le _) st (fun _ _ e => get_push_lt e) (Like.hp _ _) (by rw [List.length_map, hx.length]; rfl) (fun j u hj => ?_) hb fun s' hk' hl => ?_))
  · obtain ⟨k', hj⟩ := hj
    rw [Nat.zero_add] at hj
    obtain ⟨p, ep', r⟩ := hx.get' hj
    exact ⟨p.2, by rw [List.getElem?_map, ep']; rfl, r.2⟩
  · refine wpAny_pure (wpAny_pure ?_)
    obtain ⟨h', t, rfl⟩ := hl
    exact ⟨_, σ, ρ, ⟨_, _, rfl⟩, Step.grow hk', R.grow hk', .bool _, q⟩
end
end
section
open PySem PySem.W PyProof.Rows PySem.SeqAt

theorem owner_rev : Manifest.owners.lookup (String.ofList ['d', 'e', 's', 'r', 'e', 'v', 'e', 'r'].reverse) = some Manifest.sig_reversed := by kernel_rfl
theorem slot_rev_next : Slot "reversed" "__next__" "reversed.__next__" :=
  .of (owner := "reversed") (n := "__next__") (by rw [typeLookup_type, builtinLookup_eq_fast]; kernel_rfl) (by decide +kernel) (by decide +kernel) (by decide +kernel)
    (by first | exact .inl (by decide +kernel) | exact .inr (by decide +kernel)) (by rw [isSubtype_type]; kernel_rfl)
theorem entry_rev_next : entryFor table "reversed.__next__" = some Builtin.«reversed.__next__» := entryFor_of_tree (by kernel_rfl)
theorem args_rev_next (a : Value) : argsOk "reversed.__next__" ⟨[a], []⟩ := by
  unfold argsOk; rw [signature?_of (id := "reversed.__next__") (n := ['_', '_', 't', 'x', 'e', 'n', '_', '_']) (o := ['d', 'e', 's', 'r', 'e', 'v', 'e', 'r']) (by kernel_rfl) owner_rev]; kernel_rfl
theorem slot_rev_iter : Slot "reversed" "__iter__" "reversed.__iter__" :=
  .of (owner := "reversed") (n := "__iter__") (by rw [typeLookup_type, builtinLookup_eq_fast]; kernel_rfl) (by decide +kernel) (by decide +kernel) (by decide +kernel)
    (by first | exact .inl (by decide +kernel) | exact .inr (by decide +kernel)) (by rw [isSubtype_type]; kernel_rfl)
theorem args_rev_iter (a : Value) : argsOk "reversed.__iter__" ⟨[a], []⟩ := by
  unfold argsOk; rw [signature?_of (id := "reversed.__iter__") (n := ['_', '_', 'r', 'e', 't', 'i', '_', '_']) (o := ['d', 'e', 's', 'r', 'e', 'v', 'e', 'r']) (by kernel_rfl) owner_rev]; kernel_rfl
theorem entry_rev_iter : entryFor table "reversed.__iter__" = some Builtin.«dict_keyiterator.__iter__» :=
  entryFor_alias (id' := "dict_keyiterator.__iter__") (by kernel_rfl) (by first | rfl | decide +kernel | (unfold String.splitOn; simp +decide [String.splitOnAux])) (by decide +kernel) (by kernel_rfl)
theorem slot_rev_hint : Slot "reversed" "__length_hint__" "reversed.__length_hint__" :=
  .of (owner := "reversed") (n := "__length_hint__") (by rw [typeLookup_type, builtinLookup_eq_fast]; kernel_rfl) (by decide +kernel) (by decide +kernel) (by decide +kernel)
    (by first | exact .inl (by decide +kernel) | exact .inr (by decide +kernel)) (by rw [isSubtype_type]; kernel_rfl)
theorem entry_rev_hint : entryFor table "reversed.__length_hint__" = some Builtin.«reversed.__length_hint__» := entryFor_of_tree (by kernel_rfl)
theorem args_rev_hint (a : Value) : argsOk "reversed.__length_hint__" ⟨[a], []⟩ := by
  unfold argsOk; rw [signature?_of (id := "reversed.__length_hint__") (n := ['_', '_', 't', 'n', 'i', 'h', '_', 'h', 't', 'g', 'n', 'e', 'l', '_', '_']) (o := ['d', 'e', 's', 'r', 'e', 'v', 'e', 'r']) (by kernel_rfl) owner_rev]; kernel_rfl
theorem no_rev_len : typeLookup (.type "reversed") "__len__" = pure none := by rw [typeLookup_type, builtinLookup_eq_fast]; kernel_rfl
theorem no_tuple_rev : typeLookup (.type "tuple") "__reversed__" = pure none := by rw [typeLookup_type, builtinLookup_eq_fast]; kernel_rfl
theorem no_lri_len : typeLookup (.type "list_reverseiterator") "__len__" = pure none := by rw [typeLookup_type, builtinLookup_eq_fast]; kernel_rfl
theorem lri_hint : typeLookup (.type "list_reverseiterator") "__length_hint__" = pure (some (.builtin "list_reverseiterator.__length_hint__")) := by rw [typeLookup_type, builtinLookup_eq_fast]; kernel_rfl
theorem slot_rev_init : Slot "reversed" "__init__" "object.__init__" :=
  .of (owner := "object") (n := "__init__") (by rw [typeLookup_type, builtinLookup_eq_fast]; kernel_rfl) (by decide +kernel) (by decide +kernel) (by decide +kernel)
    (by first | exact .inl (by decide +kernel) | exact .inr (by decide +kernel)) (by rw [isSubtype_type]; kernel_rfl)
theorem called_rev : TypeCalled "reversed" "reversed.__new__" "object.__init__" :=
  ⟨by decide +kernel, F.create_reversed, ⟨_, _, F.mro_reversed⟩, F.made_reversed, F.plain_reversed_new, F.sub_reversed_self, slot_rev_init⟩

noncomputable def revT (t : Addr) (i : Int) : Obj := { cls := .type "reversed", data := .fields #[.ref t, rawInt i] }

section
variable {prog : Program} {w : World} {A : Around} {E : Value → Shared → Prop} {s : Shared}

theorem hint_lri {r : Addr} {P : Bool → Shared → Prop} (hT : s.TypeIs (.ref r) "list_reverseiterator") (q : P false s) : wpAny (model prog w) A (Builtin.List.listLengthHint (.ref r)) P E s := by
  unfold Builtin.List.listLengthHint
  refine wpAny_bind (wpAny_specialOf hT no_lri_len ?_)
  refine wpAny_ite_split (fun hab => absurd hab (by decide)) (fun _ => ?_)
  refine wpAny_ite_split (fun hab => absurd hab (by decide)) (fun _ => ?_)
  refine wpAny_bind (wpAny_specialOf hT lri_hint ?_)
  generalize hid : ("list_reverseiterator.__length_hint__" : String) = id0
  wp_delta
  rw [show splitId id0 = some ("list_reverseiterator", "__length_hint__") from by subst hid; decide +kernel]
  subst hid
  refine wpAny_bind (wpAny_isInstance (T := "list_reverseiterator") (b := true) hT (by rw [isSubtype_type]; kernel_rfl) ?_)
  refine wpAny_ite_split (fun hab => absurd hab (by decide)) (fun _ => ?_)
  refine wpAny_ite_split (fun _ => ?_) (fun hab => absurd (by decide +kernel) hab)
  refine wpAny_ite_split (fun hab => absurd hab (by decide)) (fun _ => ?_)
  exact wpAny_pure q

theorem meets_reversed_tuple (t : Addr) (its : Array Value) (m : Nat) (hz : its.size ≤ big) :
    Meets (Builtin.«reversed.__new__» ⟨[.type "reversed", .ref t], []⟩) (fun _ R s => s.heap.get? t = some (tupObj its m) ∧
      R (.ok (.ret (.ref s.heap.objs.size))) { s with heap := s.heap.push (revT t ((its.size : Int) - 1)), toks := s.toks + 1 + 1 }) :=
  .of_wp fun prog w A R s ⟨e, h⟩ => by
    have hb : (its.size : Int) ≤ big := by exact_mod_cast hz
    have hb2 := big63
    have hT : s.TypeIs (.ref t) "tuple" := ⟨_, e, rfl⟩
    unfold Builtin.«reversed.__new__»
    refine wpAny_bind (wpAny_of_eq (newClass_reversed _) ?_)
    try dsimp only
    refine wpAny_bind (wpAny_of_eq (a := ()) (by first | rfl | kernel_rfl) ?_)
    refine wpAny_bind (wpAny_of_eq (a := ()) (by first | rfl | kernel_rfl) ?_)
    try dsimp only
    refine wpAny_bind (wpAny_specialOf hT no_tuple_rev ?_)
    try dsimp only
    refine wpAny_bind ?_
    wp_delta
    refine wpAny_bind (wpAny_isInstance (T := "tuple") (b := false) hT (by rw [isSubtype_type]; kernel_rfl) ?_)
    refine wpAny_ite_split (fun hab => absurd hab (by decide)) (fun _ => ?_)
    refine wpAny_bind (wpAny_specialOf hT F.slot_tuple_getitem.lookup ?_)
    dsimp only
    refine wpAny_ite_split (fun _ => wpAny_pure ?_) (fun hab => absurd (by decide) hab)
    refine wpAny_ite_split (fun hab => absurd hab (by decide)) (fun _ => ?_)
    refine wpAny_bind (PySem.P.len_tuple e (by (first | lia | omega)) ?_)
    refine wpAny_bind (wpAny_of_eq (a := some (its.size : Int)) (by first | rfl | kernel_rfl) ?_)
    try dsimp only
    refine wpAny_bind ?_
    unfold Builtin.SmallTypes.newRecord
    refine wpAny_newObj_type ?_
    exact wpAny_pure ⟨_, rfl, h⟩

theorem call_reversed_tuple {t : Addr} {its : Array Value} {m : Nat} {P : Value → Shared → Prop} (e : s.heap.get? t = some (tupObj its m)) (hz : its.size ≤ big)
    (q : ∀ tk, P (.ref s.heap.objs.size) { s with heap := s.heap.push (revT t ((its.size : Int) - 1)), toks := tk }) : wpAny (model prog w) A (call (.type "reversed") [.ref t]) P E s :=
  callType_new called_rev (by decide) (F.typeCall_reversed_1 _) (F.newCall_reversed_1 _) (fun obj => F.args_object_init_2 obj _) F.entry_reversed_new (meets_reversed_tuple t its m hz)
    ⟨e, ⟨_, Heap.get?_push_size _ rfl, rfl⟩, q _⟩

theorem wpAny_pyNext_revT_item {it t : Addr} {i : Nat} {its : Array Value} {m : Nat} {x : Value} {P : Option Value → Shared → Prop} (hit : s.heap.get? it = some (revT t (i : Int))) (ht : s.heap.get? t = some (tupObj its m)) (hx : its[i]? = some x) (hz : its.size ≤ big)
    (hQ : ∀ h' tk, h'.get? it = some (revT t ((i : Int) - 1)) → Heap.SameBut it s.heap h' → P (some x) { s with heap := h', toks := tk }) : wpAny (model prog w) A (pyNext (.ref it)) P E s := by
  have hb : (its.size : Int) ≤ big := by exact_mod_cast hz
  have hb2 := big63
  have hT : s.TypeIs (.ref it) "reversed" := ⟨_, hit, rfl⟩
  have hTt : s.TypeIs (.ref t) "tuple" := ⟨_, ht, rfl⟩
  have hlt : i < its.size := (Array.getElem?_eq_some_iff.mp hx).1
  unfold pyNext
  refine wpAny_bind (wpAny_attempt (wpAny_callSpecial?_slot (name := Str.ofString "__next__") hT slot_rev_next
    (wpAny_call_entry slot_rev_next hT entry_rev_next ?_ (args_rev_next _))))
  unfold Builtin.«reversed.__next__»
  refine wpAny_bind (wpAny_of_eq (a := (Value.ref it, [])) rfl ?_)
  try dsimp only
  refine wpAny_bind (wpAny_field hit rfl (x := .ref t) rfl ?_)
  refine wpAny_bind (wpAny_field hit rfl (x := rawInt (i : Int)) rfl ?_)
  show wpAny _ _ (if (i : Int) < 0 then _ else _) _ _ s
  rw [if_neg (by (first | lia | omega))]
  refine wpAny_bind (wpAny_specialOf hTt F.slot_tuple_getitem.lookup ?_)
  refine wpAny_ite_split (fun hab => absurd hab (by decide)) (fun _ => ?_)
  refine wpAny_bind (wpAny_mkInt ?_)
  refine wpAny_bind (wpAny_attempt (PySem.P.getItem_tuple (k := i) (y := x) ht (by (first | lia | omega)) (by (first | lia | omega)) (by
    have h1 : ¬ ((i : Int) < 0) := by (first | lia | omega)
    have h2 : (0 : Int) ≤ i := by (first | lia | omega)
    have h3 : (i : Int) < its.size := by (first | lia | omega)
    unfold seqIndex?; simp [h1, h2, h3]) hx ?_))
  try dsimp only
  refine wpAny_bind (wpAny_field hit rfl (x := rawInt (i : Int)) rfl ?_)
  try dsimp only
  refine wpAny_bind (wpAny_setField hit rfl (by simp) ?_)
  refine wpAny_pure ⟨x, rfl, wpAny_pure (hQ _ _ ?_ (Heap.SameBut.update ..))⟩
  exact Heap.get?_update_self _ hit rfl

theorem wpAny_pyNext_revT_end {it t : Addr} {P : Option Value → Shared → Prop} (hh : A.handled = none) (hit : s.heap.get? it = some (revT t (-1)))
    (hQ : ∀ h' tk, Heap.ExtBut it s.heap h' → P none { s with heap := h', toks := tk }) : wpAny (model prog w) A (pyNext (.ref it)) P E s := by
  have hT : s.TypeIs (.ref it) "reversed" := ⟨_, hit, rfl⟩
  unfold pyNext
  refine wpAny_bind (wpAny_attempt (wpAny_callSpecial?_slot (name := Str.ofString "__next__") hT slot_rev_next
    (wpAny_call_entry slot_rev_next hT entry_rev_next ?_ (args_rev_next _))))
  unfold Builtin.«reversed.__next__»
  refine wpAny_bind (wpAny_of_eq (a := (Value.ref it, [])) rfl ?_)
  try dsimp only
  refine wpAny_bind (wpAny_field hit rfl (x := .ref t) rfl ?_)
  refine wpAny_bind (wpAny_field hit rfl (x := rawInt (-1)) rfl ?_)
  show wpAny _ _ (if (-1 : Int) < 0 then _ else _) _ _ s
  rw [if_pos (by decide)]
  refine wpAny_bind (wpAny_rule ?_)
  refine wpAny_bind ?_
  wp_delta
  refine wpAny_bind (wpAny_setField hit rfl (by simp) ?_)
  have h1 : (s.heap.update it (Obj.mapFields fun x => x.setIfInBounds 1 (rawInt (-1)))).get? it = some (revT t (-1)) := Heap.get?_update_self _ hit rfl
  refine wpAny_setField (s := { s with heap := s.heap.update it (Obj.mapFields fun x => x.setIfInBounds 1 (rawInt (-1))) }) h1 rfl (by simp) ?_
  refine wpAny_bind ?_
  unfold Builtin.SmallTypes.stopIteration
  refine wpAny_bind ?_
  simp only [newExc, newTuple]
  refine wpAny_bind (wpAny_newObj_type ?_ (by size_fits))
  refine wpAny_bind (m := firstArgMember _ _) (wpAny_of_eq (a := Value.none) (by first | rfl | (simp only [firstArgMember]; rfl)) ?_)
  refine wpAny_newObj_type ?_ (by size_fits)
  simp only [raiseNew]
  refine wpAny_bind (wpAny_handled ?_)
  first | rw [show A.in1.handled = none from hh] | rw [hh]
  refine wpAny_bind (wpAny_pure (wpAny_throw ?_))
  refine wpAny_bind (wpAny_isInstance (T := "StopIteration") (b := true) ⟨_, Heap.get?_push_size _ rfl, rfl⟩ isSubtype_stop ?_)
  refine wpAny_pure (hQ _ _ ?_)
  exact (((Heap.SameBut.update ..).trans (Heap.SameBut.update ..)).extBut.push _).push _

theorem wpAny_pyIter_revT {it t : Addr} {i : Int} {P : Value → Shared → Prop} (hit : s.heap.get? it = some (revT t i)) (q : P (.ref it) s) : wpAny (model prog w) A (pyIter (.ref it)) P E s := by
  have hT : s.TypeIs (.ref it) "reversed" := ⟨_, hit, rfl⟩
  refine wpAny_pyIter_slot hT slot_rev_iter (wpAny_call_entry slot_rev_iter hT entry_rev_iter ?_ (args_rev_iter _))
  show wpAny _ _ (ret (.ref it)) _ _ s
  exact wpAny_pure ⟨_, rfl, "reversed", _, hT, slot_rev_next.lookup, q⟩
end
theorem walks_revT {prog : Program} {w : World} {A : Around} (hh : A.handled = none) (I t : Addr) (hne : t ≠ I) (its : Array Value) (m : Nat) (hz : its.size ≤ big) :
    Walks prog w A I [I, t] [I] its.size (fun i v => its[its.size - 1 - i]? = some v) (fun i h => i ≤ its.size ∧ h.get? I = some (revT t ((its.size : Int) - 1 - (i : Int))) ∧ h.get? t = some (tupObj its m)) where
  sub := fun b hb => by simp at hb; simp [hb]
  frame := fun _ _ _ x hk => ⟨x.1, hk I (by simp) _ x.2.1, hk t (by simp) _ x.2.2⟩
  item := fun i s Q E hi x hQ => by
    have e : (its.size : Int) - 1 - (i : Int) = ((its.size - 1 - i : Nat) : Int) := by (first | lia | omega)
    have hit := x.2.1
    rw [e] at hit
    have hx : its[its.size - 1 - i]? = some (its[its.size - 1 - i]'(by (first | lia | omega))) := Array.getElem?_eq_getElem (by (first | lia | omega))
    refine wpAny_pyNext_revT_item hit x.2.2 hx hz fun h' tk hit' hs' => ?_
    have e2 : ((its.size - 1 - i : Nat) : Int) - 1 = (its.size : Int) - 1 - ((i + 1 : Nat) : Int) := by (first | lia | omega)
    rw [e2] at hit'
    exact hQ _ h' tk hx ⟨hi, hit', (hs'.2 t hne).trans x.2.2⟩ fun b o hb eo => hs'.extBut b o (fun h => hb (by simp [h])) eo
  done := fun s Q E x hQ => by
    have e : (its.size : Int) - 1 - (its.size : Int) = -1 := by (first | lia | omega)
    have hit := x.2.1
    rw [e] at hit
    exact wpAny_pyNext_revT_end hh hit fun h' tk he' => hQ h' tk fun b o hb eo => he' b o (fun h => hb (by simp [h])) eo
  self := fun _ _ _ _ x hQ => wpAny_pyIter_revT x.2.1 hQ
end
section
open PySem PySem.W PyProof.Rows PySem.SeqAt

noncomputable def ShP (acc : Array Value) (P : Nat → Value → Prop) (j : Nat) (v : Value) : Prop := if j < acc.size then acc[j]? = some v else P (j - acc.size) v

theorem shiftW {prog : Program} {w : World} {A : Around} {I : Addr} {fp wr : List Addr} {n : Nat} {P : Nat → Value → Prop} {S : Nat → Heap → Prop} (W : Walks prog w A I fp wr n P S) (acc : Array Value) :
    Walks prog w A I fp wr (acc.size + n) (ShP acc P) (fun j h => acc.size ≤ j ∧ S (j - acc.size) h) where
  sub := W.sub
  frame := fun i h h' st hk => ⟨st.1, W.frame _ h h' st.2 hk⟩
  item := fun i s Q E hi st hQ => W.item (i - acc.size) s Q E (by (first | lia | omega)) st.2 fun v h' tk hp st' hk => hQ v h' tk (by unfold ShP; rw [if_neg (by (first | lia | omega))]; exact hp)
    ⟨by (first | lia | omega), by rw [show i + 1 - acc.size = i - acc.size + 1 by (first | lia | omega)]; exact st'⟩ hk
  done := fun s Q E st hQ => W.done s Q E (by have := st.2; rwa [Nat.add_sub_cancel_left] at this) hQ
  self := fun i s Q E st hQ => W.self _ s Q E st.2 hQ

section
variable {prog : Program} {w : World} {A : Around} {E : Value → Shared → Prop} {s : Shared}

theorem hint_rev {I t : Addr} {i : Int} {its : Array Value} {m : Nat} {P : Bool → Shared → Prop} (hI : s.heap.get? I = some (revT t i)) (ht : s.heap.get? t = some (tupObj its m)) (h0 : -1 ≤ i) (h1 : i + 1 ≤ its.size) (hz : its.size ≤ big)
    (q : ∀ b tk, P b { s with toks := tk }) : wpAny (model prog w) A (Builtin.List.listLengthHint (.ref I)) P E s := by
  have hb : (its.size : Int) ≤ big := by exact_mod_cast hz
  have hb2 := big63
  have hT : s.TypeIs (.ref I) "reversed" := ⟨_, hI, rfl⟩
  unfold Builtin.List.listLengthHint
  refine wpAny_bind (wpAny_specialOf hT no_rev_len ?_)
  refine wpAny_ite_split (fun hab => absurd hab (by decide)) (fun _ => ?_)
  refine wpAny_ite_split (fun hab => absurd hab (by decide)) (fun _ => ?_)
  refine wpAny_bind (wpAny_specialOf hT slot_rev_hint.lookup ?_)
  generalize hid : ("reversed.__length_hint__" : String) = id0
  wp_delta
  rw [show splitId id0 = some ("reversed", "__length_hint__") from by subst hid; decide +kernel]
  subst hid
  refine wpAny_bind (wpAny_isInstance (T := "reversed") (b := true) hT (by rw [isSubtype_type]; kernel_rfl) ?_)
  refine wpAny_ite_split (fun hab => absurd hab (by decide)) (fun _ => ?_)
  refine wpAny_ite_split (fun hab => absurd hab (by decide +kernel)) (fun _ => ?_)
  refine wpAny_bind (wpAny_rule ?_)
  refine wpAny_bind (wpAny_of_eq (slot_rev_hint.bind _) ?_)
  try dsimp only
  refine wpAny_bind (wpAny_attempt (wpAny_call_entry slot_rev_hint hT entry_rev_hint ?_ (args_rev_hint _)))
  unfold Builtin.«reversed.__length_hint__»
  refine wpAny_bind (wpAny_of_eq (a := Value.ref I) (by first | rfl | kernel_rfl) ?_)
  refine wpAny_bind (wpAny_field hI rfl (x := .ref t) rfl ?_)
  refine wpAny_ite_split (fun hab => absurd hab Bool.false_ne_true) (fun _ => ?_)
  refine wpAny_bind (PySem.P.len_tuple ht (by (first | lia | omega)) ?_)
  refine wpAny_bind (wpAny_of_eq (a := some (its.size : Int)) (by first | rfl | kernel_rfl) ?_)
  try dsimp only
  refine wpAny_bind (wpAny_field (s := { s with toks := s.toks + 1 + 1 }) hI rfl (x := rawInt i) rfl ?_)
  show wpAny _ _ (if (its.size : Int) < i + 1 then _ else _) _ _ _
  rw [if_neg (by (first | lia | omega))]
  unfold retInt
  refine wpAny_bind (wpAny_mkInt ?_)
  refine wpAny_pure ⟨_, rfl, ?_⟩
  try dsimp only
  refine wpAny_bind (wpAny_of_eq (a := some (i + 1)) (by first | rfl | kernel_rfl) ?_)
  try dsimp only
  have f1 : Builtin.List.listFitsIndex (i + 1) = true := fitsIndex_of (by (first | lia | omega)) (by (first | lia | omega))
  refine wpAny_ite_split (fun hab => absurd hab (by rw [f1]; decide)) (fun _ => ?_)
  refine wpAny_ite_split (fun hab => absurd hab (by (first | lia | omega))) (fun _ => ?_)
  refine wpAny_ite_split (fun hab => absurd hab ?_) (fun _ => wpAny_pure (q _ _))
  have hbl := big_le
  have f2 : Builtin.List.listTooLong (i + 1).toNat = false := by
    unfold Builtin.List.listTooLong; rw [decide_eq_false_iff_not]; (first | lia | omega)
  rw [f2]; decide

theorem ext_core {T : String} {I d S : Addr} {n : Nat} {P : Nat → Value → Prop} {St : Nat → Heap → Prop} (W : Walks prog w A.in1 I [I, d] [I] n P St) (hT : s.TypeIs (.ref I) T) (nl : (Value.type T == Value.type "list") = false)
    (nt : (Value.type T == Value.type "tuple") = false) (hint : ∀ (Q : Bool → Shared → Prop), (∀ b tk, Q b { s with toks := tk }) → wpAny (model prog w) A.in1 (Builtin.List.listLengthHint (.ref I)) Q E s)
    (st : St 0 s.heap) {acc : Array Value} {c : Nat} (hS : s.heap.get? S = some (lstObj acc c)) (hSI : S ≠ I) (hSd : S ≠ d) (hz : acc.size + n ≤ big) (res : Value) {R : Result → Shared → Prop}
    (hR : ∀ h' tk acc' c', (∀ b o, b ≠ S → b ≠ I → s.heap.get? b = some o → h'.get? b = some o) → h'.get? S = some (lstObj acc' c') → ItemsOf (ShP acc P) acc' (acc.size + n) → R (.ok (.ret res)) { s with heap := h', toks := tk }) :
    wpAny (model prog w) A.in1 (Builtin.List.listExtendWith (.ref S) (.ref I) res)
      (fun fin s' => match fin with | .done f => R (.ok f) s' | .again c' => c'.quiet = true ∧ codeAny (model prog w) A c' R s') E s := by
  have hbl := big_le
  have hSf : S ∉ [I, d] := by simp only [List.mem_cons, List.not_mem_nil, or_false, not_or]; exact ⟨hSI, hSd⟩
  have key : ∀ (h : Heap) (c₁ tk : Nat), (∀ b o, b ≠ S → s.heap.get? b = some o → h.get? b = some o) → h.get? S = some (lstObj acc c₁) →
      codeAny (model prog w) A (.builtin "list.extend.loop" ⟨[.ref S, .ref I, res], []⟩) R { s with heap := h, toks := tk } := by
    intro h c₁ tk hk hS₁
    have st' : St 0 h := W.frame 0 _ _ st fun b hb o e => hk b o (fun q => hSf (q ▸ hb)) e
    refine codeAny_extend_loopS (shiftW W acc).toS (by (first | lia | omega)) S hSf res n acc.size _ acc c₁ (by (first | lia | omega)) (Nat.le_add_right _ _) ⟨Nat.le_refl _, by rw [Nat.sub_self]; exact st'⟩ hS₁ ⟨rfl, fun j v e => ?_⟩ fun s' acc' c' hm hS' hacc => ?_
    · unfold ShP; rw [if_pos (Array.getElem?_eq_some_iff.mp e).1]; exact e
    · rw [Moved.eq_with hm]
      refine hR s'.heap s'.toks acc' c' (fun b o hb hbI e => hm.heap b o (fun hmem => ?_) (hk b o hb e)) hS' hacc
      rcases List.mem_cons.mp hmem with e' | hmem
      · exact hb e'
      · exact hbI (List.mem_singleton.mp hmem)
  unfold Builtin.List.listExtendWith
  refine wpAny_bind (wpAny_typeOf (T := T) hT ?_)
  have h1 : Builtin.List.listSameRef (.ref S) (.ref I) = false := by simp [Builtin.List.listSameRef, hSI]
  simp only [h1, nl, nt, Bool.or_false, Bool.false_eq_true, if_false]
  refine wpAny_bind (W.self 0 _ _ _ st ?_)
  refine wpAny_bind (wpAny_holding (hint _ fun b tk => ?_))
  refine wpAny_ite_split (fun _ => ?_) (fun _ => wpAny_pure ⟨plainId_quiet PySem.F.plain_extend_loop _, key _ c tk (fun b o _ e => e) hS⟩)
  refine wpAny_bind (wpAny_rule ?_)
  refine wpAny_bind ?_
  show wpAny _ _ (updateSeq S (·.push .none) >>= fun _ => updateSeq S (·.pop)) _ _ _
  refine wpAny_bind (wpAny_updateSeq (s := { s with toks := tk }) hS rfl ?_ (by (first | lia | omega)) (by rw [Array.size_push]; (first | lia | omega)))
  have hS₂ := Heap.get?_update_self (Obj.mapSeq (·.push Value.none)) hS rfl
  refine wpAny_updateSeq (s := { s with heap := s.heap.update S (Obj.mapSeq (·.push Value.none)), toks := tk }) hS₂ rfl ?_ (by rw [Array.size_push]; unfold big at hz; rw [sizeLine_eq]; (first | lia | omega)) (by rw [Array.size_pop, Array.size_push]; (first | lia | omega))
  have hS₃ := Heap.get?_update_self (Obj.mapSeq (·.pop)) hS₂ rfl
  obtain ⟨c2, hS₄⟩ : ∃ c2, ((s.heap.update S (Obj.mapSeq (·.push Value.none))).update S (Obj.mapSeq (·.pop))).get? S = some (lstObj acc c2) := by
    rw [hS₃]
    obtain ⟨k, e1⟩ : ∃ k, Obj.mapSeq (·.push Value.none) (lstObj acc c) = lstObj (acc.push .none) k := ⟨_, rfl⟩
    rw [e1]
    obtain ⟨k', e2⟩ : ∃ k', Obj.mapSeq (·.pop) (lstObj (acc.push .none) k) = lstObj ((acc.push .none).pop) k' := ⟨_, rfl⟩
    rw [e2, Array.pop_push]
    exact ⟨_, rfl⟩
  refine wpAny_pure ⟨plainId_quiet PySem.F.plain_extend_loop _, key _ c2 tk (fun b o hb e => ?_) hS₄⟩
  exact (Heap.get?_update_other _ _ (Ne.symm hb)).trans ((Heap.get?_update_other _ _ (Ne.symm hb)).trans e)

theorem call_extend_iter {T : String} {I d S : Addr} {n : Nat} {P : Nat → Value → Prop} {St : Nat → Heap → Prop} (W : Walks prog w A.in1 I [I, d] [I] n P St) (hT : s.TypeIs (.ref I) T) (nl : (Value.type T == Value.type "list") = false)
    (nt : (Value.type T == Value.type "tuple") = false) (hint : ∀ (E : Value → Shared → Prop) (Q : Bool → Shared → Prop), (∀ b tk, Q b { s with toks := tk }) → wpAny (model prog w) A.in1 (Builtin.List.listLengthHint (.ref I)) Q E s)
    (st : St 0 s.heap) {acc : Array Value} {c : Nat} (hS : s.heap.get? S = some (lstObj acc c)) (hSI : S ≠ I) (hSd : S ≠ d) (hz : acc.size + n ≤ big) {Q : Value → Shared → Prop}
    (hQ : ∀ h' tk acc' c', (∀ b o, b ≠ S → b ≠ I → s.heap.get? b = some o → h'.get? b = some o) → h'.get? S = some (lstObj acc' c') → ItemsOf (ShP acc P) acc' (acc.size + n) → Q .none { s with heap := h', toks := tk }) :
    wpAny (model prog w) A (call (.builtin "list.extend") [.ref S, .ref I]) Q E s := by
  have g : MeetsIn prog w (Builtin.«list.extend» ⟨[.ref S, .ref I], []⟩) (fun A' R s' => A' = A ∧ s' = s ∧
      ∀ h' tk acc' c', (∀ b o, b ≠ S → b ≠ I → s.heap.get? b = some o → h'.get? b = some o) → h'.get? S = some (lstObj acc' c') → ItemsOf (ShP acc P) acc' (acc.size + n) → R (.ok (.ret .none)) { s with heap := h', toks := tk }) := by
    rintro A' R s' ⟨rfl, rfl, hR⟩
    show wpAny _ _ (Builtin.List.listExtendWith (.ref S) (.ref I) .none) _ _ _
    exact ext_core W hT nl nt (hint _) st hS hSI hSd hz .none hR
  exact call_meetsIn F.slot_list_extend ⟨_, hS, rfl⟩ F.entry_list_extend (F.args_list_extend_2 _ _) g ⟨rfl, rfl, hQ⟩

theorem call_list_iter {T : String} {I d : Addr} {n : Nat} {P : Nat → Value → Prop} {St : Nat → Heap → Prop} (W : Walks prog w A.in1.in1 I [I, d] [I] n P St) (hT : s.TypeIs (.ref I) T) (nl : (Value.type T == Value.type "list") = false)
    (nt : (Value.type T == Value.type "tuple") = false) (hint : ∀ (E : Value → Shared → Prop) (h : Heap) (Q : Bool → Shared → Prop), (∀ b o, s.heap.get? b = some o → h.get? b = some o) → (∀ b tk, Q b { s with heap := h, toks := tk }) → wpAny (model prog w) A.in1.in1 (Builtin.List.listLengthHint (.ref I)) Q E { s with heap := h })
    (st : St 0 s.heap) (hd : ∃ o, s.heap.get? d = some o) (hz : n ≤ big) {Q : Value → Shared → Prop}
    (hQ : ∀ h' tk acc' c', (∀ b o, b ≠ I → s.heap.get? b = some o → h'.get? b = some o) → h'.get? s.heap.objs.size = some (lstObj acc' c') → ItemsOf P acc' n → Q (.ref s.heap.objs.size) { s with heap := h', toks := tk }) :
    wpAny (model prog w) A (call (.type "list") [.ref I]) Q E s := by
  have hbl := big_le
  refine callType_codes (Q₁ := fun obj s₁ => obj = .ref s.heap.objs.size ∧ s₁ = { s with heap := s.heap.push (lstObj #[] 0) }) F.called_list (F.typeCall_list_1 _) F.entry_list_init
    (code_list_new _ ⟨rfl, rfl⟩) fun obj s₁ h₁ => ?_
  obtain ⟨rfl, rfl⟩ := h₁
  have hS : (s.heap.push (lstObj #[] 0)).get? s.heap.objs.size = some (lstObj #[] 0) := Heap.get?_push_size _ rfl
  obtain ⟨oI, hI, hIc⟩ := hT
  obtain ⟨od, hdg⟩ := hd
  have hSI : s.heap.objs.size ≠ I := Nat.ne_of_gt (Heap.lt_size hI)
  have hSd : s.heap.objs.size ≠ d := Nat.ne_of_gt (Heap.lt_size hdg)
  refine ⟨⟨_, hS, rfl⟩, F.args_list_init_2 _ _, ?_⟩
  show wpAny _ _ (do let old ← Builtin.List.listItems (.ref s.heap.objs.size); Builtin.List.listUpdate (.ref s.heap.objs.size) (fun _ => #[]); letGo old.toList.reverse; Builtin.List.listExtendWith (.ref s.heap.objs.size) (.ref I) .none) _ _ _
  refine wpAny_bind ?_
  unfold Builtin.List.listItems
  refine wpAny_bind (wpAny_seqItems hS rfl (wpAny_pure ?_))
  show wpAny _ _ (updateSeq s.heap.objs.size (fun _ => #[]) >>= fun _ => letGo (#[] : Array Value).toList.reverse >>= fun _ => Builtin.List.listExtendWith (.ref s.heap.objs.size) (.ref I) .none) _ _ _
  refine wpAny_bind (wpAny_updateSeq hS rfl ?_)
  obtain ⟨c2, hS₂⟩ : ∃ c2, ((s.heap.push (lstObj #[] 0)).update s.heap.objs.size (Obj.mapSeq (fun _ => (#[] : Array Value)))).get? s.heap.objs.size = some (lstObj #[] c2) :=
    ⟨_, Heap.get?_update_self (Obj.mapSeq (fun _ => (#[] : Array Value))) hS rfl⟩
  have oth : ∀ b o, s.heap.get? b = some o → ((s.heap.push (lstObj #[] 0)).update s.heap.objs.size (Obj.mapSeq (fun _ => (#[] : Array Value)))).get? b = some o :=
    fun b o e => (Heap.get?_update_other _ _ (Nat.ne_of_gt (Heap.lt_size e))).trans (Heap.get?_push_of_some _ e)
  refine wpAny_bind (wpAny_letGo ?_)
  refine ext_core (A := A.in1) (s := { s with heap := (s.heap.push (lstObj #[] 0)).update s.heap.objs.size (Obj.mapSeq (fun _ => (#[] : Array Value))) }) W ⟨oI, oth _ _ hI, hIc⟩ nl nt (fun Q q => hint _ _ Q oth q)
    (W.frame 0 _ _ st fun b _ o e => oth _ _ e) hS₂ hSI hSd (by simpa using hz) .none fun h' tk acc' c' hk hS' hacc => ?_
  refine ⟨rfl, hQ h' tk acc' c' (fun b o hb e => hk b o (Nat.ne_of_lt (Heap.lt_size e)) hb (oth _ _ e)) hS' ⟨by simpa using hacc.1, fun j v e => ?_⟩⟩
  have := hacc.2 j v e
  unfold ShP at this
  simpa using this
end
end
section
open PySem PySem.W PyProof.Rows PySem.SeqAt

section
variable {prog : Program} {w : World} {A : Around} {g : Glb} {ρ : Rho} {σ : St} {s : Shared} {Q : PV → St → Prop} {n : Nat}

theorem all2_rev {h : Heap} {xs : List PV} {its out : Array Value} (hv : All2 (VR h ρ) xs its.toList) (hs : out.size = its.size) (hi : ∀ j v, out[j]? = some v → its[its.size - 1 - j]? = some v) : All2 (VR h ρ) xs.reverse out.toList := by
  have hl : xs.length = its.size := by have := hv.length; simpa using this
  refine All2.of_get ?_ fun i x v ex ev => ?_
  · have e2 : out.toList.length = out.size := Array.length_toList
    rw [List.length_reverse, e2, hs, hl]
  · have hlt : i < xs.length := by have := (List.getElem?_eq_some_iff.mp ex).1; simpa using this
    rw [List.getElem?_reverse hlt, hl] at ex
    have := hi i v (by simpa using ev)
    obtain ⟨u, eu, r⟩ := hv.get ex
    have e3 : its.toList[its.size - 1 - i]? = its[its.size - 1 - i]? := by simp
    rw [e3, this] at eu
    cases eu; exact r

theorem reversedL_sound {k : Nat} {xs : List PV} {o : Value} (R : Rel g ρ σ s.heap) (V : VR s.heap ρ (.obj k) o) (e : σ[k]? = some (.list xs)) {P : Value → Shared → Prop} {E : Value → Shared → Prop}
    (q : ∀ l its m, o = .ref l → ρ[k]? = some (l, l) → s.heap.get? l = some (lstObj its m) → All2 (VR s.heap ρ) xs its.toList → xs.length ≤ big → P (.ref s.heap.objs.size) { s with heap := s.heap.push (revObj l ((its.size : Int) - 1)) }) :
    wpAny (model prog w) A (call (.type "reversed") [o]) P E s := by
  obtain ⟨l, its, m, rfl, er, hg, hv, zb⟩ := V.list_inv R e
  exact call_reversed_list (isList_of hg) (q l its m rfl er hg hv zb)

theorem listRev_sound (H : Room n A) {k : Nat} {xs : List PV} {o : Value} (R : Rel g ρ σ s.heap) (V : VR s.heap ρ (.obj k) o) (e : σ[k]? = some (.list xs)) (q : Q (.obj σ.length) (σ ++ [.list xs.reverse])) :
    wpAny (model prog w) A (call (.type "reversed") [o]) (fun it s₁ => wpAny (model prog w) A (call (.type "list") [it]) (EP g ρ s Q) NoE s₁) NoE s := by
  refine reversedL_sound R V e fun l its m _ er hg hv zb => ?_
  have hl : xs.length = its.size := by have := hv.length; simpa using this
  have hIl : l ≠ s.heap.objs.size := Nat.ne_of_lt (Heap.lt_size hg)
  have W := Walks.listRev (prog := prog) (w := w) (A := A.in1.in1) H.hd s.heap.objs.size l hIl its
  have hIr : (s.heap.push (revObj l ((its.size : Int) - 1))).IsRevIter s.heap.objs.size l ((its.size : Int) - 1) := ⟨_, Heap.get?_push_size _ rfl, rfl, rfl⟩
  refine call_list_iter (s := { s with heap := s.heap.push (revObj l ((its.size : Int) - 1)) }) (T := "list_reverseiterator") W ⟨_, Heap.get?_push_size _ rfl, rfl⟩ (by decide) (by decide)
    (fun E h Q' hk q' => hint_lri ⟨_, hk _ _ (Heap.get?_push_size _ rfl), rfl⟩ (q' _ _)) ⟨Nat.zero_le _, ?_, isList_of (get_push_lt hg)⟩ ⟨_, get_push_lt hg⟩ (by (first | lia | omega)) fun h' tk acc' c' hk hS' hI => ?_
  · have : ((its.size : Int) - 1 - ((0 : Nat) : Int)) = (its.size : Int) - 1 := by (first | lia | omega)
    rw [this]; exact hIr
  · refine EP.fresh R (fun b ob eb => hk b ob (Nat.ne_of_lt (Heap.lt_size eb)) (get_push_lt eb)) ?_ hS' (all2_rev hv hI.1 hI.2) (by rw [List.length_reverse]; exact zb) q tk
    rw [Heap.size_push]; exact Nat.le_succ _

theorem extendRev_sound (H : Room n A) {k : Nat} {xs ys : List PV} {o t : Value} (R : Rel g ρ σ s.heap) (V : VR s.heap ρ (.obj k) o) (e : σ[k]? = some (.list xs)) (Vt : VR s.heap ρ (.tup ys) t) (hz : xs.length + ys.length ≤ big)
    (q : Q .none (σ.set k (.list (xs ++ ys.reverse)))) :
    wpAny (model prog w) A (call (.type "reversed") [t]) (fun it s₁ => wpAny (model prog w) A (call (.builtin "list.extend") [o, it]) (EP g ρ s Q) NoE s₁) NoE s := by
  obtain ⟨l, its, m, rfl, er, hg, hv, zb⟩ := V.list_inv R e
  obtain ⟨lt, jts, mt, rfl, hgt, hvt, zt⟩ := Vt.tup_inv
  have hl : xs.length = its.size := by have := hv.length; simpa using this
  have hlt : ys.length = jts.size := by have := hvt.length; simpa using this
  refine call_reversed_tuple hgt (by (first | lia | omega)) fun tk => ?_
  have hI : (s.heap.push (revT lt ((jts.size : Int) - 1))).get? s.heap.objs.size = some (revT lt ((jts.size : Int) - 1)) := Heap.get?_push_size _ rfl
  have hgt' := get_push_lt (o := revT lt ((jts.size : Int) - 1)) hgt
  have hg' := get_push_lt (o := revT lt ((jts.size : Int) - 1)) hg
  have hIt : lt ≠ s.heap.objs.size := Nat.ne_of_lt (Heap.lt_size hgt)
  have hIl : l ≠ s.heap.objs.size := Nat.ne_of_lt (Heap.lt_size hg)
  have hllt : l ≠ lt := fun q => by rw [q, hgt] at hg; exact NotT.list.1 _ _ (Option.some.inj hg).symm
  have W := walks_revT (prog := prog) (w := w) (A := A.in1) H.hd s.heap.objs.size lt hIt jts mt (by (first | lia | omega))
  refine call_extend_iter (s := { s with heap := s.heap.push (revT lt ((jts.size : Int) - 1)), toks := tk }) (T := "reversed") (acc := its) (c := m) (n := jts.size) W ⟨_, hI, rfl⟩ (by decide) (by decide)
    (fun E Q' q' => hint_rev hI hgt' (by (first | lia | omega)) (by (first | lia | omega)) (by (first | lia | omega)) q') ⟨Nat.zero_le _, by rw [show ((jts.size : Int) - 1 - ((0 : Nat) : Int)) = (jts.size : Int) - 1 by (first | lia | omega)]; exact hI, hgt'⟩ hg' hIl hllt (by (first | lia | omega)) fun h' tk' acc' c' hk hS' hI' => ?_
  have keep : ∀ b ob, b ≠ l → s.heap.get? b = some ob → h'.get? b = some ob := fun b ob hb eb => hk b ob hb (Nat.ne_of_lt (Heap.lt_size eb)) (get_push_lt eb)
  have hX : Xok [l] ρ s.heap := fun a ha => by rw [List.mem_singleton.mp ha]; exact ⟨_, hg, .list⟩
  have S0 : Step [l] ρ s.heap ρ h' := ⟨⟨[], by simp, by simp⟩, fun a ob ea => by
    by_cases qa : a = l
    · exact ⟨_, qa ▸ hS'⟩
    · exact ⟨_, keep a ob qa ea⟩, fun a ob ea _ hx => keep a ob (fun qa => hx (by simp [qa])) ea⟩
  have S : Step [] ρ s.heap ρ h' := ⟨S0.ext, S0.live, fun a ob ea hn _ => keep a ob (fun qa => hn (qa ▸ mem_own er)) ea⟩
  have V1 : All2 (VR h' ρ) (xs ++ ys.reverse) acc'.toList := by
    refine All2.of_get ?_ fun i x v ex ev => ?_
    · have e2 : acc'.toList.length = acc'.size := Array.length_toList
      rw [List.length_append, List.length_reverse, e2, hI'.1, hl, hlt]
    · have hp := hI'.2 i v (by simpa using ev)
      unfold ShP at hp
      by_cases hi : i < its.size
      · rw [if_pos hi] at hp
        rw [List.getElem?_append_left (by (first | lia | omega))] at ex
        obtain ⟨u, eu, r⟩ := hv.get ex
        have e3 : its.toList[i]? = its[i]? := by simp
        rw [e3, hp] at eu; cases eu
        exact r.step R hX S0
      · rw [if_neg hi] at hp
        rw [List.getElem?_append_right (by (first | lia | omega)), hl] at ex
        have hj : i - its.size < ys.length := by have := (List.getElem?_eq_some_iff.mp ex).1; simpa using this
        rw [List.getElem?_reverse hj, hlt] at ex
        obtain ⟨u, eu, r⟩ := hvt.get ex
        have e3 : jts.toList[jts.size - 1 - (i - its.size)]? = jts[jts.size - 1 - (i - its.size)]? := by simp
        rw [e3, hp] at eu; cases eu
        exact r.step R hX S0
  have hko : ∀ a its' n', s.heap.get? a = some (tupObj its' n') → h'.get? a = some (tupObj its' n') := R.tupKeep hX S0
  have hki : ∀ a C dx, s.heap.get? a = some (instObj C dx) → h'.get? a = some (instObj C dx) := R.instKeep hX S0
  refine ⟨.none, σ.set k (.list (xs ++ ys.reverse)), ρ, ⟨_, _, rfl⟩, S, ?_, .none, q⟩
  exact {
    keep := fun b ob eb => keep b ob (fun qb => by rw [qb, R.above _ (List.mem_of_getElem? er)] at eb; cases eb) (R.keep b ob eb)
    low := R.low
    mods := R.mods
    above := R.above
    nodup := R.nodup
    len := by rw [List.length_set]; exact R.len
    objs := fun j oj p ej ep => by
      by_cases hjk : j = k
      · subst hjk
        rw [er] at ep; cases ep
        rw [List.getElem?_set_self (List.getElem?_eq_some_iff.mp e).1] at ej
        cases ej
        exact ⟨rfl, by rw [List.length_append, List.length_reverse]; (first | lia | omega), _, _, hS', V1⟩
      · rw [List.getElem?_set_ne (Ne.symm hjk)] at ej
        have := (R.objs j oj p ej ep).keep (δ := []) hko hki fun ob eo => keep _ _ (R.own_ne ep er hjk) eo
        rwa [List.append_nil] at this
    fro := fun j zs p ej ep => by
      by_cases hjk : j = k
      · subst hjk
        rw [List.getElem?_set_self (List.getElem?_eq_some_iff.mp e).1] at ej
        cases ej
      · rw [List.getElem?_set_ne (Ne.symm hjk)] at ej
        obtain ⟨o, eo, _⟩ := R.owned (mem_own ep)
        rw [keep _ _ (R.own_ne ep er hjk) eo, ← R.fro j zs p ej ep, eo] }
end
end
section
open PySem PySem.W PyProof.Rows

structure EnvS (cc : CC) (env : Env) : Prop where
  kind : env.scope.kind = .function
  gl : env.globals = mainGlobals
  bl : env.builtins = builtinsNs
  nm : ∀ x, env.kindOf x = cc.names.lookup x
  vk : ∀ x i, cc.vars.lookup x = some i → env.kindOf x = some .local ∨ (env.kindOf x = some .cell ∧ ∃ c, env.cells.lookup x = some c)
  inj : ∀ x y i, cc.vars.lookup x = some i → cc.vars.lookup y = some i → x = y
  cinj : ∀ x y c, env.cells.lookup x = some c → env.cells.lookup y = some c → x = y
  cl : ∀ x c, env.cells.lookup x = some c → c ≠ env.locals
  cc : ∀ x, env.kindOf x = some .cell → ∃ c, env.cells.lookup x = some c

noncomputable def Xof (env : Env) : List Addr := env.locals :: (env.cells.filter fun p => env.cells.lookup p.1 == some p.2).map (·.2)
theorem lk_mem {α : Type} : ∀ {l : List (Str × α)} {x : Str} {c : α}, l.lookup x = some c → (x, c) ∈ l := PySem.mem_of_lookup
theorem mem_X {env : Env} {a : Addr} (h : a ∈ Xof env) : a = env.locals ∨ ∃ x, env.cells.lookup x = some a := by
  rcases List.mem_cons.mp h with h | h
  · exact .inl h
  · obtain ⟨p, hp, rfl⟩ := List.mem_map.mp h
    exact .inr ⟨p.1, beq_iff_eq.mp (List.mem_filter.mp hp).2⟩
theorem X_loc (env : Env) : env.locals ∈ Xof env := List.mem_cons_self
theorem X_cell {env : Env} {x : Str} {c : Addr} (h : env.cells.lookup x = some c) : c ∈ Xof env :=
  List.mem_cons_of_mem _ (List.mem_map.mpr ⟨(x, c), List.mem_filter.mpr ⟨lk_mem h, beq_iff_eq.mpr h⟩, rfl⟩)

structure LRel (g : Glb) (cc : CC) (env : Env) (ρ : Rho) (lm : LM) (h : Heap) : Prop where
  ns : ∃ m, h.Ns env.locals m ∧ ∀ x i v, cc.vars.lookup x = some i → lm i = some v → env.kindOf x = some .local → ∃ u, m x = some u ∧ VR h ρ v u
  cell : ∀ x c, env.cells.lookup x = some c → ∃ o, h.IsCell c o ∧ ∀ i v, cc.vars.lookup x = some i → lm i = some v → env.kindOf x = some .cell → ∃ u, o = some u ∧ VR h ρ v u
  own : ∀ a ∈ Xof env, a ∉ ρ.map (·.2) ∧ g.h₀.get? a = none

section
variable {g : Glb} {cc : CC} {env : Env} {ρ ρ' : Rho} {lm : LM} {σ : St} {h h' : Heap}

theorem LRel.live (L : LRel g cc env ρ lm h) {a : Addr} (ha : a ∈ Xof env) : ∃ o, h.get? a = some o ∧ NotT o := by
  rcases mem_X ha with rfl | ⟨x, hx⟩
  · obtain ⟨m, ⟨o, es, ep, ho, hd, _⟩, _⟩ := L.ns
    exact ⟨o, ho, NotT.dict hd⟩
  · obtain ⟨o, ⟨ob, ho, hd⟩, _⟩ := L.cell x a hx
    exact ⟨ob, ho, NotT.cell hd⟩
theorem LRel.xok (L : LRel g cc env ρ lm h) : Xok (Xof env) ρ h := fun _ ha => L.live ha

theorem LRel.step {X : List Addr} (R : Rel g ρ σ h) (L : LRel g cc env ρ lm h) (hX : Xok X ρ h) (hd : ∀ a ∈ Xof env, a ∉ X) (S : Step X ρ h ρ' h') : LRel g cc env ρ' lm h' := by
  have kp : ∀ a ∈ Xof env, ∀ o, h.get? a = some o → h'.get? a = some o := fun a ha o e => S.keep a o e (L.own a ha).1 (hd a ha)
  refine ⟨?_, ?_, ?_⟩
  · obtain ⟨m, hn, hm⟩ := L.ns
    refine ⟨m, hn.at' (kp _ (X_loc env)), fun x i v hx hv hk => ?_⟩
    obtain ⟨u, e, V⟩ := hm x i v hx hv hk
    exact ⟨u, e, V.step R hX S⟩
  · intro x c hx
    obtain ⟨o, ⟨ob, ho, hdt⟩, hm⟩ := L.cell x c hx
    refine ⟨o, ⟨ob, kp _ (X_cell hx) _ ho, hdt⟩, fun i v hi hv hk => ?_⟩
    obtain ⟨u, e, V⟩ := hm i v hi hv hk
    exact ⟨u, e, V.step R hX S⟩
  · intro a ha
    refine ⟨fun q => ?_, (L.own a ha).2⟩
    obtain ⟨δ, rfl, hδ⟩ := S.ext
    rw [List.map_append, List.mem_append] at q
    rcases q with q | q
    · exact (L.own a ha).1 q
    · obtain ⟨p, hp, rfl⟩ := List.mem_map.mp q
      obtain ⟨o, ho, _⟩ := L.live ha
      rw [hδ p hp] at ho; cases ho
theorem LRel.step0 (R : Rel g ρ σ h) (L : LRel g cc env ρ lm h) (S : Step [] ρ h ρ' h') : LRel g cc env ρ' lm h' := L.step R xok_nil (fun _ _ q => nomatch q) S
end

section
variable {prog : Program} {w : World} {A : Around} {E : Value → Shared → Prop} {s : Shared} {g : Glb} {cc : CC} {env : Env} {ρ : Rho} {lm : LM} {σ : St}

theorem load_sound (V : EnvS cc env) (L : LRel g cc env ρ lm s.heap) {x : Str} {i : Nat} {v : PV} (hx : cc.vars.lookup x = some i) (hv : lm i = some v) {Q : Value → Shared → Prop}
    (q : ∀ u, VR s.heap ρ v u → Q u s) : wpAny (model prog w) A (loadName env x) Q E s := by
  rcases V.vk x i hx with hk | ⟨hk, c, hc⟩
  · obtain ⟨m, hn, hm⟩ := L.ns
    obtain ⟨u, e, W⟩ := hm x i v hx hv hk
    exact wpAny_loadName_local V.kind hk hn e (q u W)
  · obtain ⟨o, hi, hm⟩ := L.cell x c hc
    obtain ⟨u, rfl, W⟩ := hm i v hx hv hk
    exact wpAny_loadName_cell V.kind hk hc hi (q u W)

theorem step_but {a : Addr} {h h' : Heap} (hs : Heap.SameBut a h h') (hl : ∃ o, h'.get? a = some o) : Step [a] ρ h ρ h' :=
  ⟨⟨[], by simp, by simp⟩, fun b ob eb => by
    by_cases q : b = a
    · exact q ▸ hl
    · exact ⟨ob, (hs.2 b q).trans eb⟩, fun b _ eb _ hx => (hs.2 b (by simpa using hx)).trans eb⟩

theorem store_rel {a : Addr} {h h' : Heap} (R : Rel g ρ σ h) (L : LRel g cc env ρ lm h) (ha : a ∈ Xof env) (hs : Heap.SameBut a h h') (hl : ∃ o, h'.get? a = some o) :
    Step [a] ρ h ρ h' ∧ Rel g ρ σ h' ∧ (∀ x u, VR h ρ x u → VR h' ρ x u) := by
  have S : Step [a] ρ h ρ h' := step_but hs hl
  have hX : Xok [a] ρ h := fun b hb => by rw [List.mem_singleton.mp hb]; exact L.live ha
  refine ⟨S, R.mono hX (fun b hb => by rw [List.mem_singleton.mp hb]; exact (L.own a ha).2) S fun b hb o e => ?_, fun x u V => V.step R hX S⟩
  exact (hs.2 b fun q => (L.own a ha).1 (q ▸ hb)).trans e

theorem store_sound (V : EnvS cc env) (R : Rel g ρ σ s.heap) (L : LRel g cc env ρ lm s.heap) {x : Str} {i : Nat} {v : PV} {u : Value} (hx : cc.vars.lookup x = some i) (Vu : VR s.heap ρ v u) {Q : Unit → Shared → Prop}
    (q : ∀ s' a, a ∈ Xof env → (env.kindOf x = some .local → a = env.locals) → Like s s' → Step [a] ρ s.heap ρ s'.heap → Rel g ρ σ s'.heap → LRel g cc env ρ (upd lm i v) s'.heap → VR s'.heap ρ v u → Q () s') : wpAny (model prog w) A (storeName env x u) Q E s := by
  rcases V.vk x i hx with hk | ⟨hk, c, hc⟩
  · obtain ⟨m, hn, hm⟩ := L.ns
    refine wpAny_storeName_local hk hn (fun h' hn' hs' => ?_) (by rw [V.kind]; rfl)
    have hl : ∃ o, h'.get? env.locals = some o := by obtain ⟨o, _, _, ho, _⟩ := hn'; exact ⟨o, ho⟩
    obtain ⟨S, R', kv⟩ := store_rel R L (X_loc env) hs' hl
    refine q _ _ (X_loc env) (fun _ => rfl) (Like.mk s h' _) S R' ⟨⟨_, hn', fun y j z hy hz hky => ?_⟩, fun y c hc => ?_, L.own⟩ (kv _ _ Vu)
    · by_cases e : y = x
      · subst e
        rw [hx] at hy; cases hy
        refine ⟨u, by simp, ?_⟩
        simp only [upd, if_true] at hz; cases hz
        exact kv _ _ Vu
      · have hji : j ≠ i := fun q => e (V.inj y x i (q ▸ hy) hx)
        rw [upd, if_neg hji] at hz
        obtain ⟨u', e', V'⟩ := hm y j z hy hz hky
        exact ⟨u', by simp [e, e'], kv _ _ V'⟩
    · obtain ⟨o, hi, hm'⟩ := L.cell y c hc
      refine ⟨o, hi.sameBut hs' (V.cl y c hc), fun j z hj hz hky => ?_⟩
      have hyx : y ≠ x := fun e => by subst e; rw [hk] at hky; cases hky
      have hji : j ≠ i := fun q => hyx (V.inj y x i (q ▸ hj) hx)
      rw [upd, if_neg hji] at hz
      obtain ⟨u', e', V'⟩ := hm' j z hj hz hky
      exact ⟨u', e', kv _ _ V'⟩
  · obtain ⟨o, hi, hm⟩ := L.cell x c hc
    refine wpAny_storeName_cell V.kind hk hc hi fun h' hc' hs' => ?_
    have hl : ∃ o, h'.get? c = some o := by obtain ⟨o, ho, _⟩ := hc'; exact ⟨o, ho⟩
    obtain ⟨S, R', kv⟩ := store_rel R L (X_cell hc) hs' hl
    obtain ⟨m, hn, hmn⟩ := L.ns
    refine q _ _ (X_cell hc) (fun z => by rw [hk] at z; cases z) (Like.mk s h' _) S R' ⟨⟨m, hn.sameBut hs' (V.cl x c hc).symm, fun y j z hy hz hky => ?_⟩, fun y d hd => ?_, L.own⟩ (kv _ _ Vu)
    · have hyx : y ≠ x := fun e => by subst e; rw [hk] at hky; cases hky
      have hji : j ≠ i := fun q => hyx (V.inj y x i (q ▸ hy) hx)
      rw [upd, if_neg hji] at hz
      obtain ⟨u', e', V'⟩ := hmn y j z hy hz hky
      exact ⟨u', e', kv _ _ V'⟩
    · by_cases e : y = x
      · subst e
        rw [hc] at hd; cases hd
        refine ⟨some u, hc', fun j z hj hz hky => ⟨u, rfl, ?_⟩⟩
        rw [hx] at hj; cases hj
        simp only [upd, if_true] at hz; cases hz
        exact kv _ _ Vu
      · obtain ⟨o', hi', hm'⟩ := L.cell y d hd
        refine ⟨o', hi'.sameBut hs' fun q => e (V.cinj y x c (q ▸ hd) hc), fun j z hj hz hky => ?_⟩
        have hji : j ≠ i := fun q => e (V.inj y x i (q ▸ hj) hx)
        rw [upd, if_neg hji] at hz
        obtain ⟨u', e', V'⟩ := hm' j z hj hz hky
        exact ⟨u', e', kv _ _ V'⟩
end

theorem Rel.away {g : Glb} {ρ : Rho} {σ : St} {h h' : Heap} {Y : List Addr} (R : Rel g ρ σ h) (hY : ∀ a ∈ Y, a ∉ ρ.map (·.2) ∧ g.h₀.get? a = none ∧ ∀ o, h.get? a = some o → NotT o)
    (k : ∀ a o, a ∉ Y → h.get? a = some o → h'.get? a = some o) : Rel g ρ σ h' ∧ ∀ a its n, h.get? a = some (tupObj its n) → h'.get? a = some (tupObj its n) := by
  have kt : ∀ a its n, h.get? a = some (tupObj its n) → h'.get? a = some (tupObj its n) := fun a its n e => k a _ (fun q => ((hY a q).2.2 _ e).1 _ _ rfl) e
  have ki : ∀ a C dx, h.get? a = some (instObj C dx) → h'.get? a = some (instObj C dx) := fun a C dx e => k a _ (fun q => ((hY a q).2.2 _ e).2 _ _ rfl) e
  refine ⟨⟨fun b o e => k b o (fun q => by rw [(hY b q).2.1] at e; cases e) (R.keep b o e), R.low, R.mods, R.above, R.nodup, R.len, fun j o p e1 e2 => ?_, fun j xs p e1 e2 => by
    obtain ⟨o, eo, _⟩ := R.owned (mem_own e2)
    rw [k _ o (fun q => (hY _ q).1 (mem_own e2)) eo, ← R.fro j xs p e1 e2, eo]⟩, kt⟩
  have := (R.objs j o p e1 e2).keep (δ := []) kt ki fun ob eo => k _ _ (fun q => (hY _ q).1 (mem_own e2)) eo
  rwa [List.append_nil] at this
theorem Step.fin {ρ ρ' : Rho} {h h' h3 : Heap} {Y : List Addr} (S : Step Y ρ h ρ' h') (hY : ∀ a ∈ Y, h.get? a = none) (k : ∀ a o, a ∉ Y → h'.get? a = some o → h3.get? a = some o) : Step [] ρ h ρ' h3 := by
  have ny : ∀ a o, h.get? a = some o → a ∉ Y := fun a o e q => by rw [hY a q] at e; cases e
  exact ⟨S.ext, fun a o e => by obtain ⟨o', e'⟩ := S.live a o e; exact ⟨o', k a o' (ny a o e) e'⟩, fun a o e hn _ => k a o (ny a o e) (S.keep a o e hn (ny a o e))⟩
theorem Step.own {ρ ρ' : Rho} {h h' : Heap} {Y : List Addr} (S : Step Y ρ h ρ' h') {a : Addr} (ha : a ∉ ρ.map (·.2)) (hl : ∃ o, h.get? a = some o) : a ∉ ρ'.map (·.2) := by
  obtain ⟨δ, rfl, hδ⟩ := S.ext
  rw [List.map_append, List.mem_append]
  rintro (q | q)
  · exact ha q
  · obtain ⟨p, hp, rfl⟩ := List.mem_map.mp q
    obtain ⟨o, ho⟩ := hl
    rw [hδ p hp] at ho; cases ho

structure Base (K : Frag) (g : Glb) : Prop where
  X : K.In g.h₀
  at' : g.AT = attrAt
  T : ∃ p loose mg mb, TopRead p loose mg mb g.h₀

section
variable {prog : Program} {w : World} {A : Around} {E : Value → Shared → Prop} {s : Shared} {g : Glb} {cc : CC} {env : Env} {ρ : Rho} {lm : LM} {σ : St} {K : Frag}
theorem Base.in (B : Base K g) (R : Rel g ρ σ s.heap) : K.In s.heap := by
  exact B.X.keeps R.keep
theorem nameG_sound (B : Base K g) (V : EnvS cc env) (R : Rel g ρ σ s.heap) {x : Str} (hi : cc.implicit x = true) {v : Value} (e : gval K x = some v) {pos : Pos} {Q : Value → Shared → Prop} (q : Q v s) :
    wpAny (model prog w) A (eval (.Name x pos) env) Q E s := by
  obtain ⟨p, loose, mg, mb, T⟩ := B.T
  simp only [CC.implicit, Bool.and_eq_true, beq_iff_eq, bne_iff_ne, ne_eq] at hi
  have e' : nsIn K mainGlobals x = some (some v) := by
    unfold gval at e
    cases h : nsIn K mainGlobals x with
    | none => rw [h] at e; cases e
    | some o => rw [h] at e; cases o with
      | none => cases e
      | some u => cases e; rfl
  refine PySem.Calls.Name_function_global V.kind ((V.nm x).trans hi.1.2) (PySem.Calls.loadGlobal_global (env := env) (V.gl ▸ T.g.keeps R.keep) (mg_of B.X T.g e') q) ?_
  simpa using hi.2
theorem nameB_sound (B : Base K g) (V : EnvS cc env) (R : Rel g ρ σ s.heap) {x : Str} (hi : cc.implicit x = true) (e : isB K x = true) (hn : x ≠ "__name__") {v : Value} (hv : bootBuiltins x = some v) {pos : Pos} {Q : Value → Shared → Prop} (q : Q v s) :
    wpAny (model prog w) A (eval (.Name x pos) env) Q E s := by
  obtain ⟨p, loose, mg, mb, T⟩ := B.T
  simp only [CC.implicit, Bool.and_eq_true, beq_iff_eq, bne_iff_ne, ne_eq] at hi
  have e' : nsIn K mainGlobals x = some none := by
    unfold isB at e
    split at e
    · assumption
    · cases e
  refine PySem.Calls.Name_function_global V.kind ((V.nm x).trans hi.1.2) (PySem.Calls.loadGlobal_builtin (env := env) (V.gl ▸ T.g.keeps R.keep) (mg_none_of B.X T.g e') (V.bl ▸ T.b.keeps R.keep) ((T.builtins x hn).trans hv) q) ?_
  simpa using hi.2
end
end
section
open PySem PySem.W PyProof.Rows

theorem attrAt_of {nm : Str} {a : Nat} (h : attrId nm = some a) : attrAt a = nm ∧ a < AN.length := by
  unfold attrId at h
  obtain ⟨hl, e, _⟩ := List.findIdx?_eq_some_iff_getElem.mp h
  refine ⟨?_, hl⟩
  unfold attrAt
  rw [List.getD_eq_getElem?_getD, List.getElem?_eq_getElem hl]
  exact beq_iff_eq.mp e
theorem AN_ne : ∀ a, a < AN.length → attrAt a ≠ Str.empty := by decide +kernel
theorem AN_inj : ∀ a, a < AN.length → ∀ b, b < AN.length → attrAt a = attrAt b → a = b := by decide +kernel
theorem attrAt_inj {a : Nat} (ha : a < AN.length) {i : Nat} (h : attrAt i = attrAt a) : i = a := by
  by_cases hi : i < AN.length
  · exact AN_inj i hi a ha h
  · refine absurd ?_ (AN_ne a ha)
    rw [← h]
    unfold attrAt
    rw [List.getD_eq_getElem?_getD, List.getElem?_eq_none (Nat.le_of_not_lt hi)]
    rfl

section
variable {h : Heap} {ρ : Rho} {a : Nat}
theorem isStr_self (x : Str) (t : Tok) : (Value.str x t).isStr x = true := by simp [Value.isStr]
theorem isStr_iff {x y : Str} {t : Tok} : (Value.str x t).isStr y = true ↔ x = y := by simp [Value.isStr]
theorem no_ref : ∀ {fs : List (Nat × PV)} {es : List DictEntry}, All2 (FldR attrAt h ρ) fs es → es.any (·.refKey) = false
  | [], [], _ => rfl
  | p :: fs, e :: es, H => by
    obtain ⟨t, ht⟩ := H.1.1
    rw [List.any_cons, no_ref H.2, Bool.or_false]
    simp [DictEntry.refKey, ht]
  | [], _ :: _, H => H.elim
  | _ :: _, [], H => H.elim
theorem find_some (ha : a < AN.length) : ∀ {fs : List (Nat × PV)} {es : List DictEntry} {v : PV}, All2 (FldR attrAt h ρ) fs es → fs.lookup a = some v → ∃ e, es.find? (·.key.isStr (attrAt a)) = some e ∧ VR h ρ v e.val
  | p :: fs, e :: es, v, H, hl => by
    obtain ⟨t, ht⟩ := H.1.1
    rw [List.lookup_cons] at hl
    rw [List.find?_cons, ht]
    by_cases q : p.1 = a
    · have q' : (a == p.1) = true := by simp [q]
      rw [q'] at hl
      cases hl
      rw [q, isStr_self]
      exact ⟨e, rfl, H.1.2⟩
    · have q' : (a == p.1) = false := by simp [Ne.symm q]
      rw [q'] at hl
      have : (Value.str (attrAt p.1) t).isStr (attrAt a) = false := by
        rw [Bool.eq_false_iff]; intro z; exact q (attrAt_inj ha (isStr_iff.mp z))
      rw [this]
      exact find_some ha H.2 hl
  | [], [], _, _, hl => by cases hl
  | [], _ :: _, _, H, _ => H.elim
  | _ :: _, [], _, H, _ => H.elim
theorem find_none (ha : a < AN.length) : ∀ {fs : List (Nat × PV)} {es : List DictEntry}, All2 (FldR attrAt h ρ) fs es → fs.lookup a = none → es.find? (·.key.isStr (attrAt a)) = none
  | p :: fs, e :: es, H, hl => by
    obtain ⟨t, ht⟩ := H.1.1
    rw [List.lookup_cons] at hl
    rw [List.find?_cons, ht]
    by_cases q : p.1 = a
    · have q' : (a == p.1) = true := by simp [q]
      rw [q'] at hl; cases hl
    · have q' : (a == p.1) = false := by simp [Ne.symm q]
      rw [q'] at hl
      have : (Value.str (attrAt p.1) t).isStr (attrAt a) = false := by
        rw [Bool.eq_false_iff]; intro z; exact q (attrAt_inj ha (isStr_iff.mp z))
      rw [this]
      exact find_none ha H.2 hl
  | [], [], _, _ => rfl
  | [], _ :: _, H, _ => H.elim
  | _ :: _, [], H, _ => H.elim
theorem getL_some (ha : a < AN.length) {fs : List (Nat × PV)} {es : List DictEntry} {v : PV} (H : All2 (FldR attrAt h ρ) fs es) (hl : fs.lookup a = some v) : ∃ u, getL (attrAt a) es = some (some u) ∧ VR h ρ v u := by
  obtain ⟨e, he, V⟩ := find_some ha H hl
  exact ⟨e.val, by unfold getL; rw [he], V⟩
theorem getL_none (ha : a < AN.length) {fs : List (Nat × PV)} {es : List DictEntry} (H : All2 (FldR attrAt h ρ) fs es) (hl : fs.lookup a = none) : getL (attrAt a) es = some none := by
  unfold getL; rw [find_none ha H hl]
  dsimp only
  rw [no_ref H]; rfl
theorem putL_rel (ha : a < AN.length) {hs : Int} {v : PV} {u : Value} {t : Tok} (V : VR h ρ v u) : ∀ {fs : List (Nat × PV)} {es : List DictEntry}, All2 (FldR attrAt h ρ) fs es → All2 (FldR attrAt h ρ) (fput a v fs) (putL (attrAt a) hs (.str (attrAt a) t) u es)
  | p :: fs, e :: es, H => by
    obtain ⟨t', ht⟩ := H.1.1
    unfold fput putL
    rw [ht]
    by_cases q : p.1 = a
    · rw [if_pos q, q, if_pos (isStr_self ..)]
      exact ⟨⟨⟨t', rfl⟩, V⟩, H.2⟩
    · rw [if_neg q, if_neg (by rw [isStr_iff]; exact fun z => q (attrAt_inj ha z))]
      exact ⟨⟨⟨t', ht⟩, H.1.2⟩, putL_rel ha V H.2⟩
  | [], [], _ => ⟨⟨⟨t, rfl⟩, V⟩, trivial⟩
  | [], _ :: _, H => H.elim
  | _ :: _, [], H => H.elim
end
theorem VR.handed {h : Heap} {ρ : Rho} {x : PV} {v : Value} (V : VR h ρ x v) : handedIn v = true := by cases V <;> rfl

section
variable {prog : Program} {w : World} {A : Around} {E : Value → Shared → Prop} {s : Shared} {g : Glb} {ρ : Rho} {σ : St} {K : Frag} {Q : PV → St → Prop}

theorem inst_at (hat : g.AT = attrAt) (R : Rel g ρ σ s.heap) {k : Nat} {c : Addr} {fs : List (Nat × PV)} {o : Value} (Vo : VR s.heap ρ (.obj k) o) (e : σ[k]? = some (.inst c fs)) :
    ∃ x dx es n, o = .ref x ∧ ρ[k]? = some (x, dx) ∧ s.heap.get? x = some (instObj c dx) ∧ s.heap.get? dx = some (dictOf es n) ∧ InstAt s.heap x (instObj c dx) c (some (dictOf es n)) ∧ All2 (FldR attrAt s.heap ρ) fs es := by
  obtain ⟨x, dx, es, n, rfl, hp, h1, h2, h3⟩ := Vo.inst_inv R e
  exact ⟨x, dx, es, n, rfl, hp, h1, h2, ⟨h1, rfl, rfl, h2⟩, hat ▸ h3⟩

theorem getAttr_sound (B : Base K g) (R : Rel g ρ σ s.heap) {k : Nat} {c : Addr} {fs : List (Nat × PV)} {o : Value} {v : PV} {a : Nat} {b : Bool} (ha : a < AN.length) (Vo : VR s.heap ρ (.obj k) o) (e : σ[k]? = some (.inst c fs))
    (hl : fs.lookup a = some v) (hf : fldOf K c a = true) (q : Q v σ) : wpAny (model prog w) A (getAttr o (attrAt a) b) (EP g ρ s Q) NoE s := by
  obtain ⟨x, dx, es, n, rfl, hp, h1, h2, I, H⟩ := inst_at B.at' R Vo e
  obtain ⟨u, hu, V⟩ := getL_some ha H hl
  obtain ⟨f1, f2, ⟨attr, hfi, f3⟩, f4, f5, f6⟩ := fldOf_inv hf
  exact get_value (B.in R) I (plainGet_of f1).1 (findObj_own f2 hfi f3 hu) V.handed (EP.here R V q _)

theorem getMethod_sound (B : Base K g) (R : Rel g ρ σ s.heap) {k : Nat} {c : Addr} {fs : List (Nat × PV)} {o : Value} {a : Nat} {f : Addr} {pl : Sem Bool} (ha : a < AN.length) (Vo : VR s.heap ρ (.obj k) o) (e : σ[k]? = some (.inst c fs))
    (hl : fs.lookup a = none) (hf : methOf K c a = some f) {P : Value × List Value → Shared → Prop} (q : P (.ref f, [o]) s) : keepIn K (.ref f) = true ∧ wpAny (model prog w) A (getMethod o (attrAt a) pl) P E s := by
  obtain ⟨x, dx, es, n, rfl, hp, h1, h2, I, H⟩ := inst_at B.at' R Vo e
  obtain ⟨hfi, h1, h2, h3⟩ := methOf_inv hf
  exact ⟨h3, method_fn (B.in R) I (plainGet_of h1).1 (plainGet_of h1).2 hfi (beq_iff_eq.mp h2) (by show (lookIn (attrAt a) (dictOf es n)).map _ = _; rw [lookIn_dict, getL_none ha H hl]; rfl) q⟩

theorem osa_set {R : Result → Shared → Prop} {C x dx : Addr} {ox : Obj} {es : List DictEntry} {n : Nat} {name : Str} {tk : Tok} {v : Value} (X : K.In s.heap) (I : InstAt s.heap x ox C (some (dictOf es n))) (hd : ox.dict = some dx) (hp : plainOver K C = true) (ht : takerIn K C name = some none)
    (hh : (clsIn K C).any (·.hasDict) = true) (hr : es.any (·.refKey) = false) (D : s.heap.get? dx = some (dictOf es n)) (hz : (putL name (PyData.keyHash w.params name) (.str name s.toks) v es).length ≤ 1000)
    (h : ∀ h', Heap.SameBut dx s.heap h' → h'.get? dx = some (dictOf (putL name (PyData.keyHash w.params name) (.str name s.toks) v es) (putN name es n)) → R (.ok (.ret .none)) { s with heap := h', toks := s.toks + 1 }) :
    codeAny (model prog w) A (.call (.builtin "object.__setattr__") ⟨[.ref x, .str name tk, v], []⟩) R s := by
  refine osa_open X I hp ht fun b => ?_
  obtain ⟨cd, hc, hd'⟩ := any_some hh
  have D' : (s.heap.update dx (Obj.putName name (PyData.keyHash w.params name) (.str name s.toks) v)).get? dx = some (dictOf (putL name (PyData.keyHash w.params name) (.str name s.toks) v es) (putN name es n)) := by
    have e := putName_dict name (PyData.keyHash w.params name) (.str name s.toks) v es n
    rw [← e]
    exact Heap.get?_update_self _ D (by rw [e]; rfl)
  obtain ⟨hx, hcl, hn, -⟩ := I
  obtain ⟨oc, odi, oda, osl⟩ := ox
  dsimp only at hcl hd
  subst hcl hd
  refine wpAny_bind (wpAny_pure (wpAny_bind (wpAny_bind (wpAny_loadPart hx (wpAny_bind ((looks_clsIn X hc).here ?_))))))
  rw [hd']
  refine wpAny_pure (a := some dx) (wpAny_bind (wpAny_pure (wpAny_bind ?_)))
  unfold nsSet
  refine wpAny_bind (wpAny_bind (wpAny_askSetting (wpAny_pure (wpAny_bind (wpAny_mkText (wpAny_bind (wpAny_loadPart D ?_)))))))
  dsimp only
  have c : (!es.toArray.any (·.key.isStr name) && es.toArray.any (·.refKey)) = false := by
    rw [← Array.any_toList, ← Array.any_toList]
    show (_ && es.any _) = false
    rw [hr, Bool.and_false]
  rw [aRefKeyMayBeTheName_at, c]
  refine wpAny_updatePart D ?_
  refine wpAny_bind (wpAny_lookBehind D' (pastItsLine_dict (by rw [List.size_toArray, sizeLine_eq]; (first | lia | omega))) ?_)
  exact wpAny_pure (h _ (Heap.SameBut.update ..) D')

theorem fput_len (a : Nat) (v : PV) : ∀ fs : List (Nat × PV), (fput a v fs).length ≤ fs.length + 1
  | [] => by simp [fput]
  | p :: r => by unfold fput; split <;> simp; exact fput_len a v r

theorem setAttr_sound (B : Base K g) (R : Rel g ρ σ s.heap) {o v : PV} {x y : Value} {a : Nat} (ha : a < AN.length) (Vo : VR s.heap ρ o x) (Vv : VR s.heap ρ v y) {Q : St → Prop} (h : setAttr' (fldOf K) o a v σ Q) :
    wpAny (model prog w) A (setAttr x (attrAt a) y) (fun _ => UP g ρ s Q) NoE s := by
  obtain ⟨k, c, fs, rfl, e, hf, hlen, q⟩ := h
  · obtain ⟨x', dx, es, n, rfl, hp, h1, h2, I, H⟩ := inst_at B.at' R Vo e
    obtain ⟨f1, f2, _, f4, f5, f6⟩ := fldOf_inv hf
    have hz : (putL (attrAt a) (PyData.keyHash w.params (attrAt a)) (.str (attrAt a) (s.toks + 1)) y es).length ≤ 1000 := by
      have := (putL_rel (hs := PyData.keyHash w.params (attrAt a)) (t := s.toks + 1) ha Vv H).length
      have := fput_len a v fs
      (first | lia | omega)
    refine set_plain (B.in R) I f4 (osa_set (s := { s with toks := s.toks + 1 }) (B.in R) I rfl f5 f6 f2 (no_ref H) h2 hz fun h' hs' hg => ?_)
    have ne : x' ≠ dx := fun z => by rw [← z, h1] at h2; injection h2 with h2; injection h2 with h2 _ _; cases h2
    have S := Step.set (k := k) (p := (x', dx)) hp hs' ⟨_, hg⟩
    have kt := R.tupKeep xok_nil S
    refine ⟨_, ρ, Like.mk s h' _, S, R.set (o' := .inst c (fput a v fs)) e hp hs' ⟨(hs'.2 x' ne).trans h1, _, _, hg, ?_⟩, q⟩
    rw [B.at']
    refine (putL_rel ha Vv H).mono fun p e' r => ⟨r.1, ?_⟩
    have := r.2.mono (δ := []) kt
    rwa [List.append_nil] at this
end
end
section
open PySem PySem.W PyProof.Rows

structure RoomC (n : Nat) (A : Around) : Prop where
  hd : A.handled = none
  dp : A.depth + 2 * n + 5 ≤ recursionLimit
  un : A.units + 20 * n + 1010 ≤ cLine
theorem Room.c {n A} (x : Room (n + 1) A) : RoomC n A := ⟨x.hd, by have := x.dp; (first | lia | omega), by have := x.un; (first | lia | omega)⟩

noncomputable def RP (g : Glb) (ρ : Rho) (s : Shared) (Q : PV → St → Prop) : Result → Shared → Prop
  | .ok (.ret v), s' => EP g ρ s Q v s'
  | _, _ => False
theorem RP_inv {g : Glb} {ρ : Rho} {s s' : Shared} {Q : PV → St → Prop} {r : Result} (x : RP g ρ s Q r s') : ∃ v, r = .ok (.ret v) ∧ EP g ρ s Q v s' := by
  cases r with
  | error e => exact x.elim
  | ok fl => cases fl <;> first | exact x.elim | exact ⟨_, rfl, x⟩
noncomputable def CSound (prog : Program) (w : World) (K : Frag) (g : Glb) (n : Nat) : Prop :=
  ∀ {A : Around} {s : Shared} {ρ : Rho} {σ : St} {f : Addr} {pvs : List PV} {vs : List Value} {Q : PV → St → Prop}, RoomC n A → Rel g ρ σ s.heap → VRs s.heap ρ pvs vs → wpCall (pgOf K) n f pvs σ Q →
    codeAny (model prog w) A (.call (.ref f) ⟨vs, []⟩) (RP g ρ s Q) s

section
variable (prog : Program) (w : World) (K : Frag) (g : Glb) (n fu : Nat)
noncomputable def ESnd : Prop := ∀ {cc : CC} {env : Env} {e : Expr} {lm : LM} {σ : St} {Q : PV → St → Prop} {A : Around} {s : Shared} {ρ : Rho}, EnvS cc env → Room (n + 1) A → LRel g cc env ρ lm s.heap → Rel g ρ σ s.heap →
  wpe (wpCall (pgOf K) n) (pgOf K) (cE K fu cc e) lm σ Q → wpAny (model prog w) A (eval e env) (EP g ρ s Q) NoE s
inductive TP (g : Glb) (ρ : Rho) (s : Shared) (Q : Bool → St → Prop) (b : Bool) (s' : Shared) : Prop
  | mk (σ' : St) (ρ' : Rho) (l : Like s s') (S : Step [] ρ s.heap ρ' s'.heap) (R : Rel g ρ' σ' s'.heap) (q : Q b σ')
noncomputable def TSnd : Prop := ∀ {cc : CC} {env : Env} {e : Expr} {lm : LM} {σ : St} {Q : Bool → St → Prop} {A : Around} {s : Shared} {ρ : Rho}, EnvS cc env → Room (n + 1) A → LRel g cc env ρ lm s.heap → Rel g ρ σ s.heap →
  wpt (wpCall (pgOf K) n) (pgOf K) (cT K fu cc e) lm σ Q → wpAny (model prog w) A (isTrue e env (eval e env)) (TP g ρ s Q) NoE s
end

section
variable {prog : Program} {w : World} {K : Frag} {g : Glb} {n fu : Nat} {cc : CC} {env : Env} {lm : LM} {σ : St} {A : Around} {s : Shared} {ρ : Rho} {Q : PV → St → Prop}

theorem ev {t : Sem Value} {E : Value → Shared → Prop} {P : Value → Shared → Prop} (R : Rel g ρ σ s.heap) (L : LRel g cc env ρ lm s.heap) (h : wpAny (model prog w) A t (EP g ρ s Q) NoE s)
    (k : ∀ pv v σ' ρ' s', Like s s' → Step [] ρ s.heap ρ' s'.heap → Rel g ρ' σ' s'.heap → LRel g cc env ρ' lm s'.heap → VR s'.heap ρ' pv v → Q pv σ' → P v s') : wpAny (model prog w) A t P E s :=
  wpAny_mono h (fun v s' x => by obtain ⟨pv, σ', ρ', l, S, R', V, q⟩ := x; exact k pv v σ' ρ' s' l S R' (L.step0 R S) V q) fun _ _ f => f.elim
theorem tv {t : Sem Bool} {E : Value → Shared → Prop} {P : Bool → Shared → Prop} {Q : Bool → St → Prop} (R : Rel g ρ σ s.heap) (L : LRel g cc env ρ lm s.heap) (h : wpAny (model prog w) A t (TP g ρ s Q) NoE s)
    (k : ∀ b σ' ρ' s', Like s s' → Step [] ρ s.heap ρ' s'.heap → Rel g ρ' σ' s'.heap → LRel g cc env ρ' lm s'.heap → Q b σ' → P b s') : wpAny (model prog w) A t P E s :=
  wpAny_mono h (fun v s' x => by obtain ⟨σ', ρ', l, S, R', q⟩ := x; exact k v σ' ρ' s' l S R' (L.step0 R S) q) fun _ _ f => f.elim
theorem EPm {t : Sem Value} {ρ' : Rho} {s' : Shared} (l : Like s s') (S : Step [] ρ s.heap ρ' s'.heap) (h : wpAny (model prog w) A t (EP g ρ' s' Q) NoE s') : wpAny (model prog w) A t (EP g ρ s Q) NoE s' :=
  wpAny_mono h (fun _ _ x => x.trans l S) fun _ _ f => f
theorem TP.trans {Q : Bool → St → Prop} {ρ' : Rho} {s' s'' : Shared} {b : Bool} (l : Like s s') (S : Step [] ρ s.heap ρ' s'.heap) (x : TP g ρ' s' Q b s'') : TP g ρ s Q b s'' := by
  obtain ⟨σ', ρ'', l', S', R', q⟩ := x
  exact ⟨σ', ρ'', l.trans l', S.trans S', R', q⟩
theorem TPm {Q : Bool → St → Prop} {t : Sem Bool} {ρ' : Rho} {s' : Shared} (l : Like s s') (S : Step [] ρ s.heap ρ' s'.heap) (h : wpAny (model prog w) A t (TP g ρ' s' Q) NoE s') : wpAny (model prog w) A t (TP g ρ s Q) NoE s' :=
  wpAny_mono h (fun _ _ x => x.trans l S) fun _ _ f => f

theorem starEach_cons {e : Expr} (he : notStar e = true) (rest : List Expr) (env : Env) : starEach (e :: rest) env = (false, eval e env) :: starEach rest env := by
  cases e <;> first | rfl | cases he
theorem star_plain : ∀ {es : List Expr} (_ : es.all notStar = true) (pos : Pos) (env : Env), (backTo pos (starEach es env)).any (·.1) = false
  | [], _, _, _ => rfl
  | e :: r, h, pos, env => by
    rw [List.all_cons, Bool.and_eq_true] at h
    rw [starEach_cons h.1]
    show (false || (backTo pos (starEach r env)).any (·.1)) = false
    rw [star_plain h.2]; rfl
theorem star_all {es : List Expr} (h : es.all notStar = true) (pos : Pos) (env : Env) : (backTo pos (starEach es env)).all (fun x => !x.1) = true := by
  have := star_plain h pos env
  rw [List.any_eq_false] at this
  rw [List.all_eq_true]
  intro x hx
  have := this x hx
  simpa using this

theorem args_sound (IH : ESnd prog w K g n fu) (V : EnvS cc env) (H : Room (n + 1) A) (pos : Pos) : ∀ {es : List Expr} {s : Shared} {ρ : Rho} {σ : St} {Q : List PV → St → Prop}, es.all notStar = true → LRel g cc env ρ lm s.heap → Rel g ρ σ s.heap →
    wpes (wpCall (pgOf K) n) (pgOf K) (MEs.of (es.map (cE K fu cc))) lm σ Q → wpAny (model prog w) A (spliced (backTo pos (starEach es env))) (EPs g ρ s Q) NoE s
  | [], s, ρ, σ, Q, _, L, R, h => PySem.Calls.spliced_nil ⟨[], σ, ρ, Like.refl s, Step.refl .., R, .nil, h⟩
  | e :: r, s, ρ, σ, Q, hs, L, R, h => by
    rw [List.all_cons, Bool.and_eq_true] at hs
    rw [starEach_cons hs.1]
    refine PySem.Calls.spliced_cons (ev R L (IH V H L R h) fun pv v σ₁ ρ₁ s₁ l₁ S₁ R₁ L₁ V₁ h₁ => ?_)
    refine wpAny_mono (args_sound IH V H pos hs.2 L₁ R₁ h₁) (fun vs s₂ x => ?_) fun _ _ f => f
    obtain ⟨pvs, σ₂, ρ₂, l₂, S₂, R₂, V₂, q⟩ := x
    exact ⟨pv :: pvs, σ₂, ρ₂, l₁.trans l₂, S₁.trans S₂, R₂, .cons (V₁.step R₁ xok_nil S₂) V₂, q⟩
theorem evalArgs_sound (IH : ESnd prog w K g n fu) (V : EnvS cc env) (H : Room (n + 1) A) (pos : Pos) {f : Value} {es : List Expr} {Q : List PV → St → Prop} (hs : es.all notStar = true) (L : LRel g cc env ρ lm s.heap) (R : Rel g ρ σ s.heap)
    (h : wpes (wpCall (pgOf K) n) (pgOf K) (MEs.of (es.map (cE K fu cc))) lm σ Q) {P : Args → Shared → Prop} {E : Value → Shared → Prop} (k : ∀ vs s', EPs g ρ s Q vs s' → P ⟨vs, []⟩ s') :
    wpAny (model prog w) A (evalArgs f true (backTo pos (starEach es env)) []) P E s := by
  have base := args_sound IH V H pos hs L R h
  cases es with
  | nil =>
    refine evalArgs_nil3 ?_
    exact k [] s ⟨[], σ, ρ, Like.refl s, Step.refl .., R, .nil, h⟩
  | cons e r =>
    rw [List.all_cons, Bool.and_eq_true] at hs
    rw [starEach_cons hs.1] at base ⊢
    exact PySem.Calls.evalArgs_plain (wpAny_mono base (fun vs s' x => k vs s' x) fun _ _ f => f.elim)
theorem argsC_sound {es : List Expr} {Q : List PV → St → Prop} (h : wpes (wpCall (pgOf K) n) (pgOf K) (argsC es (cE K fu cc)) lm σ Q) : es.all notStar = true ∧ wpes (wpCall (pgOf K) n) (pgOf K) (MEs.of (es.map (cE K fu cc))) lm σ Q := by
  unfold argsC at h
  by_cases hs : es.all notStar = true
  · rw [if_pos hs] at h; exact ⟨hs, h⟩
  · rw [if_neg hs] at h; exact h.elim

theorem callFn_sound (C : CSound prog w K g n) (H : Room (n + 1) A) {f : Addr} {pvs : List PV} {vs : List Value} (R : Rel g ρ σ s.heap) (V : VRs s.heap ρ pvs vs) (h : wpCall (pgOf K) n f pvs σ Q) : wpAny (model prog w) A (call (.ref f) vs) (EP g ρ s Q) NoE s :=
  wpAny_call (codeAny_mono (C H.c R V h) fun r s' x => by obtain ⟨v, rfl, x⟩ := RP_inv x; exact x)

theorem E_const {c : Const} {k : Nat} {pos : Pos} (R : Rel g ρ σ s.heap) (h : wpe (wpCall (pgOf K) n) (pgOf K) (cConst c) lm σ Q) : wpAny (model prog w) A (eval (.Constant c k pos) env) (EP g ρ s Q) NoE s := by
  cases c <;> try exact h.elim
  · exact wpAny_Constant_none (EP.here' R .none h)
  · exact wpAny_Constant_bool (EP.here' R (.bool _) h)
  · exact wpAny_Constant_int (EP.here R (.int _ _) h _)
  · exact PySem.Calls.Constant_str (EP.here R (.str _ _) h _)

theorem E_name (B : Base K g) (V : EnvS cc env) (L : LRel g cc env ρ lm s.heap) (R : Rel g ρ σ s.heap) {x : Str} {pos : Pos} (h : wpe (wpCall (pgOf K) n) (pgOf K) (cName K cc x) lm σ Q) : wpAny (model prog w) A (eval (.Name x pos) env) (EP g ρ s Q) NoE s := by
  unfold cName at h
  by_cases hd : x = "__debug__"
  · rw [if_pos hd] at h; exact h.elim
  rw [if_neg hd] at h
  cases hi : cc.vars.lookup x with
  | some i =>
    rw [hi] at h
    obtain ⟨v, hv, h⟩ := h
    exact wpAny_Name (load_sound V L hi hv fun u W => EP.here' R W h) (by simpa using hd)
  | none =>
    rw [hi] at h
    by_cases hm : cc.implicit x = true
    · replace h : wpe (wpCall (pgOf K) n) (pgOf K) (if cc.implicit x = true then cNameG (gInt K x) else .stuck) lm σ Q := h
      rw [if_pos hm] at h
      cases hg : gInt K x with
      | none => rw [hg] at h; exact h.elim
      | some i =>
        rw [hg] at h
        obtain ⟨t, e⟩ := gInt_inv hg
        exact nameG_sound B V R hm e (EP.here' R (.int _ _) h)
    · replace h : wpe (wpCall (pgOf K) n) (pgOf K) (if cc.implicit x = true then cNameG (gInt K x) else .stuck) lm σ Q := h
      rw [if_neg hm] at h; exact h.elim

theorem E_neg {op : UnaryOp} {x : Expr} {pos : Pos} (R : Rel g ρ σ s.heap) (h : wpe (wpCall (pgOf K) n) (pgOf K) (cNeg op x) lm σ Q) : wpAny (model prog w) A (eval (.UnaryOp op x pos) env) (EP g ρ s Q) NoE s := by
  cases op <;> try exact h.elim
  revert h
  show wpe _ _ (match sv x with | .const c _ _ => _ | _ => _) _ _ _ → _
  cases sv x with
  | const c k p =>
    intro h
    cases c <;> try exact h.elim
    exact UnaryOp_ (wpAny_Constant_int (neg_int (EP.here (s := s) (t := s.toks + 1 + 1) R (.int _ _) h)))
  | _ => exact fun h => h.elim

theorem E_bin (IH : ESnd prog w K g n fu) (V : EnvS cc env) (H : Room (n + 1) A) (L : LRel g cc env ρ lm s.heap) (R : Rel g ρ σ s.heap) {l r : Expr} {op : Operator} {pos : Pos} (h : wpe (wpCall (pgOf K) n) (pgOf K) (cBin op (cE K fu cc l) (cE K fu cc r)) lm σ Q) :
    wpAny (model prog w) A (eval (.BinOp l op r pos) env) (EP g ρ s Q) NoE s := by
  unfold cBin at h
  cases hp : binPrimC op with
  | none => rw [hp] at h; exact h.elim
  | some p =>
    rw [hp] at h
    exact wpAny_BinOp (ev R L (IH V H L R h) fun a u σ₁ ρ₁ s₁ l₁ S₁ R₁ L₁ V₁ h₁ => ev R₁ L₁ (IH V H L₁ R₁ h₁) fun b v σ₂ ρ₂ s₂ l₂ S₂ R₂ L₂ V₂ h₂ =>
      EPm (l₁.trans l₂) (S₁.trans S₂) (binop_sound hp R₂ (V₁.step R₁ xok_nil S₂) V₂ h₂))

theorem E_tup (IH : ESnd prog w K g n fu) (V : EnvS cc env) (H : Room (n + 1) A) (L : LRel g cc env ρ lm s.heap) (R : Rel g ρ σ s.heap) {es : List Expr} {k : Nat} {pos : Pos} (h : wpe (wpCall (pgOf K) n) (pgOf K) (.tup (argsC es (cE K fu cc))) lm σ Q) :
    wpAny (model prog w) A (eval (.Tuple es k pos) env) (EP g ρ s Q) NoE s := by
  obtain ⟨hs, h⟩ := argsC_sound (σ := σ) h
  refine Tuple_ (wpAny_mono (args_sound IH V H pos hs L R h) (fun vs s₁ x => ?_) fun _ _ f => f)
  obtain ⟨pvs, σ₁, ρ₁, l₁, S₁, R₁, V₁, hb, q⟩ := x
  refine wpAny_newTuple ?_ (by have := V₁.all.length; unfold big at hb; rw [sizeLine_eq]; (first | lia | omega))
  exact (EP.newTup (its := vs.toArray) R₁ (by simpa using V₁.all) hb q s₁.toks).trans l₁ S₁
theorem E_list (IH : ESnd prog w K g n fu) (V : EnvS cc env) (H : Room (n + 1) A) (L : LRel g cc env ρ lm s.heap) (R : Rel g ρ σ s.heap) {es : List Expr} {pos : Pos} (h : wpe (wpCall (pgOf K) n) (pgOf K) (.list (argsC es (cE K fu cc))) lm σ Q) :
    wpAny (model prog w) A (eval (.List es pos) env) (EP g ρ s Q) NoE s := by
  obtain ⟨hs, h⟩ := argsC_sound (σ := σ) h
  refine List_ (wpAny_mono (args_sound IH V H pos hs L R h) (fun vs s₁ x => ?_) fun _ _ f => f)
  obtain ⟨pvs, σ₁, ρ₁, l₁, S₁, R₁, V₁, hb, q⟩ := x
  refine wpAny_newObj_type ?_ (by show vs.toArray.size ≤ sizeLine; rw [List.size_toArray]; have := V₁.all.length; unfold big at hb; rw [sizeLine_eq]; (first | lia | omega))
  exact (EP.newList (its := vs.toArray) R₁ (by simpa using V₁.all) hb q s₁.toks).trans l₁ S₁
theorem E_dict {ks : List (Option Expr)} {vs : List Expr} {pos : Pos} (R : Rel g ρ σ s.heap) (h : wpe (wpCall (pgOf K) n) (pgOf K) (cE K (fu + 1) cc (.Dict ks vs pos)) lm σ Q) : wpAny (model prog w) A (eval (.Dict ks vs pos) env) (EP g ρ s Q) NoE s := by
  cases ks with
  | cons => exact h.elim
  | nil => cases vs with
    | cons => exact h.elim
    | nil => exact wpAny_Dict_empty (EP.newDict (kvs := []) (es := #[]) R trivial List.nodup_nil (by decide) h s.toks)

theorem E_ite (IH : ESnd prog w K g n fu) (IT : TSnd prog w K g n fu) (V : EnvS cc env) (H : Room (n + 1) A) (L : LRel g cc env ρ lm s.heap) (R : Rel g ρ σ s.heap) {t a b : Expr} {pos : Pos} (h : wpe (wpCall (pgOf K) n) (pgOf K) (cE K (fu + 1) cc (.IfExp t a b pos)) lm σ Q) :
    wpAny (model prog w) A (eval (.IfExp t a b pos) env) (EP g ρ s Q) NoE s := by
  refine IfExp_ (tv R L (IT V H L R h) fun c σ₁ ρ₁ s₁ l₁ S₁ R₁ L₁ h₁ => ?_)
  cases c
  · exact EPm l₁ S₁ (IH V H L₁ R₁ h₁)
  · exact EPm l₁ S₁ (IH V H L₁ R₁ h₁)

theorem like_tok (s : Shared) (t : Nat) : Like s { s with toks := t } := ⟨s.heap, t, rfl⟩

theorem E_or (IH : ESnd prog w K g n fu) (V : EnvS cc env) (H : Room (n + 1) A) (L : LRel g cc env ρ lm s.heap) (R : Rel g ρ σ s.heap) {a b : Expr} {pos : Pos} (h : wpe (wpCall (pgOf K) n) (pgOf K) (.or (cE K fu cc a) (cE K fu cc b)) lm σ Q) :
    wpAny (model prog w) A (eval (.BoolOp .Or [a, b] pos) env) (EP g ρ s Q) NoE s := by
  refine BoolOp_or (ev R L (IH V H L R h) fun x u σ₁ ρ₁ s₁ l₁ S₁ R₁ L₁ V₁ h₁ => ?_)
  obtain ⟨t, ht, h₁⟩ := h₁
  refine truthy_sound R₁ V₁ ht fun tk => ?_
  cases t
  · exact BoolOp_one (EPm (ρ' := ρ₁) (l₁.trans (like_tok s₁ tk)) S₁ (IH (s := { s₁ with toks := tk }) V H L₁ R₁ h₁))
  · exact (EP.here R₁ V₁ h₁ tk).trans l₁ S₁
end
end
section
open PySem PySem.W PyProof.Rows
section
variable {prog : Program} {w : World} {K : Frag} {g : Glb} {n fu : Nat} {cc : CC} {env : Env} {lm : LM} {σ : St} {A : Around} {s : Shared} {ρ : Rho} {Q : PV → St → Prop}

end
section
variable {prog : Program} {w : World} {K : Frag} {g : Glb} {n fu : Nat} {cc : CC} {env : Env} {lm : LM} {σ : St} {A : Around} {s : Shared} {ρ : Rho} {Q : PV → St → Prop}

theorem base_of {o : Expr} (h : plainBase o = true) (a : Str) (env : Env) (t : Sem Value) : attributeBase o a env t = t := by
  cases o <;> first | rfl | cases h
theorem set_of {r : Expr} (h : notSet r = true) (op : CmpOp) : behindInMarks op r = false := by
  cases r <;> first | rfl | cases h

noncomputable def CmpSnd (prog : Program) (w : World) (A : Around) (g : Glb) (ρ : Rho) (s : Shared) (Q : PV → St → Prop) (env : Env) (l r : Expr) (op : CmpOp) : Prop :=
  behindInMarks op r = false ∧ wpAny (model prog w) A (eval l env) (fun a s₁ => wpAny (model prog w) A (eval r env) (fun b s₂ => wpAny (model prog w) A (compareOp op a b) (EP g ρ s Q) NoE s₂) NoE s₁) NoE s
theorem cmp_two (hw : g.w = w) (IH : ESnd prog w K g n fu) (V : EnvS cc env) (H : Room (n + 1) A) (L : LRel g cc env ρ lm s.heap) (R : Rel g ρ σ s.heap) {l r : Expr} {op : CmpOp} (h : wpe (wpCall (pgOf K) n) (pgOf K) (cCmp2 l op r (cE K fu cc)) lm σ Q) :
    CmpSnd prog w A g ρ s Q env l r op := by
  unfold cCmp2 at h
  by_cases hn : notSet r = true
  · rw [if_pos hn] at h
    cases hp : cmpPrimC op with
    | none => rw [hp] at h; exact h.elim
    | some p =>
      rw [hp] at h
      exact ⟨set_of hn op, ev R L (IH V H L R h) fun a u σ₁ ρ₁ s₁ l₁ S₁ R₁ L₁ V₁ h₁ => ev R₁ L₁ (IH V H L₁ R₁ h₁) fun b v σ₂ ρ₂ s₂ l₂ S₂ R₂ L₂ V₂ h₂ =>
        EPm (l₁.trans l₂) (S₁.trans S₂) (cmp_sound H hp hw R₂ (V₁.step R₁ xok_nil S₂) V₂ h₂)⟩
  · rw [if_neg hn] at h; exact h.elim
theorem cmp_parts (hw : g.w = w) (IH : ESnd prog w K g n fu) (V : EnvS cc env) (H : Room (n + 1) A) (L : LRel g cc env ρ lm s.heap) (R : Rel g ρ σ s.heap) {l r : Expr} {op : CmpOp} (h : wpe (wpCall (pgOf K) n) (pgOf K) (cCmp1 l op r (cE K fu cc)) lm σ Q) :
    CmpSnd prog w A g ρ s Q env l r op := by
  unfold cCmp1 at h
  cases hv : valsArg? r with
  | none => rw [hv] at h; exact cmp_two hw IH V H L R h
  | some d =>
    rw [hv] at h
    obtain ⟨ap, pos', rfl, hl, hb⟩ := vals_of hv
    cases op <;> try exact h.elim
    refine ⟨rfl, ev R L (IH V H L R h) fun a u σ₁ ρ₁ s₁ l₁ S₁ R₁ L₁ V₁ h₁ => ?_⟩
    refine wpAny_Call_method_late (trees := []) (base_of hb _ _ _) (by rfl) hl rfl (ev R₁ L₁ (IH V H L₁ R₁ h₁) fun b v σ₂ ρ₂ s₂ l₂ S₂ R₂ L₂ V₂ h₂ => ?_)
    obtain ⟨k, kvs, rfl, ek, rb, hr, hk, h₂⟩ := (show prim2 .inVals a b σ₂ Q from h₂)
    obtain ⟨a', es, m, rfl, _, ha, _⟩ := V₂.dict_inv R₂ ek
    refine ⟨"dict", "dict.values", F.plainAttrs_dict, F.slot_dict_values, F.type_dict_values, ⟨_, ha, rfl⟩, fun z e => ?_, ?_⟩
    · cases e; exact ⟨_, ha, rfl⟩
    · refine PySem.Calls.callWith_builtin rfl (evalArgs_nil3 (values_sound hw R₂ ek V₂ hk ?_))
      refine EPm (ρ' := ρ₂) (s' := { s₂ with heap := s₂.heap.push { cls := .type "dict_values", data := .fields #[.ref a'] } }) (l₁.trans (l₂.trans (Like.hp s₂ _))) (S₁.trans (S₂.trans (Step.push _))) ?_
      exact inVals_sound (n := n) (s := { s₂ with heap := s₂.heap.push { cls := .type "dict_values", data := .fields #[.ref a'] } }) H hw (R₂.push _) ek (vr_push V₂) (vr_push (V₁.step R₁ xok_nil S₂)) hk (Heap.get?_push_size _ rfl) hr h₂
theorem cmp_inv {l : Expr} {ops : List CmpOp} {rs : List Expr} {f : Expr → ME} {C : CT} {P : Pg} {Q : PV → St → Prop} (h : wpe C P (cCmp l ops rs f) lm σ Q) : ∃ op r, ops = [op] ∧ rs = [r] ∧ wpe C P (cCmp1 l op r f) lm σ Q := by
  match ops, rs, h with
  | [op], [r], h => exact ⟨op, r, rfl, rfl, h⟩

theorem test_of {Q : Bool → St → Prop} {v : Value} {s' : Shared} (x : EP g ρ s (truK Q) v s') : wpAny (model prog w) A (PySem.truthy v) (TP g ρ s Q) NoE s' := by
  obtain ⟨pv, σ', ρ', l, S, R', V, q⟩ := x
  obtain ⟨t, ht, q⟩ := q
  exact truthy_sound R' V ht fun tk => ⟨σ', ρ', l.trans (like_tok s' tk), S, R', q⟩

theorem T_and_last {Q : Bool → St → Prop} {b : Expr} {pos : Pos} {whole : Sem Value} (h : wpAny (model prog w) A (isTrue b env (eval b env)) (TP g ρ s Q) NoE s) : wpAny (model prog w) A (isTrue (.BoolOp .And [b] pos) env whole) (TP g ρ s Q) NoE s := by
  refine isTrue_and (wpAny_mono h (fun c s' x => ?_) fun _ _ f => f)
  cases c
  · exact x
  · exact isTrue_and_nil x
theorem T_or_last {Q : Bool → St → Prop} {b : Expr} {pos : Pos} {whole : Sem Value} (h : wpAny (model prog w) A (isTrue b env (eval b env)) (TP g ρ s Q) NoE s) : wpAny (model prog w) A (isTrue (.BoolOp .Or [b] pos) env whole) (TP g ρ s Q) NoE s := by
  refine isTrue_or (wpAny_mono h (fun c s' x => ?_) fun _ _ f => f)
  cases c
  · exact isTrue_or_nil x
  · exact x
theorem T_and {Q : Bool → St → Prop} (IT : TSnd prog w K g n fu) (V : EnvS cc env) (H : Room (n + 1) A) (L : LRel g cc env ρ lm s.heap) (R : Rel g ρ σ s.heap) {a : Expr} {rest : List Expr} {b : MT} {pos : Pos} {whole : Sem Value}
    (h : wpt (wpCall (pgOf K) n) (pgOf K) (.and (cT K fu cc a) b) lm σ Q)
    (k : ∀ {σ' ρ' s'}, LRel g cc env ρ' lm s'.heap → Rel g ρ' σ' s'.heap → wpt (wpCall (pgOf K) n) (pgOf K) b lm σ' Q → wpAny (model prog w) A (isTrue (.BoolOp .And rest pos) env whole) (TP g ρ' s' Q) NoE s') :
    wpAny (model prog w) A (isTrue (.BoolOp .And (a :: rest) pos) env whole) (TP g ρ s Q) NoE s := by
  refine isTrue_and (tv R L (IT V H L R h) fun c σ₁ ρ₁ s₁ l₁ S₁ R₁ L₁ h₁ => ?_)
  cases c
  · exact ⟨σ₁, ρ₁, l₁, S₁, R₁, h₁⟩
  · exact TPm l₁ S₁ (k L₁ R₁ h₁)
theorem T_or {Q : Bool → St → Prop} (IT : TSnd prog w K g n fu) (V : EnvS cc env) (H : Room (n + 1) A) (L : LRel g cc env ρ lm s.heap) (R : Rel g ρ σ s.heap) {a : Expr} {rest : List Expr} {b : MT} {pos : Pos} {whole : Sem Value}
    (h : wpt (wpCall (pgOf K) n) (pgOf K) (.or (cT K fu cc a) b) lm σ Q)
    (k : ∀ {σ' ρ' s'}, LRel g cc env ρ' lm s'.heap → Rel g ρ' σ' s'.heap → wpt (wpCall (pgOf K) n) (pgOf K) b lm σ' Q → wpAny (model prog w) A (isTrue (.BoolOp .Or rest pos) env whole) (TP g ρ' s' Q) NoE s') :
    wpAny (model prog w) A (isTrue (.BoolOp .Or (a :: rest) pos) env whole) (TP g ρ s Q) NoE s := by
  refine isTrue_or (tv R L (IT V H L R h) fun c σ₁ ρ₁ s₁ l₁ S₁ R₁ L₁ h₁ => ?_)
  cases c
  · exact TPm l₁ S₁ (k L₁ R₁ h₁)
  · exact ⟨σ₁, ρ₁, l₁, S₁, R₁, h₁⟩

theorem T_andL {Q : Bool → St → Prop} (IT : TSnd prog w K g n fu) (V : EnvS cc env) (H : Room (n + 1) A) {pos : Pos} {whole : Sem Value} : ∀ {es : List Expr} {σ : St} {s : Shared} {ρ : Rho}, LRel g cc env ρ lm s.heap → Rel g ρ σ s.heap →
    wpt (wpCall (pgOf K) n) (pgOf K) (andL (es.map (cT K fu cc))) lm σ Q → wpAny (model prog w) A (isTrue (.BoolOp .And es pos) env whole) (TP g ρ s Q) NoE s
  | [], _, _, _, _, _, h => h.elim
  | [_], _, _, _, L, R, h => T_and_last (IT V H L R h)
  | _ :: b :: r, _, _, _, L, R, h => T_and IT V H L R h fun L₁ R₁ h₁ => T_andL IT V H (es := b :: r) L₁ R₁ h₁
theorem T_orL {Q : Bool → St → Prop} (IT : TSnd prog w K g n fu) (V : EnvS cc env) (H : Room (n + 1) A) {pos : Pos} {whole : Sem Value} : ∀ {es : List Expr} {σ : St} {s : Shared} {ρ : Rho}, LRel g cc env ρ lm s.heap → Rel g ρ σ s.heap →
    wpt (wpCall (pgOf K) n) (pgOf K) (orL (es.map (cT K fu cc))) lm σ Q → wpAny (model prog w) A (isTrue (.BoolOp .Or es pos) env whole) (TP g ρ s Q) NoE s
  | [], _, _, _, _, _, h => h.elim
  | [_], _, _, _, L, R, h => T_or_last (IT V H L R h)
  | _ :: b :: r, _, _, _, L, R, h => T_or IT V H L R h fun L₁ R₁ h₁ => T_orL IT V H (es := b :: r) L₁ R₁ h₁
theorem cmp_of {e : Expr} (h : isCmp e = true) : ∃ l ops rs pos, e = .Compare l ops rs pos := by
  cases e <;> first | exact ⟨_, _, _, _, rfl⟩ | exact noB h
theorem T_cmp (hw : g.w = w) (IH' : ∀ m, fu = m + 1 → ESnd prog w K g n m) (V : EnvS cc env) (H : Room (n + 1) A) (L : LRel g cc env ρ lm s.heap) (R : Rel g ρ σ s.heap) {Q : Bool → St → Prop} {l : Expr} {ops : List CmpOp} {rs : List Expr} {pos : Pos}
    (h : wpe (wpCall (pgOf K) n) (pgOf K) (cE K fu cc (.Compare l ops rs pos)) lm σ (truK Q)) : wpAny (model prog w) A (isTrue (.Compare l ops rs pos) env (eval (.Compare l ops rs pos) env)) (TP g ρ s Q) NoE s := by
  cases fu with
  | zero => exact h.elim
  | succ m =>
    obtain ⟨op, r, rfl, rfl, h⟩ := cmp_inv (show wpe _ _ (cCmp l ops rs (cE K m cc)) lm σ (truK Q) from h)
    have x := cmp_parts hw (IH' m rfl) V H L R h
    exact wpAny_isTrue_Compare1 (wpAny_mono x.2 (fun a s₁ x₁ => wpAny_mono x₁ (fun b s₂ x₂ => wpAny_mono x₂ (fun c s₃ x₃ => test_of x₃) fun _ _ f => f) fun _ _ f => f) fun _ _ f => f) x.1

theorem T_step (hw : g.w = w) (IH : ESnd prog w K g n fu) (IH' : ∀ m, fu = m + 1 → ESnd prog w K g n m) (IT : TSnd prog w K g n fu) : TSnd prog w K g n (fu + 1) := by
  intro cc env e lm σ Q A s ρ V H L R
  show wpt _ _ (match tview e with | .not x _ => _ | .bool op es _ => _ | .plain e _ => _ | .other _ => _) _ _ _ → _
  cases tview e with
  | not x p =>
    intro h
    refine isTrue_not (wpAny_mono (IT (Q := fun b σ₁ => Q (!b) σ₁) V H L R h) (fun c s' x => ?_) fun _ _ f => f)
    obtain ⟨σ', ρ', l, S, R', q⟩ := x
    exact ⟨σ', ρ', l, S, R', q⟩
  | bool op es p =>
    cases op
    · exact T_andL IT V H L R
    · exact T_orL IT V H L R
  | plain e' he =>
    intro h
    rcases he env with hc | he
    · obtain ⟨l, ops, rs, pos, rfl⟩ := cmp_of hc
      exact T_cmp hw IH' V H L R h
    · exact isTrue_plain (wpAny_mono (IH (Q := truK Q) V H L R h) (fun _ _ x => test_of x) fun _ _ f => f) he
  | other _ => exact fun h => h.elim

theorem E_attr (B : Base K g) (IH : ESnd prog w K g n fu) (V : EnvS cc env) (H : Room (n + 1) A) (L : LRel g cc env ρ lm s.heap) (R : Rel g ρ σ s.heap) {o : Expr} {a : Str} {pos : Pos} (h : wpe (wpCall (pgOf K) n) (pgOf K) (cAttr o a (cE K fu cc)) lm σ Q) :
    wpAny (model prog w) A (eval (.Attribute o a pos) env) (EP g ρ s Q) NoE s := by
  unfold cAttr at h
  cases hi : attrId a with
  | none => rw [hi] at h; exact h.elim
  | some i =>
    rw [hi] at h
    replace h : wpe (wpCall (pgOf K) n) (pgOf K) (if plainBase o = true then .attr (cE K fu cc o) i else .stuck) lm σ Q := h
    by_cases hb : plainBase o = true
    · rw [if_pos hb] at h
      rw [arm_eval_Attribute, base_of hb]
      refine wpAny_bind (ev R L (IH V H L R h) fun ov v σ₁ ρ₁ s₁ l₁ S₁ R₁ L₁ V₁ h₁ => ?_)
      obtain ⟨k, c, fs, rfl, ek, u, hu, hf, h₁⟩ := h₁
      obtain ⟨rfl, hal⟩ := attrAt_of hi
      refine wpAny_bind (wpAny_standAt (wpAny_bind (wpAny_holding (wpAny_mono (getAttr_sound (b := true) (prog := prog) (w := w) (A := A) B R₁ hal V₁ ek hu hf h₁) (fun r s₂ x => ?_) fun _ _ f => f))))
      exact wpAny_bind (wpAny_letTemporaryGo (wpAny_pure (x.trans l₁ S₁)))
    · rw [if_neg hb] at h; exact h.elim

theorem E_idx (hw : g.w = w) (IH : ESnd prog w K g n fu) (V : EnvS cc env) (H : Room (n + 1) A) (L : LRel g cc env ρ lm s.heap) (R : Rel g ρ σ s.heap) {o i : Expr} {pos : Pos} (hs : ∀ x y, subscripted i false x y = operate [x, y] (getItem x y))
    (h : wpe (wpCall (pgOf K) n) (pgOf K) (.prim .idx (.cons (cE K fu cc o) (.cons (cE K fu cc i) .nil))) lm σ Q) : wpAny (model prog w) A (eval (.Subscript o i pos) env) (EP g ρ s Q) NoE s := by
  refine Subscript_ (ev R L (IH V H L R h) fun a u σ₁ ρ₁ s₁ l₁ S₁ R₁ L₁ V₁ h₁ => ev R₁ L₁ (IH V H L₁ R₁ h₁) fun b v σ₂ ρ₂ s₂ l₂ S₂ R₂ L₂ V₂ h₂ => ?_)
  obtain ⟨⟨T, id, hT, hl⟩, hg⟩ := getItem_sound (prog := prog) (A := A) hw R₂ (V₁.step R₁ xok_nil S₂) V₂ h₂
  exact EPm (l₁.trans l₂) (S₁.trans S₂) (tail_any hT hl hg (hs _ _))
end
end
section
open PySem PySem.W PyProof.Rows
section
variable {prog : Program} {w : World} {K : Frag} {g : Glb} {n fu : Nat} {cc : CC} {env : Env} {lm : LM} {σ : St} {A : Around} {s : Shared} {ρ : Rho} {Q : PV → St → Prop}

theorem part_sound (IH' : ∀ m, fu = m + 1 → ESnd prog w K g n m) (V : EnvS cc env) (H : Room (n + 1) A) (L : LRel g cc env ρ lm s.heap) (R : Rel g ρ σ s.heap) {o : Option Expr} (h : wpe (wpCall (pgOf K) n) (pgOf K) (cO K fu cc o) lm σ Q) :
    wpAny (model prog w) A (evalPart o env) (EP g ρ s Q) NoE s := by
  cases fu with
  | zero => exact h.elim
  | succ m =>
    cases o with
    | none => rw [evalPart_none]; exact wpAny_pure (EP.here' R .none h)
    | some e => rw [evalPart_some]; exact IH' m rfl V H L R h

theorem part_is {h : Heap} {a : PV} {v : Value} {p : Option Int} (V : VR h ρ a v) (e : partP a = some p) : IsPart v p := by
  cases V with
  | none => cases e; exact .none
  | int => cases e; exact .int _ _
  | _ => exact nos e
theorem cut_list {h : Heap} (R : Rel g ρ σ h) {k : Nat} {xs : List PV} {u : Value} (V : VR h ρ (.obj k) u) (e : σ[k]? = some (.list xs) ∨ σ[k]? = some (.ro xs)) : ∃ a' its ob, u = .ref a' ∧ h.IsList a' its ∧ All2 (VR h ρ) xs its.toList ∧ xs.length ≤ big ∧ h.get? a' = some ob ∧ ob.cls = .type "list" := by
  rcases e with e | e
  · obtain ⟨l, its, m, rfl, _, h2, h3, h4⟩ := V.list_inv R e
    exact ⟨l, its, _, rfl, isList_of h2, h3, h4, h2, rfl⟩
  · obtain ⟨a, d, rfl, er⟩ := V.obj_inv
    obtain ⟨e1, z, its, h1, h2⟩ := R.objs k _ _ e er
    dsimp only at e1; subst e1
    have h1' := h1
    obtain ⟨ob, ho, hc, _⟩ := h1
    exact ⟨a, its, ob, rfl, h1', h2, z, ho, hc⟩

theorem E_slice (IH : ESnd prog w K g n fu) (IH' : ∀ m, fu = m + 1 → ESnd prog w K g n m) (V : EnvS cc env) (H : Room (n + 1) A) (L : LRel g cc env ρ lm s.heap) (R : Rel g ρ σ s.heap) {o : Expr} {lo hi st : Option Expr} {p pos : Pos}
    (h : wpe (wpCall (pgOf K) n) (pgOf K) (.prim .slice (.cons (cE K fu cc o) (.cons (cO K fu cc lo) (.cons (cO K fu cc hi) (.cons (cO K fu cc st) .nil))))) lm σ Q) : wpAny (model prog w) A (eval (.Subscript o (.Slice lo hi st p) pos) env) (EP g ρ s Q) NoE s := by
  refine Subscript_ (ev R L (IH V H L R h) fun a u σ₁ ρ₁ s₁ l₁ S₁ R₁ L₁ V₁ h₁ => ?_)
  refine wpAny_Slice (ev R₁ L₁ (part_sound IH' V H L₁ R₁ h₁) fun b v σ₂ ρ₂ s₂ l₂ S₂ R₂ L₂ V₂ h₂ => ev R₂ L₂ (part_sound IH' V H L₂ R₂ h₂) fun c x σ₃ ρ₃ s₃ l₃ S₃ R₃ L₃ V₃ h₃ => ev R₃ L₃ (part_sound IH' V H L₃ R₃ h₃) fun d y σ₄ ρ₄ s₄ l₄ S₄ R₄ L₄ V₄ h₄ => ?_)
  have S24 := S₃.trans S₄
  have S14 := S₂.trans S24
  have Va := V₁.step R₁ xok_nil S14
  have Vb := V₂.step R₂ xok_nil S24
  have Vc := V₃.step R₃ xok_nil S₄
  obtain ⟨_, k, xs, pl, ph, ps, rfl, e1, e2, e3, ek, h0, q⟩ := (show prim4 .slice a b c d σ₄ Q from h₄)
  obtain ⟨a', its, ob, rfl, _, _, _, ha, hcl⟩ := cut_list R₄ Va ek
  have ha' := Heap.get?_push_of_some ({ cls := .type "slice", data := .fields #[v, x, y] } : Obj) ha
  have := sliceL_sound (prog := prog) (w := w) (A := A) (s := { s₄ with heap := s₄.heap.push { cls := .type "slice", data := .fields #[v, x, y] } }) (sl := s₄.heap.objs.size) (Q := Q) (R₄.push _) ek (vr_push Va) (Heap.IsSliceOf.new ..) (part_is Vb e1) (part_is Vc e2) (part_is V₄ e3) h0 q
  refine tail_any (T := "list") (id := "list.__getitem__") (ops := if st.isNone then [.ref s₄.heap.objs.size, .ref a'] else [.ref a', .ref s₄.heap.objs.size]) ⟨_, ha', hcl⟩ slot_list_getitem.lookup (EPm (l₁.trans (l₂.trans (l₃.trans (l₄.trans (Like.hp s₄ _))))) (S₁.trans (S14.trans (Step.push _))) this) ?_
  cases st <;> rfl

structure BmFit (prog : Program) (w : World) (g : Glb) (n : Nat) (A : Around) (Q : PV → St → Prop) (b : BM) (nm : Str) (T id : String) : Prop where
  pa : PlainAttrs T
  slot : Slot T nm id
  ty : typeOf (.builtin id) = pure (.type "method_descriptor")
  hT : ∀ {σ : St} {ρ : Rho} {h : Heap} {o : PV} {v : Value}, Rel g ρ σ h → VR h ρ o v → bmOk b o σ → ∃ a ob, v = .ref a ∧ h.get? a = some ob ∧ ob.cls = .type T ∧ ob.dict = none
  fin : ∀ {σ : St} {ρ : Rho} {s : Shared} {o : PV} {v : Value} {pvs : List PV} {vs : List Value}, Rel g ρ σ s.heap → VR s.heap ρ o v → VRs s.heap ρ pvs vs → bmeth b o pvs σ Q → wpAny (model prog w) A (call (.builtin id) (v :: vs)) (EP g ρ s Q) NoE s
theorem fit_list {σ : St} {ρ : Rho} {h : Heap} {o : PV} {v : Value} (R : Rel g ρ σ h) (V : VR h ρ o v) (q : lstB σ o fun _ _ => True) : ∃ a ob, v = .ref a ∧ h.get? a = some ob ∧ ob.cls = .type "list" ∧ ob.dict = none := by
  obtain ⟨k, xs, l, its, m, rfl, rfl, _, _, hg, _⟩ := lst_two R V q
  exact ⟨l, _, rfl, hg, rfl, rfl⟩
theorem vrs_one {h : Heap} {x : PV} {vs : List Value} (V : VRs h ρ [x] vs) : ∃ v, vs = [v] ∧ VR h ρ x v := by
  cases V with | cons a b => cases b; exact ⟨_, rfl, a⟩
theorem fit_append : BmFit prog w g n A Q .append "append" "list" "list.append" where
  pa := F.plainAttrs_list
  slot := F.slot_list_append
  ty := F.type_list_append
  hT := fit_list
  fin := fun R V W q => by
    obtain ⟨k, xs, rfl, e, v, rfl, q⟩ := q
    obtain ⟨u, rfl, Vu⟩ := vrs_one W
    exact append_sound R V Vu ⟨k, xs, rfl, e, v, rfl, q⟩
theorem fit_pop : BmFit prog w g n A Q .pop "pop" "list" "list.pop" where
  pa := F.plainAttrs_list
  slot := F.slot_list_pop
  ty := F.type_list_pop
  hT := fit_list
  fin := fun R V W q => by
    obtain ⟨k, xs, rfl, e, rfl, q⟩ := q
    cases W
    exact pop_sound R V ⟨k, xs, rfl, e, rfl, q⟩
theorem fit_get (H : Room (n + 1) A) (hw : g.w = w) : BmFit prog w g n A Q .get "get" "dict" "dict.get" where
  pa := F.plainAttrs_dict
  slot := F.slot_dict_get
  ty := F.type_dict_get
  hT := fun R V q => by
    obtain ⟨k, kvs, l, es, m, rfl, rfl, _, _, hg, _⟩ := dct_two R V q
    exact ⟨l, _, rfl, hg, rfl, rfl⟩
  fin := fun R V W q => by
    obtain ⟨k, kvs, rfl, e, key, d, rfl, q⟩ := q
    cases W with
    | cons x W =>
      obtain ⟨u, rfl, y⟩ := vrs_one W
      exact get_sound H hw R V x y ⟨k, kvs, rfl, e, key, d, rfl, q⟩
theorem bm_fit (H : Room (n + 1) A) (hw : g.w = w) {m : Str} {k : Nat} {b : BM} (h : bmOf m k = some b) : ∃ T id, BmFit prog w g n A Q b m T id := by
  have e : ∀ {x : Str} {j : Nat}, (m == x && k == j) = true → m = x := fun h => beq_iff_eq.mp (Bool.and_eq_true_iff.mp h).1
  unfold bmOf at h
  by_cases h1 : (m == "append" && k == 1) = true
  · rw [if_pos h1] at h; cases h; rw [e h1]; exact ⟨_, _, fit_append⟩
  rw [if_neg h1] at h
  by_cases h2 : (m == "pop" && k == 0) = true
  · rw [if_pos h2] at h; cases h; rw [e h2]; exact ⟨_, _, fit_pop⟩
  rw [if_neg h2] at h
  by_cases h3 : (m == "get" && k == 2) = true
  · rw [if_pos h3] at h; cases h; rw [e h3]; exact ⟨_, _, fit_get H hw⟩
  rw [if_neg h3] at h
  exact nos h
theorem few_args {args : List Expr} (hn : args.length < 20) (hs : args.all notStar = true) {pos : Pos} : ((backTo pos (starEach args env)).all (fun x => !x.1) && (backToKw pos (keywordEach [] env)).all (fun x => x.1.isSome) && decide (args.length + ([] : List Keyword).length + (if ([] : List Keyword).isEmpty then 0 else 1) < 30)) = true := by
  rw [star_all hs]
  show (true && (true && decide (args.length + 0 + 0 < 30))) = true
  rw [Bool.true_and, Bool.true_and, decide_eq_true_iff]
  (first | lia | omega)
theorem bm_core (hw : g.w = w) (IH : ESnd prog w K g n fu) (V : EnvS cc env) (H : Room (n + 1) A) (L : LRel g cc env ρ lm s.heap) (R : Rel g ρ σ s.heap) {b : BM} {nm : Str} {o : Expr} {args : List Expr} {apos pos : Pos} (hm : bmOf nm args.length = some b) (hb : plainBase o = true) (hl : (apos.endLine == pos.line) = true) (hn : args.length < 20) (hs : args.all notStar = true)
    (h : wpe (wpCall (pgOf K) n) (pgOf K) (.bm b (cE K fu cc o) (MEs.of (args.map (cE K fu cc)))) lm σ Q) : wpAny (model prog w) A (eval (.Call (.Attribute o nm apos) args [] pos) env) (EP g ρ s Q) NoE s := by
  obtain ⟨T, id, F⟩ := bm_fit (prog := prog) (A := A) (Q := Q) H hw hm
  refine wpAny_Call_method_late (trees := backTo pos (starEach args env)) (base_of hb _ _ _) (few_args hn hs) hl rfl (ev R L (IH V H L R h) fun ov v σ₁ ρ₁ s₁ l₁ S₁ R₁ L₁ V₁ h₁ => ?_)
  obtain ⟨hok, h₁⟩ := h₁
  obtain ⟨a, ob, rfl, ha, hc, hd⟩ := F.hT R₁ V₁ hok
  refine ⟨T, id, F.pa, F.slot, F.ty, ⟨ob, ha, hc⟩, fun z e => by cases e; exact ⟨ob, ha, hd⟩, ?_⟩
  refine PySem.Calls.callWith_builtin (star_plain hs pos env) (evalArgs_sound IH V H pos hs L₁ R₁ h₁ fun vs s₂ x => ?_)
  obtain ⟨pvs, σ₂, ρ₂, l₂, S₂, R₂, V₂, q⟩ := x
  exact EPm (l₁.trans l₂) (S₁.trans S₂) (F.fin R₂ (V₁.step R₁ xok_nil S₂) V₂ q)
end
end
section
open PySem PySem.W PyProof.Rows
theorem bootM_reversed : bootBuiltins "reversed" = some (.type "reversed") := by decide +kernel
theorem bootM_len : bootBuiltins "len" = some (.builtin "len") := by decide +kernel
theorem bootM_abs : bootBuiltins "abs" = some (.builtin "abs") := by decide +kernel
theorem bootM_tuple : bootBuiltins "tuple" = some (.type "tuple") := by decide +kernel
theorem bootM_list : bootBuiltins "list" = some (.type "list") := by decide +kernel
theorem bootM_range : bootBuiltins "range" = some (.type "range") := by decide +kernel

section
variable {prog : Program} {w : World} {K : Frag} {g : Glb} {n fu : Nat} {cc : CC} {env : Env} {lm : LM} {σ : St} {A : Around} {s : Shared} {ρ : Rho} {Q : PV → St → Prop}

theorem rev_eval (B : Base K g) (V : EnvS cc env) (R : Rel g ρ σ s.heap) {e t : Expr} (h : revArg? K cc e = some t) {P : Value → Shared → Prop}
    (k : wpAny (model prog w) A (eval t env) (fun tv s₁ => wpAny (model prog w) A (call (.type "reversed") [tv]) P NoE s₁) NoE s) : wpAny (model prog w) A (eval e env) P NoE s := by
  obtain ⟨p, pos, rfl, hi, hB, hs⟩ := rev_of h
  refine Call_Name rfl (nameB_sound B V R hi hB (by decide) bootM_reversed ?_)
  rw [starEach_cons hs]
  refine PyProof.Rows.callWith_type rfl (PySem.Calls.evalArgs_plain (PySem.Calls.spliced_cons (wpAny_mono k (fun tv s₁ x => ?_) fun _ _ f => f)))
  exact PySem.Calls.spliced_nil x

theorem E_extend (hw : g.w = w) (B : Base K g) (IH : ESnd prog w K g n fu) (V : EnvS cc env) (H : Room (n + 1) A) (L : LRel g cc env ρ lm s.heap) (R : Rel g ρ σ s.heap) {o a t : Expr} {apos pos : Pos} (hb : plainBase o = true) (hl : (apos.endLine == pos.line) = true) (hs : notStar a = true)
    (hr : revArg? K cc a = some t) (h : wpe (wpCall (pgOf K) n) (pgOf K) (.bm .extendRev (cE K fu cc o) (.cons (cE K fu cc t) .nil)) lm σ Q) : wpAny (model prog w) A (eval (.Call (.Attribute o "extend" apos) [a] [] pos) env) (EP g ρ s Q) NoE s := by
  refine wpAny_Call_method_late (trees := backTo pos (starEach [a] env)) (base_of hb _ _ _) (few_args (by show 1 < 20; decide) (by rw [List.all_cons, hs]; rfl)) hl rfl (ev R L (IH V H L R h) fun ov v σ₁ ρ₁ s₁ l₁ S₁ R₁ L₁ V₁ h₁ => ?_)
  obtain ⟨hok, h₁⟩ := h₁
  obtain ⟨a', ob, rfl, ha, hc, hd⟩ := fit_list R₁ V₁ hok
  refine ⟨"list", "list.extend", F.plainAttrs_list, F.slot_list_extend, F.type_list_extend, ⟨ob, ha, hc⟩, fun z e => by cases e; exact ⟨ob, ha, hd⟩, ?_⟩
  rw [starEach_cons hs]
  refine PySem.Calls.callWith_builtin rfl (PySem.Calls.evalArgs_plain (PySem.Calls.spliced_cons (rev_eval B V R₁ hr (ev R₁ L₁ (IH V H L₁ R₁ h₁) fun b x σ₂ ρ₂ s₂ l₂ S₂ R₂ L₂ V₂ h₂ => ?_))))
  obtain ⟨k, xs, rfl, ek, ys, eb, hz, q⟩ := (show bmeth .extendRev ov [b] σ₂ Q from h₂)
  cases eb
  exact wpAny_mono (extendRev_sound (A := A) H R₂ (V₁.step R₁ xok_nil S₂) ek V₂ hz q) (fun it s₃ x => PySem.Calls.spliced_nil (wpAny_mono x (fun _ _ y => y.trans (l₁.trans l₂) (S₁.trans S₂)) fun _ _ f => f)) fun _ _ f => f

theorem E_meth (B : Base K g) (C : CSound prog w K g n) (IH : ESnd prog w K g n fu) (V : EnvS cc env) (H : Room (n + 1) A) (L : LRel g cc env ρ lm s.heap) (R : Rel g ρ σ s.heap) {o : Expr} {m : Str} {i : Nat} {args : List Expr} {apos pos : Pos} (hb : plainBase o = true) (hl : (apos.endLine == pos.line) = true)
    (hn : args.length < 20) (hs : args.all notStar = true) (hm : attrId m = some i)
    (h : wpe (wpCall (pgOf K) n) (pgOf K) (.meth (cE K fu cc o) i (MEs.of (args.map (cE K fu cc)))) lm σ Q) : wpAny (model prog w) A (eval (.Call (.Attribute o m apos) args [] pos) env) (EP g ρ s Q) NoE s := by
  rw [arm_eval_Call, base_of hb]
  refine wpAny_bind (ev R L (IH V H L R h) fun ov v σ₁ ρ₁ s₁ l₁ S₁ R₁ L₁ V₁ h₁ => wpAny_bind (wpAny_standAt ?_))
  obtain ⟨k, c, fs, rfl, ek, f, hf, hlk, h₁⟩ := h₁
  obtain ⟨hal, hi⟩ := attrAt_of hm
  have hform : methodCallForm (args.length + ([] : List Keyword).length) (backTo pos (starEach args env)) (backToKw pos (keywordEach [] env)) = true := few_args hn hs
  have hpos : methodCallPos true o env apos pos = pure pos := by unfold methodCallPos; rw [hl]; rfl
  have gm := fun pl (P : Value × List Value → Shared → Prop) => getMethod_sound (prog := prog) (w := w) (A := A) (E := NoE) (pl := pl) B R₁ (P := P) hi V₁ ek hlk hf
  rw [hal] at gm
  unfold methodCall
  rw [hform]
  refine wpAny_bind (wpAny_holding ((gm _ _ ?_).2))
  refine wpAny_bind (wpAny_of_eq hpos ?_)
  have hk := (gm (pure true) (fun _ _ => True) trivial).1
  show wpAny _ _ (callWith pos (.ref f) [v] (backTo pos (starEach args env)) (backToKw pos (keywordEach [] env))) _ _ _
  refine callWith_of (P := fun h => K.In h) (by rw [star_plain hs]; rfl) (keeps_K hk) (evalArgs_sound IH V H pos hs L₁ R₁ h₁ fun vs s₂ x => ?_)
  obtain ⟨pvs, σ₂, ρ₂, l₂, S₂, R₂, V₂, q⟩ := x
  exact ⟨B.in R₂, EPm (l₁.trans l₂) (S₁.trans S₂) (callFn_sound C H R₂ (.cons (V₁.step R₁ xok_nil S₂) V₂) q)⟩

theorem E_fn (B : Base K g) (C : CSound prog w K g n) (IH : ESnd prog w K g n fu) (V : EnvS cc env) (H : Room (n + 1) A) (L : LRel g cc env ρ lm s.heap) (R : Rel g ρ σ s.heap) {x : Str} {a : Addr} {args : List Expr} {p pos : Pos} (hi : cc.implicit x = true) (hg : gRef K x = some a) (hs : args.all notStar = true)
    (h : wpe (wpCall (pgOf K) n) (pgOf K) (.call a (MEs.of (args.map (cE K fu cc)))) lm σ Q) : wpAny (model prog w) A (eval (.Call (.Name x p) args [] pos) env) (EP g ρ s Q) NoE s := by
  obtain ⟨e, hk⟩ := gRef_inv hg
  refine Call_Name rfl (nameG_sound B V R hi e ?_)
  refine callWith_of (P := fun h => K.In h) (by rw [star_plain hs]; rfl) (keeps_K hk) (evalArgs_sound IH V H pos hs L R h fun vs s₁ x => ?_)
  obtain ⟨pvs, σ₁, ρ₁, l₁, S₁, R₁, V₁, q⟩ := x
  exact ⟨B.in R₁, EPm l₁ S₁ (callFn_sound C H R₁ V₁ q)⟩

theorem under_room {c : Addr} {vs : List Value} (H : Room (n + 1) A) : RoomC n (A.under (.builtin "type.__call__" ⟨.ref c :: vs, []⟩)) := by
  have hw : (Code.builtin "type.__call__" ⟨.ref c :: vs, []⟩).weight ≤ 1 := Nat.le_of_ble_eq_true (by kernel_rfl)
  have hu : (Code.builtin "type.__call__" ⟨.ref c :: vs, []⟩).cUnits ≤ 4 := Nat.le_of_ble_eq_true (by kernel_rfl)
  exact ⟨H.hd, by have := H.dp; show A.depth + _ + 2 * n + 5 ≤ recursionLimit; (first | lia | omega), by have := H.un; show A.units + _ + 20 * n + 1010 ≤ cLine; (first | lia | omega)⟩

theorem new_sound (B : Base K g) (C : CSound prog w K g n) (H : Room (n + 1) A) (R : Rel g ρ σ s.heap) {c f : Addr} {pvs : List PV} {vs : List Value} (V : VRs s.heap ρ pvs vs) (hf : initOf K c = some f)
    (h : wpCall (pgOf K) n f (.obj σ.length :: pvs) (σ ++ [.inst c []]) fun r σ₂ => r = .none ∧ Q (.obj σ.length) σ₂) : wpAny (model prog w) A (call (.ref c) vs) (EP g ρ s Q) NoE s := by
  obtain ⟨hfi, hmk, hfn⟩ := initOf_inv hf
  obtain ⟨hh, gs, d, t, os⟩ := s
  have X := B.in R
  have k1 : ∀ b o, hh.get? b = some o → ((hh.push emptyDict).push (instObj c hh.objs.size)).get? b = some o := fun b o e => Heap.get?_push_of_some _ (Heap.get?_push_of_some _ e)
  have hx : ((hh.push emptyDict).push (instObj c hh.objs.size)).get? (hh.objs.size + 1) = some (instObj c hh.objs.size) := by heap_get
  have hdx : ((hh.push emptyDict).push (instObj c hh.objs.size)).get? hh.objs.size = some emptyDict := Heap.get?_push_of_some _ (Heap.get?_push_size _ rfl)
  have fresh := get_size hh
  have R₁ : Rel g (ρ ++ [(hh.objs.size + 1, hh.objs.size)]) (σ ++ [.inst c []]) ((hh.push emptyDict).push (instObj c hh.objs.size)) :=
    (R.grow k1).alloc (R.fresh fresh) (fun q => Nat.lt_irrefl _ (own_lt R q)) (R.ne_mods (Nat.le_refl _)) ⟨hx, [], 0, hdx, trivial⟩
  have S₁ : Step [] ρ hh (ρ ++ [(hh.objs.size + 1, hh.objs.size)]) ((hh.push emptyDict).push (instObj c hh.objs.size)) :=
    ⟨⟨_, rfl, fun p hp => by rw [List.mem_singleton.mp hp]; exact fresh⟩, fun a o e => ⟨o, k1 a o e⟩, fun a o e _ _ => k1 a o e⟩
  have Vx : VR ((hh.push emptyDict).push (instObj c hh.objs.size)) (ρ ++ [(hh.objs.size + 1, hh.objs.size)]) (.obj σ.length) (.ref (hh.objs.size + 1)) := .obj (d := hh.objs.size) (by rw [← R.len]; simp)
  refine wpAny_call (make_core (makes_of X hmk) (looks_findIn X hfi) (fun self => bind_fn X self (beq_iff_eq.mp hfn)) (.inl rfl) ?_)
  refine codeAny_mono (C (s := ⟨(hh.push emptyDict).push (instObj c hh.objs.size), gs, d, t, os⟩) (under_room H) R₁ (.cons Vx (V.mono fun _ _ _ e => k1 _ _ e)) h) fun r s' x => ?_
  obtain ⟨v, rfl, pv, σ₂, ρ₂, l₂, S₂, R₂, V₂, rfl, q⟩ := RP_inv x
  cases V₂
  exact ⟨rfl, .obj σ.length, σ₂, ρ₂, (Like.hp ⟨hh, gs, d, t, os⟩ _).trans l₂, S₁.trans S₂, R₂, Vx.step R₁ xok_nil S₂, q⟩

theorem E_new (B : Base K g) (C : CSound prog w K g n) (IH : ESnd prog w K g n fu) (V : EnvS cc env) (H : Room (n + 1) A) (L : LRel g cc env ρ lm s.heap) (R : Rel g ρ σ s.heap) {x : Str} {a : Addr} {args : List Expr} {p pos : Pos} (hi : cc.implicit x = true) (hg : gRef K x = some a) (hs : args.all notStar = true)
    (h : wpe (wpCall (pgOf K) n) (pgOf K) (.new a (MEs.of (args.map (cE K fu cc)))) lm σ Q) : wpAny (model prog w) A (eval (.Call (.Name x p) args [] pos) env) (EP g ρ s Q) NoE s := by
  obtain ⟨e, hk⟩ := gRef_inv hg
  refine Call_Name rfl (nameG_sound B V R hi e ?_)
  refine callWith_of (P := fun h => K.In h) (by rw [star_plain hs]; rfl) (keeps_K hk) (evalArgs_sound IH V H pos hs L R h fun vs s₁ x => ?_)
  obtain ⟨pvs, σ₁, ρ₁, l₁, S₁, R₁, V₁, f, hf, q⟩ := x
  exact ⟨B.in R₁, EPm l₁ S₁ (new_sound B C H R₁ V₁ hf q)⟩
end
end
section
open PySem PySem.W PyProof.Rows
section
variable {prog : Program} {w : World} {K : Frag} {g : Glb} {n fu : Nat} {cc : CC} {env : Env} {lm : LM} {σ : St} {A : Around} {s : Shared} {ρ : Rho} {Q : PV → St → Prop}

theorem b1_call (B : Base K g) (V : EnvS cc env) (R : Rel g ρ σ s.heap) {x : Str} {e : Expr} {f : Value} {p pos : Pos} (hb : bootBuiltins x = some f) (hf : (∃ id, f = .builtin id) ∨ ∃ id, f = .type id) (hn : x ≠ "__name__") (hi : cc.implicit x = true) (hB : isB K x = true) (hs : notStar e = true) {P : Value → Shared → Prop}
    (k : wpAny (model prog w) A (eval e env) (fun v s₁ => wpAny (model prog w) A (call f [v]) P NoE s₁) NoE s) : wpAny (model prog w) A (eval (.Call (.Name x p) [e] [] pos) env) P NoE s := by
  refine Call_Name rfl (nameB_sound B V R hi hB hn hb ?_)
  rw [starEach_cons hs]
  rcases hf with ⟨id, rfl⟩ | ⟨id, rfl⟩
  · exact PySem.Calls.callWith_builtin rfl (PySem.Calls.evalArgs_plain (PySem.Calls.spliced_cons (wpAny_mono k (fun tv s₁ x => PySem.Calls.spliced_nil x) fun _ _ f => f)))
  · exact PyProof.Rows.callWith_type rfl (PySem.Calls.evalArgs_plain (PySem.Calls.spliced_cons (wpAny_mono k (fun tv s₁ x => PySem.Calls.spliced_nil x) fun _ _ f => f)))
structure F1Fit (prog : Program) (w : World) (g : Glb) (Q : PV → St → Prop) (p : Prim) (x : Str) (f : Value) : Prop where
  boot : bootBuiltins x = some f
  kind : (∃ id, f = .builtin id) ∨ ∃ id, f = .type id
  nm : x ≠ "__name__"
  fin : ∀ {A : Around} {σ : St} {ρ : Rho} {s : Shared} {a : PV} {v : Value}, Rel g ρ σ s.heap → VR s.heap ρ a v → prim1 p a σ Q → wpAny (model prog w) A (call f [v]) (EP g ρ s Q) NoE s
theorem f1_fit {x : Str} {p : Prim} (h : fn1 x = some p) : ∃ f, F1Fit prog w g Q p x f := by
  unfold fn1 at h
  by_cases h1 : (x == "len") = true
  · rw [if_pos h1] at h; cases h; rw [show x = "len" from beq_iff_eq.mp h1]; exact ⟨_, bootM_len, .inl ⟨_, rfl⟩, by decide, len_sound⟩
  rw [if_neg h1] at h
  by_cases h2 : (x == "tuple") = true
  · rw [if_pos h2] at h; cases h; rw [show x = "tuple" from beq_iff_eq.mp h2]; exact ⟨_, bootM_tuple, .inr ⟨_, rfl⟩, by decide, tuple_sound⟩
  rw [if_neg h2] at h
  by_cases h3 : (x == "abs") = true
  · rw [if_pos h3] at h; cases h; rw [show x = "abs" from beq_iff_eq.mp h3]; exact ⟨_, bootM_abs, .inl ⟨_, rfl⟩, by decide, abs_sound⟩
  rw [if_neg h3] at h
  exact nos h

theorem E_callA (hw : g.w = w) (B : Base K g) (C : CSound prog w K g n) (IH : ESnd prog w K g n fu) (V : EnvS cc env) (H : Room (n + 1) A) (L : LRel g cc env ρ lm s.heap) (R : Rel g ρ σ s.heap) {o : Expr} {m : Str} {args : List Expr} {ap pos : Pos}
    (h : wpe (wpCall (pgOf K) n) (pgOf K) (cCallA K cc o m ap args pos (cE K fu cc)) lm σ Q) : wpAny (model prog w) A (eval (.Call (.Attribute o m ap) args [] pos) env) (EP g ρ s Q) NoE s := by
  unfold cCallA at h
  by_cases hc : (ap.endLine == pos.line && plainBase o && decide (args.length < 20) && args.all notStar) = true
  · rw [if_pos hc] at h
    obtain ⟨hc, hs⟩ := Bool.and_eq_true_iff.mp hc
    obtain ⟨hc, hn⟩ := Bool.and_eq_true_iff.mp hc
    obtain ⟨hl, hb⟩ := Bool.and_eq_true_iff.mp hc
    have hn := of_decide_eq_true hn
    cases hm : bmOf m args.length with
    | some b => rw [hm] at h; exact bm_core hw IH V H L R hm hb hl hn hs h
    | none =>
      rw [hm] at h
      replace h : wpe (wpCall (pgOf K) n) (pgOf K) (if (m == "extend") = true then cExt K cc o args (cE K fu cc) else cMeth o m args (cE K fu cc)) lm σ Q := h
      by_cases hx : (m == "extend") = true
      · rw [if_pos hx] at h
        rw [show m = "extend" from beq_iff_eq.mp hx]
        unfold cExt at h
        cases ha : one? args with
        | none => rw [ha] at h; exact h.elim
        | some a =>
          rw [ha] at h
          obtain rfl := one_inv ha
          replace h : wpe (wpCall (pgOf K) n) (pgOf K) (match revArg? K cc a with | some t => .bm .extendRev (cE K fu cc o) (.cons (cE K fu cc t) .nil) | none => .stuck) lm σ Q := h
          cases ht : revArg? K cc a with
          | none => rw [ht] at h; exact h.elim
          | some t => rw [ht] at h; exact E_extend hw B IH V H L R hb hl (Bool.and_eq_true_iff.mp hs).1 ht h
      · rw [if_neg hx] at h
        unfold cMeth at h
        cases hi : attrId m with
        | none => rw [hi] at h; exact h.elim
        | some i => rw [hi] at h; exact E_meth B C IH V H L R hb hl hn hs hi h
  · rw [if_neg hc] at h; exact h.elim

theorem E_list1 (hw : g.w = w) (B : Base K g) (IH : ESnd prog w K g n fu) (V : EnvS cc env) (H : Room (n + 1) A) (L : LRel g cc env ρ lm s.heap) (R : Rel g ρ σ s.heap) {x : Expr} {p pos : Pos} (hi : cc.implicit "list" = true) (hB : isB K "list" = true) (hs : notStar x = true)
    (h : wpe (wpCall (pgOf K) n) (pgOf K) (cList K cc x (cE K fu cc)) lm σ Q) : wpAny (model prog w) A (eval (.Call (.Name "list" p) [x] [] pos) env) (EP g ρ s Q) NoE s := by
  unfold cList at h
  cases ht : revArg? K cc x with
  | none =>
    rw [ht] at h
    exact h.elim
  | some t =>
    rw [ht] at h
    refine b1_call B V R bootM_list (.inr ⟨_, rfl⟩) (by decide) hi hB hs (rev_eval B V R ht (ev R L (IH V H L R h) fun a v σ₁ ρ₁ s₁ l₁ S₁ R₁ L₁ V₁ h₁ => ?_))
    obtain ⟨k, xs, rfl, ek, q⟩ := (show prim1 .listRev a σ₁ Q from h₁)
    exact wpAny_mono (listRev_sound (A := A) H R₁ V₁ ek q) (fun it s₂ x => wpAny_mono x (fun _ _ y => y.trans l₁ S₁) fun _ _ f => f) fun _ _ f => f
theorem E_callN (hw : g.w = w) (B : Base K g) (C : CSound prog w K g n) (IH : ESnd prog w K g n fu) (V : EnvS cc env) (H : Room (n + 1) A) (L : LRel g cc env ρ lm s.heap) (R : Rel g ρ σ s.heap) {f : Str} {args : List Expr} {p pos : Pos}
    (h : wpe (wpCall (pgOf K) n) (pgOf K) (cCallN K cc f args (cE K fu cc)) lm σ Q) : wpAny (model prog w) A (eval (.Call (.Name f p) args [] pos) env) (EP g ρ s Q) NoE s := by
  unfold cCallN at h
  by_cases hc : (cc.implicit f && decide (args.length < 20) && args.all notStar) = true
  · rw [if_pos hc] at h
    obtain ⟨hc, hs⟩ := Bool.and_eq_true_iff.mp hc
    obtain ⟨hi, hn⟩ := Bool.and_eq_true_iff.mp hc
    cases hg : gRef K f with
    | some a =>
      rw [hg] at h
      replace h : wpe (wpCall (pgOf K) n) (pgOf K) (if fnIn K a = true then .call a (MEs.of (args.map (cE K fu cc))) else .new a (MEs.of (args.map (cE K fu cc)))) lm σ Q := h
      by_cases hf : fnIn K a = true
      · rw [if_pos hf] at h; exact E_fn B C IH V H L R hi hg hs h
      · rw [if_neg hf] at h; exact E_new B C IH V H L R hi hg hs h
    | none =>
      rw [hg] at h
      replace h : wpe (wpCall (pgOf K) n) (pgOf K) (cFnB K cc f args (cE K fu cc)) lm σ Q := h
      unfold cFnB at h
      cases ha : one? args with
      | none => rw [ha] at h; exact h.elim
      | some x =>
        rw [ha] at h
        obtain rfl := one_inv ha
        have hs1 := (Bool.and_eq_true_iff.mp hs).1
        replace h : wpe (wpCall (pgOf K) n) (pgOf K) (if isB K f = true then cFn1 K cc f x (cE K fu cc) else .stuck) lm σ Q := h
        by_cases hB : isB K f = true
        · rw [if_pos hB] at h
          unfold cFn1 at h
          cases hp : fn1 f with
          | some q =>
            rw [hp] at h
            obtain ⟨v, F⟩ := f1_fit (prog := prog) (w := w) (g := g) (Q := Q) hp
            exact b1_call B V R F.boot F.kind F.nm hi hB hs1 (ev R L (IH V H L R h) fun a v σ₁ ρ₁ s₁ l₁ S₁ R₁ L₁ V₁ h₁ => EPm l₁ S₁ (F.fin R₁ V₁ h₁))
          | none =>
            rw [hp] at h
            replace h : wpe (wpCall (pgOf K) n) (pgOf K) (if (f == "list") = true then cList K cc x (cE K fu cc) else .stuck) lm σ Q := h
            by_cases hx : (f == "list") = true
            · rw [if_pos hx] at h
              obtain rfl : f = "list" := beq_iff_eq.mp hx
              exact E_list1 hw B IH V H L R hi hB hs1 h
            · rw [if_neg hx] at h; exact h.elim
        · rw [if_neg hB] at h; exact h.elim
  · rw [if_neg hc] at h; exact h.elim
end
end
section
open PySem PySem.W PyProof.Rows

structure Itr (prog : Program) (w : World) (A : Around) (g : Glb) (I : Addr) (ys : List PV) (chk : St → Prop) (P : Nat → Rho → Heap → Prop) : Prop where
  frame : ∀ {i : Nat} {ρ δ : Rho} {h h' : Heap}, P i ρ h → (∀ o, h.get? I = some o → h'.get? I = some o) → (∀ a its n, h.get? a = some (tupObj its n) → h'.get? a = some (tupObj its n)) → P i (ρ ++ δ) h'
  live : ∀ {i : Nat} {ρ : Rho} {h : Heap}, P i ρ h → ∃ o, h.get? I = some o ∧ NotT o
  item : ∀ {i : Nat} {y : PV} {s : Shared} {ρ : Rho} {σ : St} {E : Value → Shared → Prop} {Q : Option Value → Shared → Prop}, ys[i]? = some y → Rel g ρ σ s.heap → chk σ → P i ρ s.heap →
    (∀ v h' tk, VR s.heap ρ y v → P (i + 1) ρ h' → Heap.SameBut I s.heap h' → Q (some v) { s with heap := h', toks := tk }) → wpAny (model prog w) A (pyNext (.ref I)) Q E s
  done : ∀ {s : Shared} {ρ : Rho} {σ : St} {E : Value → Shared → Prop} {Q : Option Value → Shared → Prop}, Rel g ρ σ s.heap → chk σ → P ys.length ρ s.heap →
    (∀ h' tk, Heap.ExtBut I s.heap h' → Q none { s with heap := h', toks := tk }) → wpAny (model prog w) A (pyNext (.ref I)) Q E s
  self : ∀ {i : Nat} {s : Shared} {ρ : Rho} {E : Value → Shared → Prop} {Q : Value → Shared → Prop}, P i ρ s.heap → Q (.ref I) s → wpAny (model prog w) A (pyIter (.ref I)) Q E s

theorem notT_fields {o : Obj} {vs} (h : o.data = .fields vs) : NotT o := .data (fun _ _ e => by rw [h] at e; cases e) (fun e => by rw [h] at e; cases e)

section
variable {prog : Program} {w : World} {K : Frag} {g : Glb} {n fu : Nat} {cc : CC} {env : Env} {lm : LM} {σ : St} {A : Around} {s : Shared} {ρ : Rho}


theorem Itr.tup (hh : A.handled = none) (I t : Addr) (ys : List PV) :
    Itr prog w A g I ys (fun _ => True) (fun i ρ h => h.IsTupleIter I t i ∧ ∃ its m, h.get? t = some (tupObj its m) ∧ VRs h ρ ys its.toList) where
  frame := fun {i ρ δ h h'} x hI kt => by
    obtain ⟨x, its, m, e, V⟩ := x
    exact ⟨x.at hI, its, m, kt _ _ _ e, V.mono kt⟩
  live := fun {i ρ h} x => by
    obtain ⟨⟨o, e, _, hd⟩, _⟩ := x
    exact ⟨o, e, notT_fields hd⟩
  item := fun {i y s ρ σ E Q} hy R _ x hQ => by
    obtain ⟨x, its, m, e, V⟩ := x
    obtain ⟨v, hv, Vv⟩ := V.all.get hy
    have ne : t ≠ I := fun q => by obtain ⟨o, e', hc, _⟩ := x; rw [← q, e] at e'; cases e'; injection hc with hc; exact absurd hc (by decide)
    refine wpAny_pyNext_tuple_item x (isTuple_of e) (by simpa using hv) fun h' hit' hs' => ?_
    have kt : ∀ a its n, s.heap.get? a = some (tupObj its n) → h'.get? a = some (tupObj its n) := fun a its n ea => (hs'.2 a fun q => by obtain ⟨o, e', hc, _⟩ := x; rw [← q, ea] at e'; cases e'; injection hc with hc; exact absurd hc (by decide)).trans ea
    have := V.mono (δ := []) kt
    rw [List.append_nil] at this
    exact hQ v h' s.toks Vv ⟨hit', its, m, kt _ _ _ e, this⟩ hs'
  done := fun {s ρ σ E Q} R _ x hQ => by
    obtain ⟨x, its, m, e, V⟩ := x
    refine wpAny_pyNext_tuple_end hh x (isTuple_of e) ?_ fun h' he => hQ h' s.toks he
    have := V.all.length
    rw [this.trans Array.length_toList]; exact Array.getElem?_eq_none (Nat.le_refl _)
  self := fun x q => wpAny_pyIter_tupleiter x.1 q

theorem Itr.list (hh : A.handled = none) (I a : Addr) (k : Nat) (ys : List PV) :
    Itr prog w A g I ys (fun τ => τ[k]? = some (.list ys)) (fun i ρ h => h.IsListIter I a i ∧ ρ[k]? = some (a, a)) where
  frame := fun {i ρ δ h h'} x hI kt => ⟨x.1.at hI, by rw [List.getElem?_append_left (List.getElem?_eq_some_iff.mp x.2).1]; exact x.2⟩
  live := fun {i ρ h} x => by
    obtain ⟨⟨o, e, _, hd⟩, _⟩ := x
    exact ⟨o, e, notT_fields hd⟩
  item := fun {i y s ρ σ E Q} hy R hc x hQ => by
    obtain ⟨p, hp, ho⟩ := R.lookup hc
    rw [x.2] at hp; cases hp
    obtain ⟨_, _, its, m, e, V⟩ := ho
    obtain ⟨v, hv, Vv⟩ := V.get hy
    refine wpAny_pyNext_list_item x.1 (isList_of e) (by simpa using hv) fun h' hit' hs' => ?_
    exact hQ v h' s.toks Vv ⟨hit', x.2⟩ hs'
  done := fun {s ρ σ E Q} R hc x hQ => by
    obtain ⟨p, hp, ho⟩ := R.lookup hc
    rw [x.2] at hp; cases hp
    obtain ⟨_, _, its, m, e, V⟩ := ho
    refine wpAny_pyNext_list_end hh x.1 (isList_of e) ?_ fun h' he => hQ h' s.toks he
    have := V.length
    rw [this.trans Array.length_toList]; exact Array.getElem?_eq_none (Nat.le_refl _)
  self := fun x q => wpAny_pyIter_listiter x.1 q

theorem Itr.rev (hh : A.handled = none) (I a : Addr) (k : Nat) (ys : List PV) :
    Itr prog w A g I ys.reverse (fun τ => τ[k]? = some (.list ys)) (fun i ρ h => h.IsRevIter I a ((ys.length : Int) - 1 - (i : Int)) ∧ ρ[k]? = some (a, a)) where
  frame := fun {i ρ δ h h'} x hI kt => ⟨x.1.at hI, by rw [List.getElem?_append_left (List.getElem?_eq_some_iff.mp x.2).1]; exact x.2⟩
  live := fun {i ρ h} x => by
    obtain ⟨⟨o, e, _, hd⟩, _⟩ := x
    exact ⟨o, e, notT_fields hd⟩
  item := fun {i y s ρ σ E Q} hy R hc x hQ => by
    obtain ⟨p, hp, ho⟩ := R.lookup hc
    rw [x.2] at hp; cases hp
    obtain ⟨_, _, its, m, e, V⟩ := ho
    have hi : i < ys.length := by have := (List.getElem?_eq_some_iff.mp hy).1; simpa using this
    rw [List.getElem?_reverse hi] at hy
    obtain ⟨v, hv, Vv⟩ := V.get hy
    have e1 : (ys.length : Int) - 1 - (i : Int) = ((ys.length - 1 - i : Nat) : Int) := by (first | lia | omega)
    have hit := x.1
    rw [e1] at hit
    refine wpAny_pyNext_rev_item hit (isList_of e) (by simpa using hv) fun h' hit' hs' => ?_
    have e2 : ((ys.length - 1 - i : Nat) : Int) - 1 = (ys.length : Int) - 1 - ((i + 1 : Nat) : Int) := by (first | lia | omega)
    rw [e2] at hit'
    exact hQ v h' s.toks Vv ⟨hit', x.2⟩ hs'
  done := fun {s ρ σ E Q} R hc x hQ => by
    have hit := x.1
    have e1 : (ys.length : Int) - 1 - ((ys.reverse.length : Nat) : Int) = -1 := by simp; (first | lia | omega)
    rw [e1] at hit
    exact wpAny_pyNext_rev_end hh hit fun h' he => hQ h' s.toks he
  self := fun x q => wpAny_pyIter_revIter x.1 q

theorem rangeL_get {a b c : Int} {i : Nat} {y : PV} (h : (rangeL a b c)[i]? = some y) : i < (Builtin.Range.rangeSize a b c).toNat ∧ y = .int (a + (i : Int) * c) := by
  unfold rangeL at h
  rw [List.getElem?_map] at h
  cases e : (List.range (Builtin.Range.rangeSize a b c).toNat)[i]? with
  | none => rw [e] at h; cases h
  | some j =>
    rw [e] at h
    obtain ⟨hi, e'⟩ := List.getElem?_eq_some_iff.mp e
    simp at e'
    subst e'
    rw [List.length_range] at hi
    refine ⟨hi, ?_⟩
    cases h
    rw [Int.mul_comm]
theorem Itr.range (hh : A.handled = none) (I : Addr) (a b c : Int) (m : Int) (hm : (Builtin.Range.rangeSize a b c) = m) (h0 : 0 ≤ m) :
    Itr prog w A g I (rangeL a b c) (fun _ => True) (fun i ρ h => IsRangeIter h I (a + (i : Int) * c) (m - (i : Int)) c) where
  frame := fun {i ρ δ h h'} x hI kt => hI _ x
  live := fun {i ρ h} x => ⟨_, x, notT_fields rfl⟩
  item := fun {i y s ρ σ E Q} hy R hc x hQ => by
    obtain ⟨hi, rfl⟩ := rangeL_get hy
    refine wpAny_pyNext_range_item x (by rw [hm] at hi; (first | lia | omega)) fun h' hit' hs' => ?_
    refine hQ _ h' _ (.int _ _) ?_ hs'
    have e1 : a + ((i + 1 : Nat) : Int) * c = a + (i : Int) * c + c := by push_cast; rw [Int.add_mul, Int.one_mul, Int.add_assoc]
    have e2 : m - ((i + 1 : Nat) : Int) = m - (i : Int) - 1 := by push_cast; (first | lia | omega)
    show IsRangeIter h' I (a + ((i + 1 : Nat) : Int) * c) (m - ((i + 1 : Nat) : Int)) c
    rw [e1, e2]; exact hit'
  done := fun {s ρ σ E Q} R hc x hQ => by
    refine wpAny_pyNext_range_end hh x ?_ fun h' he => hQ h' s.toks he
    have : (rangeL a b c).length = m.toNat := by unfold rangeL; simp [hm]
    rw [this]; (first | lia | omega)
  self := fun x q => wpAny_pyIter_rangeiter x q

inductive IP (prog : Program) (w : World) (A : Around) (g : Glb) (ρ : Rho) (s : Shared) (Q : List PV → (St → Prop) → St → Prop) (it : Value) (s' : Shared) : Prop
  | mk (I : Addr) (ys : List PV) (chk : St → Prop) (P : Nat → Rho → Heap → Prop) (σ' : St) (ρ' : Rho) (e : it = .ref I) (It : Itr prog w A g I ys chk P) (p0 : P 0 ρ' s'.heap) (l : Like s s') (S : Step [] ρ s.heap ρ' s'.heap) (R : Rel g ρ' σ' s'.heap) (Is : s.heap.get? I = none) (Io : I ∉ ρ'.map (·.2)) (q : Q ys chk σ')
noncomputable def ISnd (prog : Program) (w : World) (K : Frag) (g : Glb) (n fu : Nat) : Prop := ∀ {cc : CC} {env : Env} {e : Expr} {lm : LM} {σ : St} {Q : List PV → (St → Prop) → St → Prop} {A : Around} {s : Shared} {ρ : Rho}, EnvS cc env → Room (n + 1) A → LRel g cc env ρ lm s.heap → Rel g ρ σ s.heap →
  wpi (wpCall (pgOf K) n) (pgOf K) (cI K fu cc e) lm σ Q → (∀ x, foldedSetIterable e env x = pure x) ∧ wpAny (model prog w) A (eval e env) (fun xv s₁ => wpAny (model prog w) A (pyIter xv) (IP prog w A g ρ s Q) NoE s₁) NoE s

theorem new_none (h : Heap) : h.get? h.objs.size = none := by
  cases e : h.get? h.objs.size with
  | none => rfl
  | some o => exact absurd (Heap.lt_size e) (Nat.lt_irrefl _)
theorem size_le {h h' : Heap} {ρ ρ' : Rho} {X : List Addr} (S : Step X ρ h ρ' h') : h.get? h'.objs.size = none := by
  cases e : h.get? h'.objs.size with
  | none => rfl
  | some o => obtain ⟨o', e'⟩ := S.live _ _ e; exact absurd (Heap.lt_size e') (Nat.lt_irrefl _)

theorem I_val (IH : ESnd prog w K g n fu) (V : EnvS cc env) (H : Room (n + 1) A) (L : LRel g cc env ρ lm s.heap) (R : Rel g ρ σ s.heap) {e : Expr} {Q : List PV → (St → Prop) → St → Prop} (h : wpi (wpCall (pgOf K) n) (pgOf K) (.val (cE K fu cc e)) lm σ Q) :
    wpAny (model prog w) A (eval e env) (fun xv s₁ => wpAny (model prog w) A (pyIter xv) (IP prog w A g ρ s Q) NoE s₁) NoE s := by
  refine ev R L (IH V H L R h) fun a v σ₁ ρ₁ s₁ l₁ S₁ R₁ L₁ V₁ h₁ => ?_
  have hI := size_le S₁
  have hIo : s₁.heap.objs.size ∉ ρ₁.map (·.2) := fun q => Nat.lt_irrefl _ (own_lt R₁ q)
  rcases h₁ with h₁ | h₁
  · obtain ⟨xs, l, its, m, rfl, rfl, e, Vl, _, q⟩ := tup_two V₁ h₁
    exact wpAny_pyIter_tuple (isTuple_of e) ⟨_, xs, _, _, σ₁, ρ₁, rfl, Itr.tup H.hd _ _ xs, ⟨⟨_, Heap.get?_push_size _ rfl, rfl, rfl⟩, _, _, get_push_lt e, VRs.of_all (all_push Vl)⟩, l₁.trans (Like.hp s₁ _), S₁.trans (Step.push _), R₁.push _, hI, hIo, q⟩
  · obtain ⟨k, xs, l, its, m, rfl, rfl, _, er, e, Vl, _, q⟩ := lst_two R₁ V₁ h₁
    exact wpAny_pyIter_list (isList_of e) ⟨_, xs, _, _, σ₁, ρ₁, rfl, Itr.list H.hd _ _ k xs, ⟨⟨_, Heap.get?_push_size _ rfl, rfl, rfl⟩, er⟩, l₁.trans (Like.hp s₁ _), S₁.trans (Step.push _), R₁.push _, hI, hIo, q⟩

theorem I_rev (B : Base K g) (IH : ESnd prog w K g n fu) (V : EnvS cc env) (H : Room (n + 1) A) (L : LRel g cc env ρ lm s.heap) (R : Rel g ρ σ s.heap) {e t : Expr} {Q : List PV → (St → Prop) → St → Prop} (ht : revArg? K cc e = some t) (h : wpi (wpCall (pgOf K) n) (pgOf K) (.rev (cE K fu cc t)) lm σ Q) :
    wpAny (model prog w) A (eval e env) (fun xv s₁ => wpAny (model prog w) A (pyIter xv) (IP prog w A g ρ s Q) NoE s₁) NoE s := by
  refine rev_eval B V R ht (ev R L (IH V H L R h) fun a v σ₁ ρ₁ s₁ l₁ S₁ R₁ L₁ V₁ h₁ => ?_)
  have hI := size_le S₁
  have hIo : s₁.heap.objs.size ∉ ρ₁.map (·.2) := fun q => Nat.lt_irrefl _ (own_lt R₁ q)
  obtain ⟨k, xs, rfl, ek, q⟩ := h₁
  refine reversedL_sound R₁ V₁ ek fun l its m _ er hg hv zb => ?_
  have hl := size_of hv
  have hit : (s₁.heap.push (revObj l ((its.size : Int) - 1))).IsRevIter s₁.heap.objs.size l ((its.size : Int) - 1) := ⟨_, Heap.get?_push_size _ rfl, rfl, rfl⟩
  refine wpAny_pyIter_revIter (s := { s₁ with heap := s₁.heap.push (revObj l ((its.size : Int) - 1)) }) hit ⟨_, xs.reverse, _, _, σ₁, ρ₁, rfl, Itr.rev H.hd _ l k xs, ⟨?_, er⟩, l₁.trans (Like.hp s₁ _), S₁.trans (Step.push _), R₁.push _, hI, hIo, q⟩
  have e1 : (xs.length : Int) - 1 - ((0 : Nat) : Int) = (its.size : Int) - 1 := by rw [hl]; exact Int.sub_zero _
  rw [e1]; exact hit

theorem smallR_inv {a : Int} (h : smallR a = true) : -(2 ^ 62) ≤ a ∧ a < 2 ^ 62 := by
  have := of_decide_eq_true h
  (first | lia | omega)
theorem vrs_int {h : Heap} {i : Int} {ps : List PV} {vs : List Value} (V : VRs h ρ (.int i :: ps) vs) : ∃ t us, vs = .int i t :: us ∧ VRs h ρ ps us := by
  cases V with | cons a b => obtain ⟨t, rfl⟩ := a.int_inv; exact ⟨t, _, rfl, b⟩

theorem I_range (B : Base K g) (IH : ESnd prog w K g n fu) (V : EnvS cc env) (H : Room (n + 1) A) (L : LRel g cc env ρ lm s.heap) (R : Rel g ρ σ s.heap) {e : Expr} {args : List Expr} {Q : List PV → (St → Prop) → St → Prop} (ht : rangeArgs? K cc e = some args)
    (h : wpi (wpCall (pgOf K) n) (pgOf K) (.range (argsC args (cE K fu cc))) lm σ Q) :
    wpAny (model prog w) A (eval e env) (fun xv s₁ => wpAny (model prog w) A (pyIter xv) (IP prog w A g ρ s Q) NoE s₁) NoE s := by
  obtain ⟨p, pos, rfl, hi, hB⟩ := range_of ht
  obtain ⟨hs, h⟩ := argsC_sound (σ := σ) h
  refine Call_Name rfl (nameB_sound B V R hi hB (by decide) bootM_range ?_)
  refine PyProof.Rows.callWith_type (star_plain hs pos env) (evalArgs_sound IH V H pos hs L R h fun vs s₁ x => ?_)
  obtain ⟨pvs, σ₁, ρ₁, l₁, S₁, R₁, V₁, h₁⟩ := x
  have fin : ∀ {a b c : Int} {t u v : Tok}, Builtin.Range.small a b c = true → Q (rangeL a b c) (fun _ => True) σ₁ → ∀ tk : Nat,
      wpAny (model prog w) A (pyIter (.ref s₁.heap.objs.size)) (IP prog w A g ρ s Q) NoE { s₁ with heap := s₁.heap.push { cls := .type "range", data := .fields #[.int a t, .int b u, .int c v] }, toks := tk } := by
    intro a b c t u v hsm q tk
    have S₂ : Step [] ρ s.heap ρ₁ (s₁.heap.push { cls := .type "range", data := .fields #[.int a t, .int b u, .int c v] }) := S₁.trans (Step.push _)
    refine wpAny_pyIter_range (s := { s₁ with heap := s₁.heap.push { cls := .type "range", data := .fields #[.int a t, .int b u, .int c v] }, toks := tk }) (IsRange.new ..) hsm ?_
    refine ⟨_, rangeL a b c, _, _, σ₁, ρ₁, rfl, Itr.range H.hd _ a b c _ rfl (by rw [rangeSize_toNat]; exact Int.natCast_nonneg _), ?_, (l₁.trans (Like.mk s₁ _ tk)).trans (Like.hp _ _), S₂.trans (Step.push _), (R₁.push _).push _, size_le S₂, fun qq => ?_, q⟩
    · show _ = _
      rw [Heap.get?_push_size _ rfl]
      simp
    · have := own_lt R₁ qq
      rw [Heap.size_push] at this
      exact absurd (Nat.lt_of_succ_lt this) (Nat.lt_irrefl _)
  obtain ⟨xs, hx, q⟩ := h₁
  rcases hx with ⟨b, rfl, hb, rfl⟩ | ⟨a, b, rfl, ha, hb, rfl⟩
  · obtain ⟨t, _, rfl, W⟩ := vrs_int V₁
    cases W
    exact call_range_1 (fin (small_one (by decide) (by decide) (smallR_inv hb).1 (smallR_inv hb).2) q _)
  · obtain ⟨t, _, rfl, W1⟩ := vrs_int V₁
    obtain ⟨u, _, rfl, W2⟩ := vrs_int W1
    obtain ⟨v, _, rfl, W3⟩ := vrs_int W2
    cases W3
    exact call_range_3 (by decide) (fin (small_down (smallR_inv ha).1 (smallR_inv ha).2 (smallR_inv hb).1 (smallR_inv hb).2) q _) (.inl (PyProof.noPylong_small (by decide)))

theorem folded_of {e : Expr} (h : notSet e = true) (env : Env) (x : Value) : foldedSetIterable e env x = pure x := by cases e <;> first | rfl | cases h
theorem I_step (B : Base K g) (IH : ESnd prog w K g n fu) : ISnd prog w K g n (fu + 1) := by
  intro cc env e lm σ Q A s ρ V H L R h
  replace h : wpi (wpCall (pgOf K) n) (pgOf K) (match rangeArgs? K cc e with | some args => .range (argsC args (cE K fu cc)) | none => cIV K cc e (cE K fu cc)) lm σ Q := h
  cases ht : rangeArgs? K cc e with
  | some args =>
    rw [ht] at h
    refine ⟨fun x => ?_, I_range B IH V H L R ht h⟩
    obtain ⟨p, pos, rfl, _, _⟩ := range_of ht
    rfl
  | none =>
    rw [ht] at h
    replace h : wpi (wpCall (pgOf K) n) (pgOf K) (match revArg? K cc e with | some t => .rev (cE K fu cc t) | none => if notSet e = true then .val (cE K fu cc e) else .val .stuck) lm σ Q := h
    cases hr : revArg? K cc e with
    | some t =>
      rw [hr] at h
      refine ⟨fun x => ?_, I_rev B IH V H L R hr h⟩
      obtain ⟨p, pos, rfl, _, _⟩ := rev_of hr
      rfl
    | none =>
      rw [hr] at h
      replace h : wpi (wpCall (pgOf K) n) (pgOf K) (if notSet e = true then .val (cE K fu cc e) else .val .stuck) lm σ Q := h
      by_cases hn : notSet e = true
      · rw [if_pos hn] at h
        exact ⟨folded_of hn env, I_val IH V H L R h⟩
      · rw [if_neg hn] at h; exact h.elim
end
end
section
open PySem PySem.W PyProof.Rows

set_option tactic.hygienic true in
theorem closure_go {env : Env} {f : Str × NameKind → List (Str × Addr) → Sem (ForInStep (List (Str × Addr)))}
    (hf : ∀ name kind r, f (name, kind) r = if kind == .free then (cellOf env name >>= fun a => pure (.yield ((name, a) :: r))) else pure (.yield r)) :
    ∀ (names : List (Str × NameKind)) (acc : List (Str × Addr)), (∀ p ∈ names, p.2 = .free → ∃ c, env.cells.lookup p.1 = some c) → (∀ x c, acc.lookup x = some c → env.cells.lookup x = some c) →
      ∃ cl, forIn names acc f = pure cl ∧ (∀ x c, cl.lookup x = some c → env.cells.lookup x = some c) ∧ (∀ x c, acc.lookup x = some c → ∃ c', cl.lookup x = some c') ∧ ∀ p ∈ names, p.2 = .free → ∃ c, cl.lookup p.1 = some c
  | [], acc, _, ha => ⟨acc, by rw [List.forIn_nil], ha, fun x c e => ⟨c, e⟩, fun _ hp => nomatch hp⟩
  | (n, k) :: r, acc, hn, ha => by
    rw [List.forIn_cons, hf]
    by_cases hk : k = .free
    · subst hk
      obtain ⟨c, hc⟩ := hn (n, .free) List.mem_cons_self rfl
      obtain ⟨cl, h1, h2, h3, h4⟩ := closure_go hf r ((n, c) :: acc) (fun p hp => hn p (List.mem_cons_of_mem _ hp)) (fun x c' e => by
        rw [List.lookup_cons] at e
        split at e
        · rename_i q; cases e; rw [beq_iff_eq.mp q]; exact hc
        · exact ha x c' e)
      refine ⟨cl, ?_, h2, fun x c' e => ?_, fun p hp hf => ?_⟩
      · simp only [beq_self_eq_true, if_true, cellOf, hc, pure_bind]
        exact h1
      · by_cases q : x = n
        · subst q; exact h3 x c (by rw [List.lookup_cons]; simp)
        · exact h3 x c' (by rw [List.lookup_cons, show (x == n) = false by simpa using q]; exact e)
      · rcases List.mem_cons.mp hp with rfl | hp
        · exact h3 n c (by rw [List.lookup_cons]; simp)
        · exact h4 p hp hf
    · obtain ⟨cl, h1, h2, h3, h4⟩ := closure_go hf r acc (fun p hp => hn p (List.mem_cons_of_mem _ hp)) ha
      refine ⟨cl, ?_, h2, h3, fun p hp hf => ?_⟩
      · have : (k == NameKind.free) = false := by simpa using hk
        simp only [this, Bool.false_eq_true, if_false, pure_bind]
        exact h1
      · rcases List.mem_cons.mp hp with rfl | hp
        · exact absurd hf hk
        · exact h4 p hp hf
theorem closure_ok {sc : Scope} {env : Env} (h : ∀ p ∈ sc.names, p.2 = .free → ∃ c, env.cells.lookup p.1 = some c) :
    ∃ cl, closureFor sc env = pure cl ∧ (∀ x c, cl.lookup x = some c → env.cells.lookup x = some c) ∧ ∀ p ∈ sc.names, p.2 = .free → ∃ c, cl.lookup p.1 = some c := by
  unfold closureFor
  obtain ⟨cl, h1, h2, _, h4⟩ := closure_go (env := env) (f := fun (x : Str × NameKind) r => match x with | (name, kind) => if kind == .free then (do let a ← cellOf env name; pure (.yield ((name, a) :: r))) else pure (.yield r)) (fun _ _ _ => rfl) sc.names [] h (fun _ _ e => by cases e)
  refine ⟨cl, ?_, h2, h4⟩
  have : (forIn sc.names ([] : List (Str × Addr)) fun (x : Str × NameKind) r => match x with | (name, kind) => if kind == .free then (do let a ← cellOf env name; pure (.yield ((name, a) :: r))) else pure (.yield r)) = (pure cl : Sem _) := h1
  first
    | exact this
    | (simp only [bind_pure]; exact this)

theorem lookup_filter {α : Type} (p : Str → Bool) (y : Str) : ∀ l : List (Str × α), (l.filter fun q => p q.1).lookup y = if p y then l.lookup y else none
  | [] => by simp
  | (k, v) :: r => by
    rw [List.filter_cons]
    have ih := lookup_filter p y r
    by_cases hk : p k
    · simp only [hk, if_true, List.lookup_cons]
      by_cases q : y = k
      · subst q; simp [hk]
      · have q' : (y == k) = false := by simpa using q
        simp only [q']; exact ih
    · simp only [hk]
      by_cases q : y = k
      · subst q; rw [if_neg (by simp), ih]; simp [hk]
      · have q' : (y == k) = false := by simpa using q
        simp only [List.lookup_cons, q']; exact ih
theorem lookup_mapk {c : Str → NameKind → Bool} (y : Str) : ∀ l : List (Str × NameKind), (l.map fun (p : Str × NameKind) => match p with | (n, k) => if c n k then (n, NameKind.cell) else (n, k)).lookup y = (l.lookup y).map fun k => if c y k then .cell else k
  | [] => rfl
  | (k, v) :: r => by
    have ih := lookup_mapk (c := c) y r
    rw [List.map_cons]
    have e : (match (k, v) with | (n, k) => if c n k then (n, NameKind.cell) else (n, k)) = (k, if c k v then NameKind.cell else v) := by dsimp only; split <;> rfl
    rw [e, List.lookup_cons, List.lookup_cons]
    by_cases q : y = k
    · subst q; simp
    · have q' : (y == k) = false := by simpa using q
      simp only [q']; exact ih

section
variable {cc : CC} {env : Env} {sc : Scope} {x : Str} {cl : List (Str × Addr)} {C : Addr}
structure CompOk (cc : CC) (x : Str) (sc : Scope) : Prop where
  kind : sc.kind = .function
  hx : sc.names.lookup x = some .local
  names : ∀ p ∈ sc.names, (p.2 = .local ∧ sc.names.lookup p.1 = some .local) ∨ p.2 = .globalImplicit ∨ (p.2 = .free ∧ cc.names.lookup p.1 = some .cell ∧ sc.names.lookup p.1 = some .free)
  vars : ∀ p ∈ cc.vars, p.2 < 50
  dbg : x ≠ "__debug__"
theorem compOk_of (h : cc.compOk x sc = true) : CompOk cc x sc := by
  unfold CC.compOk at h
  simp only [Bool.and_eq_true, beq_iff_eq, List.all_eq_true, Bool.or_eq_true, decide_eq_true_eq, bne_iff_ne, ne_eq] at h
  obtain ⟨⟨⟨⟨⟨h1, h2⟩, h3⟩, h4⟩, h5⟩, h6⟩ := h
  refine ⟨h1, h2, fun p hp => ?_, h4, h5⟩
  rcases h3 p hp with (h | h) | h
  · exact .inl h
  · exact .inr (.inl h)
  · exact .inr (.inr ⟨h.1.1.1, h.1.1.2, h.1.2⟩)

theorem inner_names (V : EnvS cc env) : (relabel sc env).names = compNames cc.names sc := by
  unfold relabel compNames
  show List.map _ _ = List.map _ _
  refine List.map_congr_left fun p _ => ?_
  obtain ⟨n, k⟩ := p
  show (if (k == NameKind.free && env.scope.kind == .function && env.kindOf n == some .cell) = true then (n, NameKind.cell) else (n, k)) = _
  rw [V.kind, V.nm]
  simp
theorem inner_kind (V : EnvS cc env) (y : Str) : (compEnvC sc cl C env).kindOf y = (sc.names.lookup y).map fun k => if (k == .free && cc.names.lookup y == some .cell) then .cell else k := by
  show (relabel sc env).names.lookup y = _
  rw [inner_names V]
  unfold compNames
  exact lookup_mapk (c := fun n k => k == .free && cc.names.lookup n == some .cell) y sc.names

set_option tactic.hygienic true in
theorem inner_var {y : Str} {i : Nat} (h : (cc.inner x sc).vars.lookup y = some i) : (y = x ∧ i = 50) ∨ (y ≠ x ∧ cc.vars.lookup y = some i ∧ sc.names.lookup y = some .free) := by
  unfold CC.inner at h
  dsimp only at h
  rw [List.lookup_cons] at h
  by_cases q : y = x
  · subst q; simp at h; exact .inl ⟨rfl, h.symm⟩
  · have q' : (y == x) = false := by simpa using q
    simp only [q'] at h
    rw [lookup_filter (fun z => sc.names.lookup z == some .free && z != x)] at h
    split at h
    · rename_i hc
      simp only [Bool.and_eq_true, beq_iff_eq] at hc
      exact .inr ⟨q, h, hc.1⟩
    · cases h

theorem inner_env (V : EnvS cc env) (O : CompOk cc x sc) (hcl : ∀ x c, cl.lookup x = some c → env.cells.lookup x = some c) (hfr : ∀ p ∈ sc.names, p.2 = .free → ∃ c, cl.lookup p.1 = some c) (hC : ∀ x c, env.cells.lookup x = some c → c ≠ C) :
    EnvS (cc.inner x sc) (compEnvC sc cl C env) where
  kind := O.kind
  gl := V.gl
  bl := V.bl
  nm := fun y => by
    show (relabel sc env).names.lookup y = (compNames cc.names sc).lookup y
    rw [inner_names V]
  vk := fun y i h => by
    rcases inner_var h with ⟨rfl, rfl⟩ | ⟨hy, h1, h2⟩
    · left
      rw [inner_kind V, O.hx]; rfl
    · right
      have hm := lk_mem h2
      have := O.names _ hm
      have hcell : cc.names.lookup y = some .cell := by
        rcases this with h | h | h
        · cases h.1
        · cases h
        · exact h.2.1
      refine ⟨?_, hfr _ hm rfl⟩
      rw [inner_kind V, h2]
      simp [hcell]
  inj := fun y z i h h' => by
    rcases inner_var h with ⟨rfl, rfl⟩ | ⟨hy, h1, h2⟩ <;> rcases inner_var h' with ⟨rfl, h3⟩ | ⟨hy', h1', h2'⟩
    · rfl
    · exact absurd (O.vars _ (lk_mem h1')) (by simp)
    · subst h3; exact absurd (O.vars _ (lk_mem h1)) (by simp)
    · exact V.inj y z i h1 h1'
  cinj := fun y z c h h' => V.cinj y z c (hcl _ _ h) (hcl _ _ h')
  cl := fun y c h => hC y c (hcl _ _ h)
  cc := fun y h => by
    rw [inner_kind V] at h
    cases hl : sc.names.lookup y with
    | none => rw [hl] at h; cases h
    | some k =>
      rw [hl] at h
      have hm := lk_mem hl
      rcases O.names _ hm with q | q | q
      · have : k = .local := q.1
        subst this; simp at h
      · have : k = .globalImplicit := q
        subst this; simp at h
      · exact hfr _ hm q.1
end
end
section
open PySem PySem.W PyProof.Rows
section
variable {prog : Program} {w : World} {K : Frag} {g : Glb} {n fu : Nat} {cc : CC} {env : Env} {lm : LM} {σ : St} {A : Around} {s : Shared} {ρ : Rho}

structure Own1 (g : Glb) (ρ : Rho) (h : Heap) (a : Addr) : Prop where
  un : a ∉ ρ.map (·.2)
  h0 : g.h₀.get? a = none
  live : ∃ o, h.get? a = some o ∧ NotT o
theorem Own1.xok {a : Addr} {h : Heap} (O : Own1 g ρ h a) : Xok [a] ρ h := fun b hb => by rw [List.mem_singleton.mp hb]; exact O.live
theorem Own1.aw {a : Addr} {h : Heap} (O : Own1 g ρ h a) : a ∉ ρ.map (·.2) ∧ g.h₀.get? a = none ∧ ∀ o, h.get? a = some o → NotT o :=
  ⟨O.un, O.h0, fun o e => by obtain ⟨o', e', hn⟩ := O.live; rw [e] at e'; cases e'; exact hn⟩
theorem Own1.step {X : List Addr} {a : Addr} {h h' : Heap} {ρ' : Rho} (O : Own1 g ρ h a) (S : Step X ρ h ρ' h') (ha : a ∉ X) : Own1 g ρ' h' a :=
  ⟨S.own O.un (O.live.imp fun _ e => e.1), O.h0, by obtain ⟨o, e, hn⟩ := O.live; exact ⟨o, S.keep a o e O.un ha, hn⟩⟩
theorem Own1.set {a : Addr} {h h' : Heap} {o : Obj} (O : Own1 g ρ h a) (e : h'.get? a = some o) (hn : NotT o) : Own1 g ρ h' a := ⟨O.un, O.h0, o, e, hn⟩

theorem Rel.own1 {a : Addr} {h h' : Heap} (R : Rel g ρ σ h) (O : Own1 g ρ h a) (hs : Heap.SameBut a h h') (hl : ∃ o, h'.get? a = some o) : Step [a] ρ h ρ h' ∧ Rel g ρ σ h' ∧ ∀ x u, VR h ρ x u → VR h' ρ x u := by
  have S : Step [a] ρ h ρ h' := step_but hs hl
  exact ⟨S, R.mono O.xok (fun b hb => by rw [List.mem_singleton.mp hb]; exact O.h0) S fun b hb o e => (hs.2 b fun q => O.un (q ▸ hb)).trans e, fun x u V => V.step R O.xok S⟩

noncomputable def tests (env : Env) (ifs : List Expr) : Sem Bool := forIn ifs true fun c r => if r = true then do let ok ← isTrue c env (eval c env); pure (ForInStep.yield ok) else pure (ForInStep.yield r)
theorem tests_sound (IT' : ∀ m, fu = m + 1 → TSnd prog w K g n m) (V : EnvS cc env) (H : Room (n + 1) A) (L : LRel g cc env ρ lm s.heap) (R : Rel g ρ σ s.heap) {ifs : List Expr} {Q : Bool → St → Prop} (h : wpt (wpCall (pgOf K) n) (pgOf K) (cIfs K fu cc ifs) lm σ Q) :
    wpAny (model prog w) A (tests env ifs) (TP g ρ s Q) NoE s := by
  cases fu with
  | zero => exact h.elim
  | succ m =>
    rcases ifs with _ | ⟨c, _ | ⟨_, _⟩⟩
    · unfold tests; rw [List.forIn_nil]
      exact wpAny_pure ⟨σ, ρ, Like.refl s, Step.refl .., R, h⟩
    · unfold tests; rw [List.forIn_cons]
      refine wpAny_bind ?_
      rw [if_pos rfl]
      refine wpAny_bind (wpAny_mono (IT' m rfl V H L R h) (fun b s' x => wpAny_pure ?_) fun _ _ f => f)
      show wpAny _ _ (forIn [] b _) _ _ _
      rw [List.forIn_nil]; exact wpAny_pure x
    · exact h.elim

structure CX where
  prog : Program
  w : World
  K : Frag
  g : Glb
  n : Nat
  A : Around
  cc : CC
  env : Env
  lm : LM
  I : Addr
  D : Addr
  ys : List PV
  chk : St → Prop
  P : Nat → Rho → Heap → Prop
  T : MT
  E : ME
  Q : List PV → St → Prop
  s₁ : Shared
  ρ₁ : Rho
structure CInv (X : CX) (i : Nat) (s' : Shared) (ρ' : Rho) (σ' : St) (lmx : LM) (acc : List PV) (items : Array Value) : Prop where
  le : i ≤ X.ys.length
  like : Like X.s₁ s'
  st : Step [X.I, X.env.locals, X.D] X.ρ₁ X.s₁.heap ρ' s'.heap
  rel : Rel X.g ρ' σ' s'.heap
  lrel : LRel X.g X.cc X.env ρ' lmx s'.heap
  off : ∀ j, j ≠ 50 → lmx j = X.lm j
  at_ : X.P i ρ' s'.heap
  own : Own1 X.g ρ' s'.heap X.D
  list : s'.heap.PlainList X.D items
  vals : All2 (VR s'.heap ρ') acc items.toList
  small : acc.length ≤ big
  uni : X.I ∉ ρ'.map (·.2)
  wp : compW (wpt (wpCall (pgOf X.K) X.n) (pgOf X.K) X.T) (wpe (wpCall (pgOf X.K) X.n) (pgOf X.K) X.E) 50 X.chk X.lm (X.ys.drop i) acc σ' X.Q
structure CSome (X : CX) (k : Nat) (s' : Shared) : Prop where
  ex : ∃ i ρ' σ' lmx acc items, k = X.ys.length - i ∧ CInv X i s' ρ' σ' lmx acc items

set_option tactic.hygienic true in
theorem upd_off {lmx lm : LM} (h : ∀ j, j ≠ 50 → lmx j = lm j) (v : PV) : upd lmx 50 v = upd lm 50 v := by
  funext j
  unfold upd
  split
  · rfl
  · rename_i hj; exact h j hj

set_option tactic.hygienic true in
theorem comp_loop {X : CX} {x : Str} {sc : Scope} (V : EnvS X.cc X.env) (hx : X.cc.vars.lookup x = some 50) (hk : X.env.kindOf x = some .local)
    (It : Itr X.prog X.w X.A X.g X.I X.ys X.chk X.P) (hI0 : X.g.h₀.get? X.I = none) (hIC : X.I ∉ Xof X.env) (hID : X.I ≠ X.D) (hDC : X.D ∉ Xof X.env)
    {elt iter : Expr} {px : Pos} {ifs : List Expr} {pos : Pos} 
    (hT : ∀ {lm : LM} {σ : St} {s : Shared} {ρ : Rho} {Q : Bool → St → Prop}, LRel X.g X.cc X.env ρ lm s.heap → Rel X.g ρ σ s.heap → wpt (wpCall (pgOf X.K) X.n) (pgOf X.K) X.T lm σ Q → wpAny (model X.prog X.w) X.A (tests X.env ifs) (TP X.g ρ s Q) NoE s)
    (hE : ∀ {lm : LM} {σ : St} {s : Shared} {ρ : Rho} {Q : PV → St → Prop}, LRel X.g X.cc X.env ρ lm s.heap → Rel X.g ρ σ s.heap → wpe (wpCall (pgOf X.K) X.n) (pgOf X.K) X.E lm σ Q → wpAny (model X.prog X.w) X.A (eval elt X.env) (EP X.g ρ s Q) NoE s) {R : Result → Shared → Prop}
    (hR : ∀ s' ρ' σ' lmx acc items, CInv X X.ys.length s' ρ' σ' lmx acc items → X.Q acc σ' → ∀ h' tk, Heap.ExtBut X.I s'.heap h' → R (.ok .next) { s' with heap := h', toks := tk })
    {s : Shared} {ρ' : Rho} {σ' : St} {lmx : LM} {acc : List PV} {items : Array Value} (h : CInv X 0 s ρ' σ' lmx acc items) :
    codeAny (model X.prog X.w) X.A (.compLoop (.ListComp elt [⟨.Name x px, iter, ifs, 0⟩] sc pos) 0 (.ref X.I) (.ref X.D) X.env) R s := by
  refine codeAny_compLoop_tests (CSome X) ?_ X.ys.length ⟨0, ρ', σ', lmx, acc, items, rfl, h⟩
  rintro k s ⟨i, ρ, σ, lmx, acc, items, rfl, J⟩
  have OI : Own1 X.g ρ s.heap X.I := ⟨J.uni, hI0, It.live J.at_⟩
  rcases Nat.lt_or_eq_of_le J.le with hlt | heq
  · have hy : X.ys[i]? = some X.ys[i] := List.getElem?_eq_getElem hlt
    have hd : X.ys.drop i = X.ys[i] :: X.ys.drop (i + 1) := List.drop_eq_getElem_cons hlt
    have hw := J.wp
    rw [hd] at hw
    obtain ⟨hc, hw⟩ := hw
    refine It.item hy J.rel hc J.at_ fun v h₂ tk₂ Vv P₂ hs₂ => ?_
    obtain ⟨S₂, R₂, kv⟩ := J.rel.own1 OI hs₂ (by obtain ⟨o, e, _⟩ := It.live P₂; exact ⟨o, e⟩)
    have OI₂ : Own1 X.g ρ h₂ X.I := ⟨OI.un, OI.h0, It.live P₂⟩
    have L₂ : LRel X.g X.cc X.env ρ lmx h₂ := J.lrel.step J.rel OI.xok (fun a ha q => hIC (List.mem_singleton.mp q ▸ ha)) S₂
    have D₂ : h₂.PlainList X.D items := by obtain ⟨m, e⟩ := J.list; exact ⟨m, (hs₂.2 X.D hID.symm).trans e⟩
    have OD₂ := J.own.step S₂ (by simpa using hID.symm)
    refine wpAny_assign_Name (store_sound (s := { s with heap := h₂, toks := tk₂ }) V R₂ L₂ hx (kv _ _ Vv) fun s₃ a ha hal l₃ S₃ R₃ L₃ V₃ => ?_)
    have hal := hal hk
    subst hal
    rw [upd_off J.off] at L₃
    have hIC' : X.I ≠ X.env.locals := fun q => hIC (q ▸ X_loc X.env)
    have hDC' : X.D ≠ X.env.locals := fun q => hDC (q ▸ X_loc X.env)
    have xC : Xok [X.env.locals] ρ h₂ := fun b hb => by rw [List.mem_singleton.mp hb]; exact L₂.live (X_loc X.env)
    have P₃ : X.P (i + 1) ρ s₃.heap := by
      have := It.frame (δ := []) P₂ (fun o e => S₃.keep X.I o e OI₂.un (by simpa using hIC')) (R₂.tupKeep xC S₃)
      rwa [List.append_nil] at this
    have OI₃ : Own1 X.g ρ s₃.heap X.I := ⟨OI.un, OI.h0, It.live P₃⟩
    have OD₃ := OD₂.step S₃ (by simpa using hDC')
    have D₃ : s₃.heap.PlainList X.D items := by obtain ⟨m, e⟩ := D₂; exact ⟨m, S₃.keep X.D _ e OD₂.un (by simpa using hDC')⟩
    have T₃ : Step [X.I, X.env.locals, X.D] X.ρ₁ X.s₁.heap ρ s₃.heap := J.st.trans ((S₂.weak (by simp)).trans (S₃.weak (by simp)))
    have A₃ : All2 (VR s₃.heap ρ) acc items.toList := J.vals.mono fun _ _ r => (kv _ _ r).step R₂ xC S₃
    have l₃' : Like X.s₁ s₃ := J.like.trans ((Like.mk s h₂ tk₂).trans l₃)
    -- a step of an expression within
    have within : ∀ {ρ₄ : Rho} {σ₄ : St} {s₄ : Shared}, Step [] ρ s₃.heap ρ₄ s₄.heap → Rel X.g ρ₄ σ₄ s₄.heap → LRel X.g X.cc X.env ρ₄ (upd X.lm 50 X.ys[i]) s₄.heap ∧ X.P (i + 1) ρ₄ s₄.heap ∧ Own1 X.g ρ₄ s₄.heap X.I ∧ Own1 X.g ρ₄ s₄.heap X.D ∧ s₄.heap.PlainList X.D items ∧ All2 (VR s₄.heap ρ₄) acc items.toList := by
      intro ρ₄ σ₄ s₄ S R₄
      have P₄ : X.P (i + 1) ρ₄ s₄.heap := by
        obtain ⟨δ, rfl, _⟩ := S.ext
        exact It.frame P₃ (fun o e => S.keep X.I o e OI₃.un (by simp)) (R₃.tupKeep xok_nil S)
      exact ⟨L₃.step0 R₃ S, P₄, OI₃.step S (by simp), OD₃.step S (by simp), by obtain ⟨m, e⟩ := D₃; exact ⟨m, S.keep X.D _ e OD₃.un (by simp)⟩, A₃.mono fun _ _ r => r.step R₃ xok_nil S⟩
    refine wpAny_mono (hT L₃ R₃ hw) (fun b s₄ x => ?_) fun _ _ f => f.elim
    obtain ⟨σ₄, ρ₄, l₄, S₄, R₄, q⟩ := x
    obtain ⟨L₄, P₄, OI₄, OD₄, D₄, A₄⟩ := within S₄ R₄
    cases b
    · refine ⟨X.ys.length - (i + 1), by (first | lia | omega), i + 1, ρ₄, σ₄, _, acc, items, rfl, ⟨hlt, l₃'.trans l₄, T₃.trans S₄.nil, R₄, L₄, fun j hj => by unfold upd; rw [if_neg hj], P₄, OD₄, D₄, A₄, J.small, OI₄.un, q⟩⟩
    · refine wpAny_mono (hE L₄ R₄ q) (fun u s₅ x => ?_) fun _ _ f => f.elim
      obtain ⟨pv, σ₅, ρ₅, l₅, S₅, R₅, V₅, hb, q⟩ := x
      obtain ⟨L₅, P₅, OI₅, OD₅, D₅, A₅⟩ := within (S₄.trans S₅) R₅
      refine wpAny_list_append_plain (hsz := by have := A₅.length; unfold big at hb; rw [sizeLine_eq]; simp at this; (first | lia | omega)) D₅ fun h₆ D₆ hs₆ => ?_
      obtain ⟨S₆, R₆, kv₆⟩ := R₅.own1 OD₅ hs₆ (by obtain ⟨m, e⟩ := D₆; exact ⟨_, e⟩)
      have L₆ : LRel X.g X.cc X.env ρ₅ (upd X.lm 50 X.ys[i]) h₆ := L₅.step R₅ OD₅.xok (fun a ha q => hDC (List.mem_singleton.mp q ▸ ha)) S₆
      have P₆ : X.P (i + 1) ρ₅ h₆ := by
        have := It.frame (δ := []) P₅ (fun o e => S₆.keep X.I o e OI₅.un (by simpa using hID)) (R₅.tupKeep OD₅.xok S₆)
        rwa [List.append_nil] at this
      have OD₆ : Own1 X.g ρ₅ h₆ X.D := by obtain ⟨m, e⟩ := D₆; exact OD₅.set e .list
      refine ⟨X.ys.length - (i + 1), by (first | lia | omega), i + 1, ρ₅, σ₅, _, acc ++ [pv], items.push u, rfl, ⟨hlt, (l₃'.trans l₄).trans (l₅.trans (Like.hp s₅ h₆)), (T₃.trans (S₄.trans S₅).nil).trans (S₆.weak (by simp)), R₆, L₆, fun j hj => by unfold upd; rw [if_neg hj], P₆, OD₆, D₆, ?_, by simp; (first | lia | omega), OI₅.un, q⟩⟩
      rw [Array.toList_push]
      exact (A₅.mono fun _ _ r => kv₆ _ _ r).snoc (kv₆ _ _ V₅)
  · subst heq
    have hw := J.wp
    rw [List.drop_length] at hw
    exact It.done J.rel hw.1 J.at_ fun h' tk he => hR s ρ σ lmx acc items J hw.2 h' tk he
end
end
section
open PySem PySem.W PyProof.Rows
section
variable {prog : Program} {w : World} {K : Frag} {g : Glb} {n fu : Nat} {cc : CC} {env : Env} {lm : LM} {σ : St} {A : Around} {s : Shared} {ρ : Rho} {Q : PV → St → Prop}

structure CStart (g : Glb) (cc : CC) (env cenv : Env) (x : Str) (sc : Scope) (lm : LM) (s : Shared) (ρ : Rho) (I D : Addr) (s₄ : Shared) (ρ₁ : Rho) (σ₁ : St) : Prop where
  like : Like s s₄
  st : Step [] ρ s.heap ρ₁ s₄.heap
  rel : Rel g ρ₁ σ₁ s₄.heap
  envs : EnvS (cc.inner x sc) cenv
  lrel : LRel g (cc.inner x sc) cenv ρ₁ (fun i => if i = 50 then none else lm i) s₄.heap
  I0 : g.h₀.get? I = none
  Is : s.heap.get? I = none
  IC : I ∉ Xof cenv
  ID : I ≠ D
  DC : D ∉ Xof cenv
  D0 : Own1 g ρ₁ s₄.heap D
  Ds : s.heap.get? D = none
  C0 : Own1 g ρ₁ s₄.heap cenv.locals
  Cs : s.heap.get? cenv.locals = none

theorem cells_X {cl : List (Str × Addr)} {sc : Scope} {C a : Addr} (hcl : ∀ x c, cl.lookup x = some c → env.cells.lookup x = some c) (h : a ∈ Xof (compEnvC sc cl C env)) : a = C ∨ ∃ x, env.cells.lookup x = some a ∧ cl.lookup x = some a := by
  rcases mem_X h with h | ⟨x, hx⟩
  · exact .inl h
  · exact .inr ⟨x, hcl x a hx, hx⟩

theorem comp_start (V : EnvS cc env) (L : LRel g cc env ρ lm s.heap) (R : Rel g ρ σ s.heap) {x : Str} {sc : Scope} (O : CompOk cc x sc) {cl : List (Str × Addr)} (hcl : ∀ x c, cl.lookup x = some c → env.cells.lookup x = some c)
    (hfr : ∀ p ∈ sc.names, p.2 = .free → ∃ c, cl.lookup p.1 = some c) {s₂ : Shared} {ρ₁ : Rho} {σ₁ : St} {I : Addr} (l : Like s s₂) (S : Step [] ρ s.heap ρ₁ s₂.heap) (R₂ : Rel g ρ₁ σ₁ s₂.heap) (hIs : s.heap.get? I = none) (hIo : I ∉ ρ₁.map (·.2)) (hIl : ∃ o, s₂.heap.get? I = some o ∧ NotT o)
    {o₀ : Obj} (hn₀ : NotT o₀) (hf₀ : o₀.isFreed = false) {h₁ : Heap} {m : Str → Option Value} {oC : Obj} (hns : h₁.Ns ((s₂.heap.push o₀).objs.size) m) (hsb : Heap.SameBut ((s₂.heap.push o₀).objs.size) ((s₂.heap.push o₀).push oC) h₁) (hm : ∀ y, m y = none) (tk : Nat) :
    CStart g cc env (compEnvC sc cl ((s₂.heap.push o₀).objs.size) env) x sc lm s ρ I s₂.heap.objs.size { s₂ with heap := h₁, toks := tk } ρ₁ σ₁ ∧ (∀ b o, s₂.heap.get? b = some o → h₁.get? b = some o) ∧ h₁.get? s₂.heap.objs.size = some o₀ := by
  have hC : (s₂.heap.push o₀).objs.size = s₂.heap.objs.size + 1 := Heap.size_push ..
  generalize (s₂.heap.push o₀).objs.size = C at *
  have below : ∀ b o, s₂.heap.get? b = some o → b ≠ C := fun b o e q => by
    have := Heap.lt_size e
    rw [q, hC] at this
    exact absurd (Nat.lt_of_succ_lt this) (Nat.lt_irrefl _)
  have old : ∀ b o, s₂.heap.get? b = some o → h₁.get? b = some o := fun b o e => (hsb.2 b (below b o e)).trans (Heap.get?_push_of_some _ (Heap.get?_push_of_some _ e))
  have hDC : s₂.heap.objs.size ≠ C := by rw [hC]; exact Nat.ne_of_lt (Nat.lt_succ_self _)
  have hD : h₁.get? s₂.heap.objs.size = some o₀ := (hsb.2 _ hDC).trans (Heap.get?_push_of_some _ (Heap.get?_push_size _ hf₀))
  have fC2 : s₂.heap.get? C = none := by
    cases e : s₂.heap.get? C with
    | none => rfl
    | some o => exact absurd rfl (below C o e)
  have fD2 : s₂.heap.get? s₂.heap.objs.size = none := new_none _
  have fs : ∀ a, s₂.heap.get? a = none → s.heap.get? a = none := fun a e => by
    cases q : s.heap.get? a with
    | none => rfl
    | some o => obtain ⟨o', e'⟩ := S.live _ _ q; rw [e] at e'; cases e'
  have fρ : ∀ a, s₂.heap.get? a = none → a ∉ ρ₁.map (·.2) := fun a e q => by obtain ⟨o, e', _⟩ := R₂.owned q; rw [e] at e'; cases e'
  have S₁ : Step [] ρ s.heap ρ₁ h₁ := S.trans (Step.grow old)
  have L₁ : LRel g cc env ρ₁ lm h₁ := L.step0 R S₁
  obtain ⟨oI, hI, hIn⟩ := hIl
  have hXC : ∀ x c, env.cells.lookup x = some c → c ≠ C := fun x c e q => by
    obtain ⟨o, ho, _⟩ := L.live (X_cell e)
    rw [q, fs C fC2] at ho; cases ho
  have hXD : ∀ x c, env.cells.lookup x = some c → c ≠ s₂.heap.objs.size := fun x c e q => by
    obtain ⟨o, ho, _⟩ := L.live (X_cell e)
    rw [q, fs _ fD2] at ho; cases ho
  have hXI : ∀ x c, env.cells.lookup x = some c → c ≠ I := fun x c e q => by
    obtain ⟨o, ho, _⟩ := L.live (X_cell e)
    rw [q, hIs] at ho; cases ho
  have hnC : ∃ o, h₁.get? C = some o ∧ NotT o := by obtain ⟨o, es, ep, ho, hd, _⟩ := hns; exact ⟨o, ho, NotT.dict hd⟩
  refine ⟨⟨l.trans (Like.mk s₂ h₁ tk), S₁, R₂.grow old, inner_env V O hcl hfr hXC, ⟨⟨m, hns, fun y i v hy hv hk => ?_⟩, fun y c hc => ?_, fun a ha => ?_⟩, R.fresh hIs, hIs, fun q => ?_, fun q => ?_, fun q => ?_, ⟨fρ _ fD2, R₂.fresh fD2, _, hD, hn₀⟩, fs _ fD2, ⟨fρ _ fC2, R₂.fresh fC2, hnC⟩, fs _ fC2⟩, old, hD⟩
  · rcases inner_var hy with ⟨rfl, rfl⟩ | ⟨hy', h1, h2⟩
    · simp at hv
    · have hm := lk_mem h2
      rw [inner_kind V, h2] at hk
      have hcell : cc.names.lookup y = some .cell := by
        rcases O.names _ hm with h | h | h
        · cases h.1
        · cases h
        · exact h.2.1
      simp [hcell] at hk
  · obtain ⟨o, hi, hm'⟩ := L₁.cell y c (hcl y c hc)
    refine ⟨o, hi, fun i v hy hv hk => ?_⟩
    rcases inner_var hy with ⟨rfl, rfl⟩ | ⟨hy', h1, h2⟩
    · simp at hv
    · have hcell : cc.names.lookup y = some .cell := by
        rcases O.names _ (lk_mem h2) with h | h | h
        · cases h.1
        · cases h
        · exact h.2.1
      split at hv
      · cases hv
      · exact hm' i v h1 hv ((V.nm y).trans hcell)
  · rcases cells_X hcl ha with rfl | ⟨y, hy, _⟩
    · exact ⟨fρ _ fC2, R₂.fresh fC2⟩
    · exact L₁.own a (X_cell hy)
  · rcases cells_X hcl q with rfl | ⟨y, hy, _⟩
    · rw [fC2] at hI; cases hI
    · exact hXI y _ hy rfl
  · rw [q] at hI; rw [fD2] at hI; cases hI
  · rcases cells_X hcl q with e | ⟨y, hy, _⟩
    · exact hDC e
    · exact hXD y _ hy rfl

theorem Step.snoc {h h' : Heap} {ρ' : Rho} {p : Addr × Addr} (S : Step [] ρ h ρ' h') (hp : h.get? p.2 = none) : Step [] ρ h (ρ' ++ [p]) h' := by
  obtain ⟨⟨δ, rfl, hδ⟩, l, k⟩ := S
  refine ⟨⟨δ ++ [p], by rw [List.append_assoc], fun q hq => ?_⟩, l, k⟩
  rcases List.mem_append.mp hq with hq | hq
  · exact hδ q hq
  · rw [List.mem_singleton.mp hq]; exact hp

theorem E_comp (IH : ESnd prog w K g n fu) (IT' : ∀ m, fu = m + 1 → TSnd prog w K g n m) (II : ISnd prog w K g n fu) (V : EnvS cc env) (H : Room (n + 1) A) (L : LRel g cc env ρ lm s.heap) (R : Rel g ρ σ s.heap) {elt iter : Expr} {x : Str} {px : Pos} {ifs : List Expr} {sc : Scope} {pos : Pos} (hO : cc.compOk x sc = true)
    (h : wpe (wpCall (pgOf K) n) (pgOf K) (.comp (cE K fu (cc.inner x sc) elt) 50 (cI K fu cc iter) (cIfs K fu (cc.inner x sc) ifs)) lm σ Q) :
    wpAny (model prog w) A (eval (.ListComp elt [⟨.Name x px, iter, ifs, 0⟩] sc pos) env) (EP g ρ s Q) NoE s := by
  have O := compOk_of hO
  have hfree : ∀ p ∈ sc.names, p.2 = .free → ∃ c, env.cells.lookup p.1 = some c := fun p hp hf => by
    rcases O.names p hp with h | h | h
    · rw [hf] at h; cases h.1
    · rw [hf] at h; cases h
    · exact V.cc p.1 ((V.nm p.1).trans h.2.1)
  obtain ⟨cl, hclos, hcl, hfr⟩ := closure_ok hfree
  have hcell : ∀ y ∈ sc.names, y.2 ≠ .cell := fun p hp hf => by
    rcases O.names p hp with h | h | h
    · rw [hf] at h; cases h.1
    · rw [hf] at h; cases h
    · rw [hf] at h; cases h.1
  have hnames : ∀ y ∈ sc.names, y.2 = .local → sc.names.lookup y.1 = some .local := fun p hp hf => by
    rcases O.names p hp with h | h | h
    · exact h.2
    · rw [hf] at h; cases h
    · rw [hf] at h; cases h.1
  obtain ⟨hs, hi⟩ := II V H L R h
  rw [eval_ListComp]
  refine wpAny_comprehension_free (use := none) rfl hs hclos O.kind hnames (wpAny_mono hi (fun xv s₁ x₁ => wpAny_mono x₁ (fun it s₂ x₂ => ?_) fun _ _ f => f) fun _ _ f => f)
  obtain ⟨I, ys, chk, P, σ₁, ρ₁, rfl, It, P0, l, S, R₂, hIs, hIo, q⟩ := x₂
  refine wpAny_newObj_type (wpAny_newFunctionEnv hcell (by intro y hy; simp at hy) (fun h₁ hns hsb => ?_) O.kind)
  obtain ⟨X, old, hD⟩ := comp_start V L R O hcl hfr l S R₂ hIs hIo (It.live P0) (o₀ := lstObj #[] 0) .list rfl hns hsb (fun _ => rfl) (s₂.toks + 0)
  have P1 : P 0 ρ₁ h₁ := by
    have := It.frame (δ := []) P0 (fun o e => old I o e) (fun a its n e => old a _ e)
    rwa [List.append_nil] at this
  have hCI : I ≠ (s₂.heap.push (lstObj #[] 0)).objs.size := fun q => X.IC (q ▸ X_loc (compEnvC sc cl ((s₂.heap.push (lstObj #[] 0)).objs.size) env))
  have hCD : s₂.heap.objs.size ≠ (s₂.heap.push (lstObj #[] 0)).objs.size := fun q => X.DC (q ▸ X_loc (compEnvC sc cl ((s₂.heap.push (lstObj #[] 0)).objs.size) env))
  have loop : ∀ s₃ : Shared, s₃ = { s₂ with heap := h₁, toks := s₂.toks + ([] : List (Str × Value)).length } →
      codeAny (model prog w) A (.compLoop (.ListComp elt [⟨.Name x px, iter, ifs, 0⟩] sc pos) 0 (.ref I) (.ref s₂.heap.objs.size) (compEnvC sc cl ((s₂.heap.push (lstObj #[] 0)).objs.size) env))
        (compPost (model prog w) A NoE none (EP g ρ s Q) (.ref s₂.heap.objs.size) ((s₂.heap.push (lstObj #[] 0)).objs.size)) s₃ := by
    rintro s₃ rfl
    refine comp_loop (X := ⟨prog, w, K, g, n, A, cc.inner x sc, compEnvC sc cl ((s₂.heap.push (lstObj #[] 0)).objs.size) env, lm, I, s₂.heap.objs.size, ys, chk, P, cIfs K fu (cc.inner x sc) ifs, cE K fu (cc.inner x sc) elt, fun vs σ => Q (.obj σ.length) (σ ++ [AObj.list vs]), { s₂ with heap := h₁, toks := s₂.toks + ([] : List (Str × Value)).length }, ρ₁⟩) X.envs (by show List.lookup _ ((x, 50) :: _) = _; rw [List.lookup_cons]; simp) ?_ It X.I0 X.IC X.ID X.DC (fun L R h => tests_sound IT' X.envs H L R h) (fun L R h => IH X.envs H L R h) ?_
      (ρ' := ρ₁) (σ' := σ₁) (lmx := fun i => if i = 50 then none else lm i) (acc := []) (items := #[])
      ⟨Nat.zero_le _, Like.refl _, Step.refl .., X.rel, X.lrel, fun j hj => by simp [hj], P1, X.D0, ⟨0, hD⟩, trivial, Nat.zero_le _, hIo, q⟩
    · rw [inner_kind V, O.hx]; rfl
    · intro s' ρ' σ' lmx acc items J qa h' tk he
      have OI : Own1 g ρ' s'.heap I := ⟨J.uni, X.I0, It.live J.at_⟩
      have OC : Own1 g ρ' s'.heap ((s₂.heap.push (lstObj #[] 0)).objs.size) := ⟨(J.lrel.own _ (X_loc _)).1, (J.lrel.own _ (X_loc _)).2, J.lrel.live (X_loc _)⟩
      obtain ⟨m, hn, _⟩ := J.lrel.ns
      refine ⟨m, hn.at' fun o e => he _ o hCI.symm e, fun h3 hs3 => ?_⟩
      have k3 : ∀ a o, a ∉ [I, (s₂.heap.push (lstObj #[] 0)).objs.size] → s'.heap.get? a = some o → h3.get? a = some o := fun a o hn e => by
        simp only [List.mem_cons, List.not_mem_nil, or_false, not_or] at hn
        exact (hs3.2 a hn.2).trans (he a o hn.1 e)
      obtain ⟨R3, kt⟩ := J.rel.away (Y := [I, (s₂.heap.push (lstObj #[] 0)).objs.size]) (fun a ha => by
        rcases List.mem_cons.mp ha with rfl | ha
        · exact OI.aw
        · rw [List.mem_singleton.mp ha]; exact OC.aw) k3
      obtain ⟨c, hc⟩ := J.list
      have hc3 : h3.get? s₂.heap.objs.size = some (lstObj items c) := k3 _ _ (by simp only [List.mem_cons, List.not_mem_nil, or_false, not_or]; exact ⟨X.ID.symm, hCD⟩) hc
      have S3 : Step [] ρ s.heap ρ' h3 := ((X.st.nil (X := [I, (s₂.heap.push (lstObj #[] 0)).objs.size, s₂.heap.objs.size])).trans J.st).fin (fun a ha => by
        simp only [List.mem_cons, List.not_mem_nil, or_false] at ha
        rcases ha with rfl | rfl | rfl
        · exact X.Is
        · exact X.Cs
        · exact X.Ds) fun a o hn e => k3 a o (fun q => hn (by
            rcases List.mem_cons.mp q with rfl | q
            · exact List.mem_cons_self
            · rw [List.mem_singleton.mp q]; simp)) e
      have V3 : All2 (VR h3 ρ') acc items.toList := J.vals.mono fun _ _ r => by
        have := r.mono (δ := []) kt
        rwa [List.append_nil] at this
      refine ⟨.obj σ'.length, σ' ++ [.list acc], ρ' ++ [(s₂.heap.objs.size, s₂.heap.objs.size)], ?_, S3.snoc X.Ds, R3.alloc X.D0.h0 J.own.un (R₂.ne_mods (Nat.le_refl _)) (orel_list hc3 V3 J.small), .obj (d := s₂.heap.objs.size) (by rw [← R3.len]; simp), qa⟩
      exact (X.like.trans J.like).trans (Like.mk s' h3 tk)
  exact codeAny_compStart_list (loop _ rfl) (It.self (s := { s₂ with heap := h₁, toks := s₂.toks + ([] : List (Str × Value)).length }) P1 (loop _ rfl))
end
end
section
open PySem PySem.W PyProof.Rows
section
variable {prog : Program} {w : World} {K : Frag} {g : Glb} {n fu : Nat}

set_option tactic.hygienic true in
theorem idx_of {i : Expr} (h : notSlice i = true) : (∀ x y, subscripted i false x y = operate [x, y] (getItem x y)) ∧ ∀ ov iv new, augStore i ov iv new = (do holding [new, ov, iv] (setItem ov iv new); release [new, ov, iv] []; pure .next) := by
  cases i <;> first | exact ⟨fun _ _ => rfl, fun _ _ _ => rfl⟩ | exact noB h
theorem E_sub (hw : g.w = w) (IH : ESnd prog w K g n fu) (IH' : ∀ m, fu = m + 1 → ESnd prog w K g n m) {cc : CC} {env : Env} {lm : LM} {σ : St} {A : Around} {s : Shared} {ρ : Rho} {Q : PV → St → Prop} (V : EnvS cc env) (H : Room (n + 1) A) (L : LRel g cc env ρ lm s.heap) (R : Rel g ρ σ s.heap)
    {o i : Expr} {pos : Pos} (h : wpe (wpCall (pgOf K) n) (pgOf K) (cSub o i (cE K fu cc) (cO K fu cc)) lm σ Q) : wpAny (model prog w) A (eval (.Subscript o i pos) env) (EP g ρ s Q) NoE s := by
  unfold cSub at h
  by_cases hs : notSlice i = true
  · rw [if_pos hs] at h; exact E_idx hw IH V H L R (idx_of hs).1 h
  · rw [if_neg hs] at h
    revert h
    cases sv i with
    | slice lo hi st p => exact fun h => E_slice IH IH' V H L R h
    | _ => exact fun h => h.elim
theorem E_call (hw : g.w = w) (B : Base K g) (C : CSound prog w K g n) (IH : ESnd prog w K g n fu) {cc : CC} {env : Env} {lm : LM} {σ : St} {A : Around} {s : Shared} {ρ : Rho} {Q : PV → St → Prop} (V : EnvS cc env) (H : Room (n + 1) A) (L : LRel g cc env ρ lm s.heap) (R : Rel g ρ σ s.heap)
    {f : Expr} {args : List Expr} {kws : List Keyword} {pos : Pos} (h : wpe (wpCall (pgOf K) n) (pgOf K) (cCall K cc f args kws pos (cE K fu cc)) lm σ Q) : wpAny (model prog w) A (eval (.Call f args kws pos) env) (EP g ρ s Q) NoE s := by
  cases kws with
  | cons => exact h.elim
  | nil =>
    revert h
    show wpe _ _ (match sv f with | .attr o m ap => _ | .name g _ => _ | _ => _) _ _ _ → _
    cases sv f with
    | attr o m ap => exact fun h => E_callA hw B C IH V H L R h
    | name f p => exact fun h => E_callN hw B C IH V H L R h
    | _ => exact fun h => h.elim
theorem E_lc (IH : ESnd prog w K g n fu) (IT' : ∀ m, fu = m + 1 → TSnd prog w K g n m) (II : ISnd prog w K g n fu) {cc : CC} {env : Env} {lm : LM} {σ : St} {A : Around} {s : Shared} {ρ : Rho} {Q : PV → St → Prop} (V : EnvS cc env) (H : Room (n + 1) A) (L : LRel g cc env ρ lm s.heap) (R : Rel g ρ σ s.heap)
    {elt : Expr} {gens : List Comprehension} {sc : Scope} {pos : Pos} (h : wpe (wpCall (pgOf K) n) (pgOf K) (cComp cc elt gens sc (fun c e => cE K fu c e) (cI K fu cc) (fun c l => cIfs K fu c l)) lm σ Q) :
    wpAny (model prog w) A (eval (.ListComp elt gens sc pos) env) (EP g ρ s Q) NoE s := by
  match gens, h with
  | [⟨t, it, ifs, as⟩], h =>
    replace h : wpe (wpCall (pgOf K) n) (pgOf K) (if as = 0 then cCompN cc elt t it ifs sc (fun c e => cE K fu c e) (cI K fu cc) (fun c l => cIfs K fu c l) else .stuck) lm σ Q := h
    by_cases ha : as = 0
    · rw [if_pos ha] at h
      subst ha
      revert h
      unfold cCompN
      cases sv t with
      | name x px =>
        intro h
        replace h : wpe (wpCall (pgOf K) n) (pgOf K) (if cc.compOk x sc = true then .comp (cE K fu (cc.inner x sc) elt) 50 (cI K fu cc it) (cIfs K fu (cc.inner x sc) ifs) else .stuck) lm σ Q := h
        by_cases hO : cc.compOk x sc = true
        · rw [if_pos hO] at h; exact E_comp IH IT' II V H L R hO h
        · rw [if_neg hO] at h; exact h.elim
      | _ => exact fun h => h.elim
    · rw [if_neg ha] at h; exact h.elim

set_option tactic.hygienic true in
theorem E_step (hw : g.w = w) (B : Base K g) (C : CSound prog w K g n) (IH : ESnd prog w K g n fu) (IT : TSnd prog w K g n fu) (II : ISnd prog w K g n fu) (IH' : ∀ m, fu = m + 1 → ESnd prog w K g n m) (IT' : ∀ m, fu = m + 1 → TSnd prog w K g n m) :
    ESnd prog w K g n (fu + 1) := by
  intro cc env e lm σ Q A s ρ V H L R h
  cases e
  case Constant c k pos => exact E_const R h
  case Name x pos => exact E_name B V L R h
  case UnaryOp op x pos => exact E_neg R h
  case BinOp l op r pos => exact E_bin IH V H L R h
  case Tuple es k pos => exact E_tup IH V H L R h
  case List es pos => exact E_list IH V H L R h
  case Dict ks vs pos => exact E_dict R h
  case IfExp t a b pos => exact E_ite IH IT V H L R h
  case BoolOp op es pos =>
    cases op
    · exact h.elim
    · rcases es with _ | ⟨a, _ | ⟨b, _ | ⟨_, _⟩⟩⟩ <;> try exact h.elim
      exact E_or IH V H L R h
  case Compare l ops rs pos =>
    obtain ⟨op, r, rfl, rfl, h⟩ := cmp_inv (show wpe _ _ (cCmp l ops rs (cE K fu cc)) lm σ Q from h)
    have x := cmp_parts hw IH V H L R h
    exact wpAny_Compare1 x.2 x.1
  case Attribute o a pos => exact E_attr B IH V H L R h
  case Subscript o i pos => exact E_sub hw IH IH' V H L R h
  case Call f args kws pos => exact E_call hw B C IH V H L R h
  case ListComp elt gens sc pos => exact E_lc IH IT' II V H L R h
  all_goals exact h.elim

theorem E_zero : ESnd prog w K g n 0 := fun _ _ _ _ h => h.elim
theorem T_zero : TSnd prog w K g n 0 := fun _ _ _ _ h => h.elim
theorem I_zero : ISnd prog w K g n 0 := fun _ _ _ _ h => h.elim

theorem EI_all (hw : g.w = w) (B : Base K g) (C : CSound prog w K g n) (fu : Nat) : ∀ m, m ≤ fu → ESnd prog w K g n m ∧ TSnd prog w K g n m ∧ ISnd prog w K g n m := by
  induction fu with
  | zero => intro m hm; obtain rfl := Nat.le_zero.mp hm; exact ⟨E_zero, T_zero, I_zero⟩
  | succ k ih =>
    intro m hm
    rcases Nat.lt_or_eq_of_le hm with h | rfl
    · exact ih m (Nat.lt_succ_iff.mp h)
    · have hk := ih k (Nat.le_refl _)
      have IH' : ∀ m, k = m + 1 → ESnd prog w K g n m := fun m e => (ih m (by (first | lia | omega))).1
      have IT' : ∀ m, k = m + 1 → TSnd prog w K g n m := fun m e => (ih m (by (first | lia | omega))).2.1
      exact ⟨E_step hw B C hk.1 hk.2.1 hk.2.2 IH' IT', T_step hw hk.1 IH' hk.2.1, I_step B hk.1⟩
theorem E_all (hw : g.w = w) (B : Base K g) (C : CSound prog w K g n) (fu : Nat) : ESnd prog w K g n fu := (EI_all hw B C fu fu (Nat.le_refl _)).1
theorem T_all (hw : g.w = w) (B : Base K g) (C : CSound prog w K g n) (fu : Nat) : TSnd prog w K g n fu := (EI_all hw B C fu fu (Nat.le_refl _)).2.1
theorem I_all (hw : g.w = w) (B : Base K g) (C : CSound prog w K g n) (fu : Nat) : ISnd prog w K g n fu := (EI_all hw B C fu fu (Nat.le_refl _)).2.2
end
end
section
open PySem PySem.W PyProof.Rows

noncomputable def FlR (h : Heap) (ρ : Rho) : Fl → Flow → Prop
  | .next, .next => True
  | .ret v, .ret u => VR h ρ v u
  | _, _ => False
inductive SP (g : Glb) (cc : CC) (env : Env) (ρ : Rho) (s : Shared) (Q : SQ) (f : Flow) (s' : Shared) : Prop
  | mk (fl : Fl) (lm' : LM) (σ' : St) (ρ' : Rho) (l : Like s s') (S : Step (Xof env) ρ s.heap ρ' s'.heap) (R : Rel g ρ' σ' s'.heap) (L : LRel g cc env ρ' lm' s'.heap) (F : FlR s'.heap ρ' fl f) (q : Q fl lm' σ')
inductive AP (g : Glb) (cc : CC) (env : Env) (ρ : Rho) (s : Shared) (Q : LM → St → Prop) (s' : Shared) : Prop
  | mk (lm' : LM) (σ' : St) (ρ' : Rho) (l : Like s s') (S : Step (Xof env) ρ s.heap ρ' s'.heap) (R : Rel g ρ' σ' s'.heap) (L : LRel g cc env ρ' lm' s'.heap) (q : Q lm' σ')

section
variable {prog : Program} {w : World} {K : Frag} {g : Glb} {n fu : Nat} {cc : CC} {env : Env} {lm : LM} {σ : St} {A : Around} {s : Shared} {ρ : Rho}

theorem SP.trans {Q : SQ} {f : Flow} {ρ' : Rho} {s' s'' : Shared} (l : Like s s') (S : Step (Xof env) ρ s.heap ρ' s'.heap) (x : SP g cc env ρ' s' Q f s'') : SP g cc env ρ s Q f s'' := by
  obtain ⟨fl, lm', σ', ρ'', l', S', R', L', F', q⟩ := x
  exact ⟨fl, lm', σ', ρ'', l.trans l', S.trans S', R', L', F', q⟩
theorem AP.trans {Q : LM → St → Prop} {ρ' : Rho} {s' s'' : Shared} (l : Like s s') (S : Step (Xof env) ρ s.heap ρ' s'.heap) (x : AP g cc env ρ' s' Q s'') : AP g cc env ρ s Q s'' := by
  obtain ⟨lm', σ', ρ'', l', S', R', L', q⟩ := x
  exact ⟨lm', σ', ρ'', l.trans l', S.trans S', R', L', q⟩
set_option tactic.hygienic true in
theorem SP.next {Q : SQ} {s' : Shared} (x : AP g cc env ρ s (fun lm σ => Q .next lm σ) s') : SP g cc env ρ s Q .next s' := by
  obtain ⟨lm', σ', ρ', l, S, R, L, q⟩ := x
  exact ⟨.next, lm', σ', ρ', l, S, R, L, trivial, q⟩
theorem SP.here {Q : SQ} {fl : Fl} {f : Flow} (R : Rel g ρ σ s.heap) (L : LRel g cc env ρ lm s.heap) (F : FlR s.heap ρ fl f) (q : Q fl lm σ) : SP g cc env ρ s Q f s := ⟨fl, lm, σ, ρ, Like.refl s, Step.refl .., R, L, F, q⟩

theorem setEnd {t : Sem Unit} {P : Shared → Prop} {vs keep : List Value} (h : wpAny (model prog w) A t (fun _ => P) NoE s) : wpAny (model prog w) A (t >>= fun _ => release vs keep) (fun _ => P) NoE s :=
  wpAny_bind (wpAny_mono h (fun _ _ x => wpAny_release x) fun _ _ f => f)

theorem up_ap {Q : LM → St → Prop} {s' : Shared} (R : Rel g ρ σ s.heap) (L : LRel g cc env ρ lm s.heap) (x : UP g ρ s (fun σ => Q lm σ) s') : AP g cc env ρ s Q s' := by
  obtain ⟨σ', ρ', l, S, R', q⟩ := x
  exact ⟨lm, σ', ρ', l, S.nil, R', L.step0 R S, q⟩

theorem nmIx_inv {e : Expr} {i : Nat} (h : nmIx cc e = some i) : ∃ x p, e = .Name x p ∧ cc.vars.lookup x = some i := by
  revert h
  unfold nmIx
  cases sv e with
  | name x p => exact fun h => ⟨x, p, rfl, h⟩
  | _ => exact fun h => nos h
theorem names_inv {e : Expr} {r : List Expr} {is : List Nat} (h : cNames cc (e :: r) = some is) : ∃ x p i js, e = .Name x p ∧ cc.vars.lookup x = some i ∧ cNames cc r = some js ∧ is = i :: js := by
  obtain ⟨i, hi, h⟩ := Option.bind_eq_some_iff.mp h
  obtain ⟨js, hj, rfl⟩ := Option.map_eq_some_iff.mp h
  obtain ⟨x, p, rfl, hx⟩ := nmIx_inv hi
  exact ⟨x, p, i, js, rfl, hx, hj, rfl⟩
theorem names_pure : ∀ {elts : List Expr} {is : List Nat}, cNames cc elts = some is → (∀ env' : Env, (assignEach elts env').findIdx? (·.1) = none ∧ (assignEach elts env').length = elts.length) ∧ elts.length = is.length
  | [], is, h => by cases h; exact ⟨fun _ => ⟨rfl, rfl⟩, rfl⟩
  | e :: r, is, h => by
    obtain ⟨x, px, i, js, rfl, hi, hj, rfl⟩ := names_inv h
    obtain ⟨a, b⟩ := names_pure hj
    refine ⟨fun env' => ⟨?_, ?_⟩, congrArg (· + 1) b⟩
    · show List.findIdx? _ ((false, assign (.Name x px) env') :: assignEach r env') = none
      rw [List.findIdx?_cons, (a env').1]; rfl
    · exact congrArg (· + 1) (a env').2
theorem asgs_len : ∀ {is : List Nat} {pvs : List PV} {lm lm' : LM}, asgs is pvs lm = some lm' → is.length = pvs.length
  | [], [], _, _, _ => rfl
  | i :: is, v :: pvs, lm, lm', h => congrArg (· + 1) (asgs_len (is := is) (pvs := pvs) (lm := upd lm i v) (lm' := lm') h)
  | [], _ :: _, _, _, h => nos h
  | _ :: _, [], _, _, h => nos h
theorem names_sound (V : EnvS cc env) : ∀ {elts : List Expr} {is : List Nat} {pvs : List PV} {vs : List Value} {lm lm' : LM} {s : Shared} {Q : LM → St → Prop}, cNames cc elts = some is → Rel g ρ σ s.heap → LRel g cc env ρ lm s.heap → All2 (VR s.heap ρ) pvs vs → asgs is pvs lm = some lm' → Q lm' σ →
    wpAny (model prog w) A (assignInOrder ((assignEach elts env).map (·.2)) vs) (fun _ => AP g cc env ρ s Q) NoE s
  | [], is, pvs, vs, lm, lm', s, Q, hn, R, L, W, ha, q => by
    cases hn
    cases pvs with
    | nil => cases ha; exact wpAny_pure ⟨lm, σ, ρ, Like.refl s, Step.refl .., R, L, q⟩
    | cons => exact nos ha
  | e :: r, is, [], vs, lm, lm', s, Q, hn, R, L, W, ha, q => by
    obtain ⟨x, px, i, js, rfl, hi, hj, rfl⟩ := names_inv hn
    exact nos ha
  | e :: r, is, pv :: pvs, [], lm, lm', s, Q, hn, R, L, W, ha, q => W.elim
  | e :: r, is, pv :: pvs, v :: vs, lm, lm', s, Q, hn, R, L, W, ha, q => by
    obtain ⟨x, px, i, js, rfl, hi, hj, rfl⟩ := names_inv hn
    show wpAny _ _ (assignInOrder (assign (.Name x px) env :: (assignEach r env).map (·.2)) (v :: vs)) _ _ _
    unfold assignInOrder
    refine wpAny_bind (wpAny_holding (PyProof.Rows.assign_Name (store_sound V R L hi W.1 fun s₁ a ha' _ l₁ S₁ R₁ L₁ V₁ => ?_)))
    have S₁' : Step (Xof env) ρ s.heap ρ s₁.heap := S₁.weak fun b hb => by rw [List.mem_singleton.mp hb]; exact ha'
    exact wpAny_mono (names_sound (s := s₁) V hj R₁ L₁ (W.2.mono fun _ _ r => r.step R L.xok S₁') ha q) (fun _ _ x => x.trans l₁ S₁') fun _ _ f => f

theorem A_tup (V : EnvS cc env) (H : Room (n + 1) A) (L : LRel g cc env ρ lm s.heap) (R : Rel g ρ σ s.heap) {elts : List Expr} {is : List Nat} {k : Nat} {pos : Pos} {pv : PV} {v : Value} (Vv : VR s.heap ρ pv v) {Q : LM → St → Prop} (hn : cNames cc elts = some is)
    (h : wptg (wpCall (pgOf K) n) (pgOf K) (.tup is) pv lm σ Q) : wpAny (model prog w) A (assign (.Tuple elts k pos) env v) (fun _ => AP g cc env ρ s Q) NoE s := by
  obtain ⟨pvs, a, its, m, rfl, rfl, e, W, hb, lm', ha, h⟩ := tup_two Vv h
  obtain ⟨hst, hlen⟩ := names_pure hn
  show wpAny _ _ (do standAt pos; unpack (.ref a) (assignEach elts env)) _ _ _
  refine wpAny_bind (wpAny_standAt (wpAny_unpack_tuple H.hd (isTuple_of e) (by rw [(hst env).2, hlen, asgs_len ha, size_of W]) (hst env).1 fun h' he => ?_))
  have k : ∀ b o, s.heap.get? b = some o → h'.get? b = some o := fun b o eb => he b o (Nat.ne_of_lt (Heap.lt_size eb)) eb
  exact wpAny_mono (names_sound (s := { s with heap := h' }) V hn (R.grow k) (L.step0 R (Step.grow k)) (W.mono fun _ _ r => by have := vr_grow (δ := []) r k; rwa [List.append_nil] at this) ha h) (fun _ _ x => x.trans (Like.hp s h') (Step.grow k).nil) fun _ _ f => f
theorem A_attr (B : Base K g) (IH : ESnd prog w K g n fu) (V : EnvS cc env) (H : Room (n + 1) A) (L : LRel g cc env ρ lm s.heap) (R : Rel g ρ σ s.heap) {o : Expr} {a : Str} {i : Nat} {pos : Pos} {pv : PV} {v : Value} (Vv : VR s.heap ρ pv v) {Q : LM → St → Prop} (hi : attrId a = some i)
    (h : wptg (wpCall (pgOf K) n) (pgOf K) (.attr (cE K fu cc o) i) pv lm σ Q) : wpAny (model prog w) A (assign (.Attribute o a pos) env v) (fun _ => AP g cc env ρ s Q) NoE s := by
  obtain ⟨rfl, hal⟩ := attrAt_of hi
  show wpAny _ _ (do let ov ← holding [v] (eval o env); standAt pos.atName; holding [v, ov] (setAttr ov (attrAt i) v); release [v, ov] []) _ _ _
  refine wpAny_bind (wpAny_holding (ev R L (IH V H L R h) fun ov u σ₁ ρ₁ s₁ l₁ S₁ R₁ L₁ V₁ h₁ => wpAny_bind (wpAny_standAt ?_)))
  exact wpAny_bind (wpAny_holding (wpAny_mono (setAttr_sound (prog := prog) (w := w) (A := A) B R₁ hal V₁ (Vv.step R xok_nil S₁) h₁) (fun _ _ x => wpAny_release ((up_ap R₁ L₁ x).trans l₁ S₁.nil)) fun _ _ f => f))
theorem A_sub (hw : g.w = w) (IH : ESnd prog w K g n fu) (V : EnvS cc env) (H : Room (n + 1) A) (L : LRel g cc env ρ lm s.heap) (R : Rel g ρ σ s.heap) {o i : Expr} {pos : Pos} {pv : PV} {v : Value} (Vv : VR s.heap ρ pv v) {Q : LM → St → Prop}
    (h : wptg (wpCall (pgOf K) n) (pgOf K) (.idx (cE K fu cc o) (cE K fu cc i)) pv lm σ Q) : wpAny (model prog w) A (assign (.Subscript o i pos) env v) (fun _ => AP g cc env ρ s Q) NoE s := by
  rw [assign_Subscript]
  refine wpAny_bind (wpAny_holding (ev R L (IH V H L R h) fun ov u σ₁ ρ₁ s₁ l₁ S₁ R₁ L₁ V₁ h₁ => wpAny_bind (wpAny_holding (ev R₁ L₁ (IH V H L₁ R₁ h₁) fun iv x σ₂ ρ₂ s₂ l₂ S₂ R₂ L₂ V₂ h₂ => wpAny_bind (wpAny_standAt ?_)))))
  exact wpAny_bind (wpAny_holding (wpAny_mono (setIdx_sound (prog := prog) (A := A) H hw R₂ (V₁.step R₁ xok_nil S₂) V₂ (Vv.step R xok_nil (S₁.trans S₂)) h₂) (fun _ _ x => wpAny_release ((up_ap R₂ L₂ x).trans (l₁.trans l₂) (S₁.trans S₂).nil)) fun _ _ f => f))
theorem A_sound (hw : g.w = w) (B : Base K g) (IH : ESnd prog w K g n fu) (V : EnvS cc env) (H : Room (n + 1) A) (L : LRel g cc env ρ lm s.heap) (R : Rel g ρ σ s.heap) {t : Expr} {pv : PV} {v : Value} (Vv : VR s.heap ρ pv v) {Q : LM → St → Prop}
    (h : wptg (wpCall (pgOf K) n) (pgOf K) (cTG K fu cc t) pv lm σ Q) : wpAny (model prog w) A (assign t env v) (fun _ => AP g cc env ρ s Q) NoE s := by
  revert h
  unfold cTG
  cases sv t with
  | name x px =>
    intro h
    replace h : wptg (wpCall (pgOf K) n) (pgOf K) (cTGv (cc.vars.lookup x)) pv lm σ Q := h
    cases hi : cc.vars.lookup x with
    | none => rw [hi] at h; exact h.elim
    | some i =>
      rw [hi] at h
      exact PyProof.Rows.assign_Name (store_sound V R L hi Vv fun s₁ a ha _ l₁ S₁ R₁ L₁ V₁ => ⟨_, σ, ρ, l₁, S₁.weak fun b hb => by rw [List.mem_singleton.mp hb]; exact ha, R₁, L₁, h⟩)
  | attr o a p =>
    intro h
    replace h : wptg (wpCall (pgOf K) n) (pgOf K) (cTGa (attrId a) (cE K fu cc o)) pv lm σ Q := h
    cases hi : attrId a with
    | none => rw [hi] at h; exact h.elim
    | some i => rw [hi] at h; exact A_attr B IH V H L R Vv hi h
  | sub o i p =>
    intro h
    replace h : wptg (wpCall (pgOf K) n) (pgOf K) (if notSlice i = true then .idx (cE K fu cc o) (cE K fu cc i) else .stuck) pv lm σ Q := h
    by_cases hs : notSlice i = true
    · rw [if_pos hs] at h; exact A_sub hw IH V H L R Vv h
    · rw [if_neg hs] at h; exact h.elim
  | tup es k p =>
    intro h
    replace h : wptg (wpCall (pgOf K) n) (pgOf K) (cTGt (cNames cc es)) pv lm σ Q := h
    cases hn : cNames cc es with
    | none => rw [hn] at h; exact h.elim
    | some is => rw [hn] at h; exact A_tup V H L R Vv hn h
  | _ => exact fun h => h.elim

noncomputable def SSnd (prog : Program) (w : World) (K : Frag) (g : Glb) (n fu : Nat) : Prop := ∀ {cc : CC} {env : Env} {st : Stmt} {lm : LM} {σ : St} {Q : SQ} {A : Around} {s : Shared} {ρ : Rho}, EnvS cc env → Room (n + 1) A → LRel g cc env ρ lm s.heap → Rel g ρ σ s.heap →
  wps (wpCall (pgOf K) n) (pgOf K) (cS K fu cc st) lm σ Q → wpAny (model prog w) A (exec st env) (SP g cc env ρ s Q) NoE s
noncomputable def SsSnd (prog : Program) (w : World) (K : Frag) (g : Glb) (n fu : Nat) : Prop := ∀ {cc : CC} {env : Env} {b : List Stmt} {lm : LM} {σ : St} {Q : SQ} {A : Around} {s : Shared} {ρ : Rho}, EnvS cc env → Room (n + 1) A → LRel g cc env ρ lm s.heap → Rel g ρ σ s.heap →
  wps (wpCall (pgOf K) n) (pgOf K) (cSs K fu cc b) lm σ Q → wpAny (model prog w) A (execs b env) (SP g cc env ρ s Q) NoE s

theorem SPm {Q : SQ} {t : Sem Flow} {ρ' : Rho} {s' : Shared} (l : Like s s') (S : Step (Xof env) ρ s.heap ρ' s'.heap) (h : wpAny (model prog w) A t (SP g cc env ρ' s' Q) NoE s') : wpAny (model prog w) A t (SP g cc env ρ s Q) NoE s' :=
  wpAny_mono h (fun _ _ x => x.trans l S) fun _ _ f => f
theorem not_inter (V : EnvS cc env) : interactive env = false := by unfold interactive; rw [V.kind]; rfl
theorem no_swap {e : Expr} (h : isComp e = false) (t : Option Expr) (l : Nat) (env : Env) : swapsWith e t l env = pure false := by cases e <;> first | rfl | cases h
theorem tup_of {e : Expr} (h : isTup e = false) (t : Expr) (env : Env) : swappedStores [t] e env = pure none := by
  cases t <;> try rfl
  all_goals (cases e <;> first | rfl | cases h)
theorem tup_of' {t : Expr} (h : isTup t = false) (e : Expr) (env : Env) : swappedStores [t] e env = pure none := by cases t <;> first | rfl | cases h
theorem no_swapped {t e : Expr} (h : (isTup t && isTup e) = false) (env : Env) : swappedStores [t] e env = pure none := by
  rcases Bool.and_eq_false_iff.mp h with h | h
  · exact tup_of' h e env
  · exact tup_of h t env
theorem one_each {t : Expr} (h : notStar t = true) (env : Env) : (assignEach [t] env).map (·.2) = [assign t env] := by cases t <;> first | rfl | cases h
theorem tg_star {fu : Nat} {C : CT} {P : Pg} {t : Expr} {pv : PV} {Q : LM → St → Prop} (h : wptg C P (cTG K fu cc t) pv lm σ Q) : notStar t = true := by
  revert h
  unfold cTG
  cases sv t with
  | other e => exact fun h => h.elim
  | _ => exact fun _ => rfl

set_option tactic.hygienic true in
theorem S_assign (hw : g.w = w) (B : Base K g) (IH : ESnd prog w K g n fu) (V : EnvS cc env) (H : Room (n + 1) A) (L : LRel g cc env ρ lm s.heap) (R : Rel g ρ σ s.heap) {ts : List Expr} {e : Expr} {pos : Pos} {Q : SQ}
    (h : wps (wpCall (pgOf K) n) (pgOf K) (cAsg K fu cc ts e) lm σ Q) : wpAny (model prog w) A (exec (.Assign ts e pos) env) (SP g cc env ρ s Q) NoE s := by
  unfold cAsg at h
  cases ht : one? ts with
  | none => rw [ht] at h; exact h.elim
  | some t =>
    rw [ht] at h
    obtain rfl := one_inv ht
    replace h : wps (wpCall (pgOf K) n) (pgOf K) (if ((isTup t && isTup e) || isComp e) = true then .stuck else .assign (cTG K fu cc t) (cE K fu cc e)) lm σ Q := h
    by_cases hc : ((isTup t && isTup e) || isComp e) = true
    · rw [if_pos hc] at h; exact h.elim
    · rw [if_neg hc] at h
      obtain ⟨h1, h2⟩ := Bool.or_eq_false_iff.mp (Bool.eq_false_iff.mpr hc)
      refine wpAny_Assign_stores (ev R L (IH V H L R h) fun pv v σ₁ ρ₁ s₁ l₁ S₁ R₁ L₁ V₁ h₁ => ?_) (no_swap h2 _ _ _) (no_swapped h1 _)
      rw [one_each (tg_star h₁)]
      show wpAny _ _ (assign t env v) _ _ _
      exact wpAny_mono (A_sound hw B IH V H L₁ R₁ V₁ (Q := fun lm σ => Q .next lm σ) h₁) (fun _ _ x => SP.next (x.trans l₁ S₁.nil)) fun _ _ f => f

set_option tactic.hygienic true in
theorem S_augI (hw : g.w = w) (IH : ESnd prog w K g n fu) (V : EnvS cc env) (H : Room (n + 1) A) (L : LRel g cc env ρ lm s.heap) (R : Rel g ρ σ s.heap) {o i e : Expr} {p pos : Pos} (hs : notSlice i = true) {Q : SQ}
    (h : wps (wpCall (pgOf K) n) (pgOf K) (.augIdx (cE K fu cc o) (cE K fu cc i) (cE K fu cc e)) lm σ Q) : wpAny (model prog w) A (exec (.AugAssign (.Subscript o i p) .Add e pos) env) (SP g cc env ρ s Q) NoE s := by
  refine wpAny_AugAssign_SubscriptAny (ev R L (IH V H L R h) fun ov u σ₁ ρ₁ s₁ l₁ S₁ R₁ L₁ V₁ h₁ => ev R₁ L₁ (IH V H L₁ R₁ h₁) fun iv x σ₂ ρ₂ s₂ l₂ S₂ R₂ L₂ V₂ h₂ =>
    ev R₂ L₂ (getItem_sound (prog := prog) (A := A) hw R₂ (V₁.step R₁ xok_nil S₂) V₂ h₂).2 fun old y σ₃ ρ₃ s₃ l₃ S₃ R₃ L₃ V₃ h₃ => ev R₃ L₃ (IH V H L₃ R₃ h₃) fun pv z σ₄ ρ₄ s₄ l₄ S₄ R₄ L₄ V₄ h₄ => ?_) (idx_of hs).2
  obtain ⟨a, b, t, u', rfl, rfl, q⟩ := intB_two (V₃.step R₃ xok_nil S₄) V₄ h₄
  have S24 := S₃.trans S₄
  exact PyProof.Rows.iadd_int (wpAny_mono (setIdx_sound (prog := prog) (A := A) (s := { s₄ with toks := s₄.toks + 1 }) (z := .int (a + b) s₄.toks) H hw R₄ (V₁.step R₁ xok_nil (S₂.trans S24)) (V₂.step R₂ xok_nil S24) (.int _ _) q)
    (fun _ s' x => SP.next ((up_ap (s := { s₄ with toks := s₄.toks + 1 }) (Q := fun lm σ => Q .next lm σ) R₄ L₄ x).trans ((l₁.trans l₂).trans ((l₃.trans l₄).trans (like_tok s₄ (s₄.toks + 1)))) (S₁.trans (S₂.trans S24)).nil)) fun _ _ f => f)
theorem add_of {op : Operator} (h : isAdd op = true) : op = .Add := by cases op <;> first | rfl | exact noB h
theorem S_aug (hw : g.w = w) (IH : ESnd prog w K g n fu) (V : EnvS cc env) (H : Room (n + 1) A) (L : LRel g cc env ρ lm s.heap) (R : Rel g ρ σ s.heap) {t : Expr} {op : Operator} {e : Expr} {pos : Pos} {Q : SQ}
    (h : wps (wpCall (pgOf K) n) (pgOf K) (cAug cc t op (cE K fu cc) (cE K fu cc e)) lm σ Q) : wpAny (model prog w) A (exec (.AugAssign t op e pos) env) (SP g cc env ρ s Q) NoE s := by
  unfold cAug at h
  by_cases ho : isAdd op = true
  · rw [if_pos ho] at h
    cases add_of ho
    revert h
    cases sv t with
    | sub o i p =>
      intro h
      replace h : wps (wpCall (pgOf K) n) (pgOf K) (if notSlice i = true then .augIdx (cE K fu cc o) (cE K fu cc i) (cE K fu cc e) else .stuck) lm σ Q := h
      by_cases hs : notSlice i = true
      · rw [if_pos hs] at h; exact S_augI hw IH V H L R hs h
      · rw [if_neg hs] at h; exact h.elim
    | _ => exact fun h => h.elim
  · rw [if_neg ho] at h; exact h.elim

theorem Step.finX {X Y : List Addr} {ρ' : Rho} {h h' h3 : Heap} (S : Step (Y ++ X) ρ h ρ' h') (hY : ∀ a ∈ Y, h.get? a = none) (k : ∀ a o, a ∉ Y → h'.get? a = some o → h3.get? a = some o) : Step X ρ h ρ' h3 := by
  have ny : ∀ a o, h.get? a = some o → a ∉ Y := fun a o e q => by rw [hY a q] at e; cases e
  exact ⟨S.ext, fun a o e => by obtain ⟨o', e'⟩ := S.live a o e; exact ⟨o', k a o' (ny a o e) e'⟩, fun a o e hn hx => k a o (ny a o e) (S.keep a o e hn fun q => by
    rcases List.mem_append.mp q with q | q
    · exact ny a o e q
    · exact hx q)⟩
theorem LRel.away {h h' : Heap} {Y : List Addr} (L : LRel g cc env ρ lm h) (kt : ∀ a its n, h.get? a = some (tupObj its n) → h'.get? a = some (tupObj its n)) (hd : ∀ a ∈ Xof env, a ∉ Y) (k : ∀ a o, a ∉ Y → h.get? a = some o → h'.get? a = some o) : LRel g cc env ρ lm h' := by
  have vm : ∀ {x u}, VR h ρ x u → VR h' ρ x u := fun r => by have := r.mono (δ := []) kt; rwa [List.append_nil] at this
  refine ⟨?_, fun x c hx => ?_, L.own⟩
  · obtain ⟨m, hn, hm⟩ := L.ns
    exact ⟨m, hn.at' fun o e => k _ o (hd _ (X_loc env)) e, fun x i v hx hv hk => by obtain ⟨u, e, W⟩ := hm x i v hx hv hk; exact ⟨u, e, vm W⟩⟩
  · obtain ⟨o, ⟨ob, ho, hdt⟩, hm⟩ := L.cell x c hx
    exact ⟨o, ⟨ob, k _ _ (hd _ (X_cell hx)) ho, hdt⟩, fun i v hi hv hk => by obtain ⟨u, e, W⟩ := hm i v hi hv hk; exact ⟨u, e, vm W⟩⟩

set_option tactic.hygienic true in
theorem FlR_inv {h : Heap} {ρ : Rho} {fl : Fl} {f : Flow} (F : FlR h ρ fl f) : (fl = .next ∧ f = .next) ∨ 
    ∃ v u, fl = .ret v ∧ f = .ret u ∧ VR h ρ v u := by
  cases fl with
  | next => cases f <;> first | exact F.elim | exact .inl ⟨rfl, rfl⟩
  | ret v => cases f <;> first | exact F.elim | exact .inr ⟨_, _, rfl, rfl, F⟩
theorem for_back {I : Addr} {Q : SQ} {s₂ s' : Shared} {ρ₁ ρ' : Rho} {σ' : St} {lm' : LM} {fl : Fl} {f : Flow} {h' : Heap} (hI0 : g.h₀.get? I = none) (hIX : I ∉ Xof env) (hIs : s.heap.get? I = none) (l : Like s s₂) (S : Step [] ρ s.heap ρ₁ s₂.heap)
    (l' : Like s₂ s') (S' : Step ([I] ++ Xof env) ρ₁ s₂.heap ρ' s'.heap) (R' : Rel g ρ' σ' s'.heap) (L' : LRel g cc env ρ' lm' s'.heap) (un : I ∉ ρ'.map (·.2)) (lv : ∃ o, s'.heap.get? I = some o ∧ NotT o) (he : Heap.ExtBut I s'.heap h') (tk : Nat)
    (F : FlR h' ρ' fl f) (q : Q fl lm' σ') : SP g cc env ρ s Q f { s' with heap := h', toks := tk } := by
  have k : ∀ a o, a ∉ [I] → s'.heap.get? a = some o → h'.get? a = some o := fun a o hn e => he a o (by simpa using hn) e
  obtain ⟨R3, kt⟩ := R'.away (Y := [I]) (fun a ha => by rw [List.mem_singleton.mp ha]; exact (⟨un, hI0, lv⟩ : Own1 g ρ' s'.heap I).aw) k
  exact ⟨fl, lm', σ', ρ', (l.trans l').trans (Like.mk s' h' tk), Step.finX (Y := [I]) (S.nil.trans S') (fun a ha => by rw [List.mem_singleton.mp ha]; exact hIs) k, R3, L'.away kt (fun a ha hq => hIX (by rw [← List.mem_singleton.mp hq]; exact ha)) k, F, q⟩
inductive FInv (g : Glb) (cc : CC) (env : Env) (I : Addr) (ys : List PV) (P : Nat → Rho → Heap → Prop) (W : List PV → LM → St → Prop) (s₂ : Shared) (ρ₁ : Rho) (k : Nat) (s' : Shared) : Prop
  | mk (j : Nat) (lm' : LM) (σ' : St) (ρ' : Rho) (hk : k = ys.length - j) (hj : j ≤ ys.length) (l : Like s₂ s') (S : Step ([I] ++ Xof env) ρ₁ s₂.heap ρ' s'.heap) (R : Rel g ρ' σ' s'.heap) (L : LRel g cc env ρ' lm' s'.heap)
      (un : I ∉ ρ'.map (·.2)) (p : P j ρ' s'.heap) (q : W (ys.drop j) lm' σ')
inductive FItem (g : Glb) (cc : CC) (env : Env) (I : Addr) (P : Nat → Rho → Heap → Prop) (lm : LM) (σ : St) (ρ : Rho) (j : Nat) (s : Shared) (s' : Shared) : Prop
  | mk (l : Like s s') (S : Step ([I] ++ Xof env) ρ s.heap ρ s'.heap) (R : Rel g ρ σ s'.heap) (L : LRel g cc env ρ lm s'.heap) (p : P j ρ s'.heap)
theorem for_item (V : EnvS cc env) (L : LRel g cc env ρ lm s.heap) (R : Rel g ρ σ s.heap) {x : Str} {px : Pos} {i : Nat} (hx : cc.vars.lookup x = some i) {I : Addr} {ys : List PV} {chk : St → Prop} {P : Nat → Rho → Heap → Prop} (It : Itr prog w A g I ys chk P) (hI0 : g.h₀.get? I = none) (hIX : I ∉ Xof env) (un : I ∉ ρ.map (·.2))
    {j : Nat} (p : P j ρ s.heap) {v : Value} {y : PV} {h₂ : Heap} {tk : Nat} (Vv : VR s.heap ρ y v) (P₂ : P (j + 1) ρ h₂) (hs₂ : Heap.SameBut I s.heap h₂) {Q : Unit → Shared → Prop} {E : Value → Shared → Prop} (q : ∀ s', FItem g cc env I P (upd lm i y) σ ρ (j + 1) s s' → Q () s') :
    wpAny (model prog w) A (assign (.Name x px) env v) Q E { s with heap := h₂, toks := tk } := by
  have OI : Own1 g ρ s.heap I := ⟨un, hI0, It.live p⟩
  obtain ⟨S₂, R₃, kv⟩ := R.own1 OI hs₂ ((It.live P₂).imp fun _ e => e.1)
  have L₃ : LRel g cc env ρ lm h₂ := L.step R OI.xok (fun a ha hq => hIX (List.mem_singleton.mp hq ▸ ha)) S₂
  refine PyProof.Rows.assign_Name (store_sound (s := { s with heap := h₂, toks := tk }) V R₃ L₃ hx (kv _ _ Vv) fun s₄ a ha _ l₄ S₄ R₄ L₄ V₄ => q _ ⟨(Like.mk s h₂ tk).trans l₄, (S₂.weak (by simp)).trans (S₄.weak fun b hb => by rw [List.mem_singleton.mp hb]; exact List.mem_append_right _ ha), R₄, L₄, ?_⟩)
  have hIa : I ∉ [a] := fun hq => hIX (by rw [List.mem_singleton.mp hq]; exact ha)
  have xa : Xok [a] ρ h₂ := fun b hb => by rw [List.mem_singleton.mp hb]; exact L₃.live ha
  have := It.frame (δ := []) P₂ (fun o e => S₄.keep I o e un hIa) (R₃.tupKeep xa S₄)
  rwa [List.append_nil] at this
set_option tactic.hygienic true in
theorem S_for (IB : SsSnd prog w K g n fu) (II : ISnd prog w K g n fu) (V : EnvS cc env) (H : Room (n + 1) A) (L : LRel g cc env ρ lm s.heap) (R : Rel g ρ σ s.heap) {x : Str} {px : Pos} {it : Expr} {b : List Stmt} {pos : Pos} {i : Nat} {Q : SQ} (hx : cc.vars.lookup x = some i)
    (h : wps (wpCall (pgOf K) n) (pgOf K) (.for i (cI K fu cc it) (cSs K fu cc b)) lm σ Q) : wpAny (model prog w) A (exec (.For (.Name x px) it b [] pos) env) (SP g cc env ρ s Q) NoE s := by
  obtain ⟨hs, hi⟩ := II V H L R h
  refine wpAny_For (wpAny_mono hi (fun xv s₁ x₁ => wpAny_mono x₁ (fun itv s₂ x₂ => ?_) fun _ _ f => f) fun _ _ f => f) hs
  obtain ⟨I, ys, chk, P, σ₁, ρ₁, rfl, It, P0, l, S, R₂, hIs, hIo, q⟩ := x₂
  have hIX : I ∉ Xof env := fun hq => by obtain ⟨o, ho, _⟩ := L.live hq; rw [hIs] at ho; cases ho
  have hI0 : g.h₀.get? I = none := R.fresh hIs
  refine codeAny_mono (codeAny_forLoop_any (R := fun r s' => ∃ f, r = .ok f ∧ SP g cc env ρ s Q f s')
    (FInv g cc env I ys P (fun zs lm σ => forW (wps (wpCall (pgOf K) n) (pgOf K) (cSs K fu cc b)) i chk zs lm σ Q) s₂ ρ₁)
    ?_ ys.length ⟨0, lm, σ₁, ρ₁, rfl, Nat.zero_le _, Like.refl _, Step.refl .., R₂, L.step0 R S, hIo, P0, q⟩) (fun r s' x => by obtain ⟨f, rfl, x⟩ := x; exact x)
  rintro k s' ⟨j, lm', σ', ρ', rfl, hj, l', S', R', L', un, Pj, q⟩
  rcases Nat.lt_or_eq_of_le hj with hlt | heq
  · rw [List.drop_eq_getElem_cons hlt] at q
    obtain ⟨hc, q⟩ := q
    refine It.item (List.getElem?_eq_getElem hlt) R' hc Pj fun v h₂ tk₂ Vv P₂ hs₂ => ?_
    show wpAny _ _ (letOwnedTupleGo (.Name x px) (.ref I) v) _ _ _
    refine wpAny_of_eq (a := ()) rfl (for_item V L' R' hx It hI0 hIX un Pj Vv P₂ hs₂ fun s₄ z => ?_)
    obtain ⟨l₄, S₄, R₄, L₄, P₄⟩ := z
    refine wpAny_mono (IB V H L₄ R₄ q) (fun f s₅ x => ?_) fun _ _ f => f.elim
    obtain ⟨fl, lm₅, σ₅, ρ₅, l₅, S₅, R₅, L₅, F, q⟩ := x
    have OI₅ := (⟨un, hI0, It.live P₄⟩ : Own1 g ρ' s₄.heap I).step S₅ hIX
    have T₅ : Step ([I] ++ Xof env) ρ₁ s₂.heap ρ₅ s₅.heap := (S'.trans S₄).trans (S₅.weak fun b hb => List.mem_append_right _ hb)
    have l₅' : Like s₂ s₅ := l'.trans (l₄.trans l₅)
    have again : forW (wps (wpCall (pgOf K) n) (pgOf K) (cSs K fu cc b)) i chk (ys.drop (j + 1)) lm₅ σ₅ Q → ∃ m, m < ys.length - j ∧ FInv g cc env I ys P (fun zs lm σ => forW (wps (wpCall (pgOf K) n) (pgOf K) (cSs K fu cc b)) i chk zs lm σ Q) s₂ ρ₁ m s₅ := fun q =>
      ⟨ys.length - (j + 1), Nat.sub_lt_sub_left hlt (Nat.lt_succ_self j), j + 1, lm₅, σ₅, ρ₅, rfl, hlt, l₅', T₅, R₅, L₅, OI₅.un, by
        have kt := R₄.tupKeep L₄.xok S₅
        obtain ⟨δ, rfl, _⟩ := S₅.ext
        exact It.frame P₄ (fun o e => S₅.keep I o e un hIX) kt, q⟩
    rcases FlR_inv F with ⟨rfl, rfl⟩ | F
    · exact again q
    · obtain ⟨v, u, rfl, rfl, F⟩ := F
      exact ⟨_, rfl, for_back hI0 hIX hIs l S l₅' T₅ R₅ L₅ OI₅.un OI₅.live (fun _ _ _ e => e) s₅.toks (fl := .ret v) (f := .ret u) F q⟩
  · subst heq
    rw [List.drop_length] at q
    exact It.done R' q.1 Pj fun h' tk he => wpAny_execs_nil ⟨_, rfl, for_back hI0 hIX hIs l S l' S' R' L' un (It.live Pj) he tk (fl := .next) trivial q.2⟩

inductive WInv (g : Glb) (cc : CC) (env : Env) (ρ : Rho) (s : Shared) (J : Nat → LM → St → Prop) (k : Nat) (s' : Shared) : Prop
  | mk (lm' : LM) (σ' : St) (ρ' : Rho) (l : Like s s') (S : Step (Xof env) ρ s.heap ρ' s'.heap) (R : Rel g ρ' σ' s'.heap) (L : LRel g cc env ρ' lm' s'.heap) (q : J k lm' σ')
set_option tactic.hygienic true in
theorem S_while (IT : TSnd prog w K g n fu) (IB : SsSnd prog w K g n fu) (V : EnvS cc env) (H : Room (n + 1) A) (L : LRel g cc env ρ lm s.heap) (R : Rel g ρ σ s.heap) {t : Expr} {b : List Stmt} {pos : Pos} {Q : SQ}
    (h : wps (wpCall (pgOf K) n) (pgOf K) (.loop (cT K fu cc t) (cSs K fu cc b)) lm σ Q) : wpAny (model prog w) A (exec (.While t b [] pos) env) (SP g cc env ρ s Q) NoE s := by
  obtain ⟨J, ⟨k₀, h0⟩, step⟩ := h
  refine wpAny_While (codeAny_mono (codeAny_whileLoop (R := fun r s' => ∃ f, r = .ok f ∧ SP g cc env ρ s Q f s')
    (WInv g cc env ρ s J) ?_ k₀ ⟨lm, σ, ρ, Like.refl s, Step.refl .., R, L, h0⟩) (fun r s' x => by obtain ⟨f, rfl, x⟩ := x; exact x))
  rintro k s' ⟨lm', σ', ρ', l', S', R', L', j⟩
  refine tv R' L' (IT V H L' R' (step k lm' σ' j)) fun c σ₁ ρ₁ s₁ l₁ S₁ R₁ L₁ h₁ => ?_
  have l2 := l'.trans l₁
  have S2 := S'.trans S₁.nil
  cases c
  · exact wpAny_execs_nil ⟨_, rfl, .next, lm', σ₁, ρ₁, l2, S2, R₁, L₁, trivial, h₁⟩
  · refine wpAny_mono (IB V H L₁ R₁ h₁) (fun f s₂ x => ?_) fun _ _ f => f.elim
    obtain ⟨fl, lm₂, σ₂, ρ₂, l₂, S₂, R₂, L₂, F, q⟩ := x
    rcases FlR_inv F with ⟨rfl, rfl⟩ | F
    · obtain ⟨m, hm, q⟩ := q
      exact ⟨m, hm, lm₂, σ₂, ρ₂, l2.trans l₂, S2.trans S₂, R₂, L₂, q⟩
    · obtain ⟨v, u, rfl, rfl, F⟩ := F
      exact ⟨_, rfl, .ret v, lm₂, σ₂, ρ₂, l2.trans l₂, S2.trans S₂, R₂, L₂, F, q⟩

theorem S_forT (IB : SsSnd prog w K g n fu) (II : ISnd prog w K g n fu) (V : EnvS cc env) (H : Room (n + 1) A) (L : LRel g cc env ρ lm s.heap) (R : Rel g ρ σ s.heap) {t : Expr} {it : Expr} {b : List Stmt} {pos : Pos} {Q : SQ}
    (h : wps (wpCall (pgOf K) n) (pgOf K) (cFor cc t (cI K fu cc it) (cSs K fu cc b) []) lm σ Q) : wpAny (model prog w) A (exec (.For t it b [] pos) env) (SP g cc env ρ s Q) NoE s := by
  revert h
  unfold cFor
  cases sv t with
  | name x px =>
    intro h
    replace h : wps (wpCall (pgOf K) n) (pgOf K) (cForN cc x (cI K fu cc it) (cSs K fu cc b)) lm σ Q := h
    unfold cForN at h
    cases hi : cc.vars.lookup x with
    | none => rw [hi] at h; exact h.elim
    | some i => rw [hi] at h; exact S_for IB II V H L R hi h
  | _ => exact fun h => h.elim
theorem cFor_inv {C : CT} {P : Pg} {t : Expr} {it : MI} {b : MS} {e : List Stmt} {Q : SQ} (h : wps C P (cFor cc t it b e) lm σ Q) : e = [] := by
  revert h
  unfold cFor
  cases sv t with
  | name x px => cases e with
    | nil => exact fun _ => rfl
    | cons => exact fun h => h.elim
  | _ => exact fun h => h.elim
theorem cNil_inv {C : CT} {P : Pg} {b : MS} {e : List Stmt} {Q : SQ} (h : wps C P (cNil e b) lm σ Q) : e = [] := by
  cases e with
  | nil => rfl
  | cons => exact h.elim

set_option tactic.hygienic true in
theorem S_step (hw : g.w = w) (B : Base K g) (IH : ESnd prog w K g n fu) (IT : TSnd prog w K g n fu) (II : ISnd prog w K g n fu) (IB : SsSnd prog w K g n fu) : SSnd prog w K g n (fu + 1) := by
  intro cc env st lm σ Q A s ρ V H L R h
  cases st
  case Expr e pos =>
    replace h : wps (wpCall (pgOf K) n) (pgOf K) (if isComp e then .stuck else .expr (cE K fu cc e)) lm σ Q := h
    by_cases hc : isComp e = true
    · rw [if_pos hc] at h; exact h.elim
    · rw [if_neg hc] at h
      exact wpAny_Expr_any (ev R L (IH V H L R h) fun pv v σ₁ ρ₁ s₁ l₁ S₁ R₁ L₁ V₁ h₁ => ⟨.next, lm, σ₁, ρ₁, l₁, S₁.nil, R₁, L₁, trivial, h₁⟩) (not_inter V) (no_swap (Bool.eq_false_iff.mpr hc) _ _ _)
  case Pass pos => exact wpAny_Pass (SP.here (fl := .next) R L trivial h)
  case Return v pos =>
    cases v with
    | none => exact wpAny_Return_none (SP.here (fl := .ret .none) R L .none h)
    | some e => exact wpAny_Return_some (ev R L (IH V H L R h) fun pv v σ₁ ρ₁ s₁ l₁ S₁ R₁ L₁ V₁ h₁ => ⟨.ret pv, lm, σ₁, ρ₁, l₁, S₁.nil, R₁, L₁, V₁, h₁⟩)
  case Assign ts e pos => exact S_assign hw B IH V H L R h
  case AugAssign t op e pos => exact S_aug hw IH V H L R h
  case If t a b pos =>
    refine wpAny_If (tv R L (IT V H L R h) fun c σ₁ ρ₁ s₁ l₁ S₁ R₁ L₁ h₁ => ?_)
    cases c
    · exact SPm l₁ S₁.nil (IB V H L₁ R₁ h₁)
    · exact SPm l₁ S₁.nil (IB V H L₁ R₁ h₁)
  case While t b e pos =>
    cases cNil_inv (show wps _ _ (cNil e _) lm σ Q from h)
    exact S_while IT IB V H L R h
  case For t it b e pos =>
    cases cFor_inv (show wps _ _ (cFor cc t (cI K fu cc it) (cSs K fu cc b) e) lm σ Q from h)
    exact S_forT IB II V H L R h
  all_goals exact h.elim

set_option tactic.hygienic true in
theorem Ss_step (IS : SSnd prog w K g n fu) (IB : SsSnd prog w K g n fu) : SsSnd prog w K g n (fu + 1) := by
  intro cc env b lm σ Q A s ρ V H L R h
  cases b with
  | nil => exact wpAny_execs_nil (SP.here (fl := .next) R L trivial h)
  | cons st r =>
    refine wpAny_execs_cons (wpAny_mono (IS V H L R h) (fun f s₁ x => ?_) fun _ _ f => f)
    obtain ⟨fl, lm₁, σ₁, ρ₁, l₁, S₁, R₁, L₁, F, q⟩ := x
    rcases FlR_inv F with ⟨rfl, rfl⟩ | F
    · exact SPm l₁ S₁ (IB V H L₁ R₁ q)
    · obtain ⟨v, u, rfl, rfl, F⟩ := F
      exact ⟨_, lm₁, σ₁, ρ₁, l₁, S₁, R₁, L₁, F, q⟩

theorem S_all (hw : g.w = w) (B : Base K g) (C : CSound prog w K g n) : ∀ fu, SSnd prog w K g n fu ∧ SsSnd prog w K g n fu
  | 0 => ⟨fun _ _ _ _ h => h.elim, fun _ _ _ _ h => h.elim⟩
  | fu + 1 => ⟨S_step hw B (E_all hw B C fu) (T_all hw B C fu) (I_all hw B C fu) (S_all hw B C fu).2, Ss_step (S_all hw B C fu).1 (S_all hw B C fu).2⟩
end
end
section
open PySem PySem.W PyProof.Rows

theorem zip_some {β : Type} : ∀ {ns : List Str} {vs : List β}, ns.length = vs.length → ∀ n ∈ ns, ((ns.zip vs).lookup n).isSome = true
  | [], [], _, n, h => nomatch h
  | m :: ns, v :: vs, hl, n, h => by
    rw [List.zip_cons_cons, List.lookup_cons]
    by_cases q : n = m
    · subst q; simp
    · have q' : (n == m) = false := by simpa using q
      simp only [q']
      exact zip_some (by simpa using hl) n ((List.mem_cons.mp h).resolve_left q)
theorem zip_filterMap {β : Type} : ∀ {ns : List Str} {vs : List β} (f : Str → Option β), ns.length = vs.length → (∀ (i : Nat) (n : Str) (v : β), ns[i]? = some n → vs[i]? = some v → f n = some v) → ns.filterMap (fun n => (f n).map (n, ·)) = ns.zip vs
  | [], [], _, _, _ => rfl
  | m :: ns, v :: vs, f, hl, h => by
    rw [List.filterMap_cons, h 0 m v rfl rfl, List.zip_cons_cons]
    show (m, v) :: _ = _
    rw [zip_filterMap f (by simpa using hl) fun i n v hn hv => h (i + 1) n v hn hv]
theorem zip_lookup {β : Type} : ∀ {ns : List Str} {vs : List β}, ns.Nodup → ∀ (i : Nat) (n : Str) (v : β), ns[i]? = some n → vs[i]? = some v → (ns.zip vs).lookup n = some v
  | m :: ns, v :: vs, hn, 0, n, u, h1, h2 => by cases h1; cases h2; rw [List.zip_cons_cons, List.lookup_cons]; simp
  | m :: ns, v :: vs, hn, i + 1, n, u, h1, h2 => by
    rw [List.zip_cons_cons, List.lookup_cons]
    have hm : n ∈ ns := List.mem_of_getElem? (i := i) h1
    have q : n ≠ m := fun q => (List.nodup_cons.mp hn).1 (q ▸ hm)
    have q' : (n == m) = false := by simpa using q
    simp only [q']
    exact zip_lookup (List.nodup_cons.mp hn).2 i n u h1 h2
  | [], _, _, _, _, _, h1, _ => by simp at h1
  | _ :: _, [], _, _, _, _, _, h2 => by simp at h2

theorem forIn_const {α β : Type} (b : β) (f : α → β → Sem (ForInStep β)) : ∀ l : List α, (∀ x ∈ l, f x b = pure (.yield b)) → forIn l b f = pure b
  | [], _ => by rw [List.forIn_nil]
  | x :: r, h => by rw [List.forIn_cons, h x List.mem_cons_self, pure_bind]; exact forIn_const b f r fun y hy => h y (List.mem_cons_of_mem _ hy)

theorem bind_eq {fd : FuncData} {vals : List Value} (h1 : fd.params.posonlyargs = []) (h2 : fd.params.vararg = none) (h3 : fd.params.kwonlyargs = []) (h4 : fd.params.kwarg = none) (hl : vals.length = fd.params.args.length) (hn : (fd.params.args.map (·.arg)).Nodup) :
    bindArgs fd ⟨vals, []⟩ = seqItems? fd.defaults >>= fun _ => pure ((fd.params.args.map (·.arg)).zip vals) := by
  unfold bindArgs
  have hlen : (fd.params.args.map (·.arg)).length = vals.length := by rw [List.length_map, hl]
  generalize hN : fd.params.args.map (·.arg) = N at *
  simp only [h1, h2, h3, h4, List.map_nil, List.nil_append, List.append_nil, List.forIn_nil, pure_bind, hN]
  congr 1
  funext D
  have hgt : ¬ (vals.length > N.length) := by (first | lia | omega)
  have hm : ∀ k, (N.take k).filter (fun n => ((N.zip vals).lookup n).isNone) = [] := fun k => by
    rw [List.filter_eq_nil_iff]
    intro n hn'
    have := zip_some hlen n (List.mem_of_mem_take hn')
    rw [Option.isSome_iff_ne_none] at this
    simp [this]
  simp only [hgt, decide_false, Bool.false_and, Bool.false_eq_true, if_false, hm, List.isEmpty_nil, Bool.not_true]
  rw [forIn_const]
  · simp only [pure_bind]
    rw [zip_filterMap _ hlen fun i n v h h' => zip_lookup hn i n v h h']
  · rintro ⟨name, d⟩ hx
    have hmem : name ∈ N := List.mem_of_mem_drop (List.of_mem_zip hx).1
    have := zip_some hlen name hmem
    rw [Option.isSome_iff_ne_none] at this
    simp [this]
end
section
open PySem PySem.W PyProof.Rows

theorem cells_keep : ∀ (names : List (Str × NameKind)) (m : Nat) (acc : List (Str × Addr)) (x : Str), (acc.lookup x).isSome = true → ((cellsFrom m names acc).lookup x).isSome = true
  | [], _, _, _, h => h
  | (n, k) :: r, m, acc, x, h => by
    unfold cellsFrom
    split
    · refine cells_keep r (m + 1) ((n, m) :: acc) x ?_
      rw [List.lookup_cons]
      split
      · rfl
      · exact h
    · exact cells_keep r m acc x h
theorem cells_mem : ∀ (names : List (Str × NameKind)) (m : Nat) (acc : List (Str × Addr)) (x : Str), (x, NameKind.cell) ∈ names → ((cellsFrom m names acc).lookup x).isSome = true
  | (n, k) :: r, m, acc, x, h => by
    unfold cellsFrom
    rcases List.mem_cons.mp h with e | h
    · cases e
      rw [if_pos (by rfl)]
      exact cells_keep r (m + 1) _ n (by rw [List.lookup_cons]; simp)
    · split
      · exact cells_mem r (m + 1) _ x h
      · exact cells_mem r m acc x h

section
variable {k : Str → Option NameKind}
theorem bindL_skip {x : Str} : ∀ {ns : List Str} {vs : List Value} {m : Str → Option Value}, x ∉ ns → bindL k (ns.zip vs) m x = m x
  | [], _, _, _ => by simp [bindL]
  | _ :: _, [], _, _ => by simp [bindL]
  | n :: ns, v :: vs, m, h => by
    rw [List.zip_cons_cons]
    unfold bindL
    rw [bindL_skip (fun q => h (List.mem_cons_of_mem _ q))]
    split
    · exact if_neg (fun (q : x = n) => h (by rw [q]; exact List.mem_cons_self))
    · rfl
theorem bindL_get {x : Str} (hk : k x = some .local) : ∀ {ns : List Str} {vs : List Value} {m : Str → Option Value} {i : Nat} {v : Value}, ns.Nodup → ns[i]? = some x → vs[i]? = some v → bindL k (ns.zip vs) m x = some v
  | n :: ns, u :: vs, m, 0, v, hn, h1, h2 => by
    cases h1; cases h2
    rw [List.zip_cons_cons]
    unfold bindL
    rw [bindL_skip (List.nodup_cons.mp hn).1, if_pos hk, if_pos rfl]
  | n :: ns, u :: vs, m, i + 1, v, hn, h1, h2 => by
    rw [List.zip_cons_cons]
    unfold bindL
    exact bindL_get hk (i := i) (List.nodup_cons.mp hn).2 h1 h2
  | [], _, _, _, _, _, h1, _ => by simp at h1
  | _ :: _, [], _, _, _, _, _, h2 => by simp at h2
theorem bindC_skip {x : Str} : ∀ {ns : List Str} {vs : List Value} {m : Str → Option Value}, x ∉ ns → bindC k (ns.zip vs) m x = m x
  | [], _, _, _ => by simp [bindC]
  | _ :: _, [], _, _ => by simp [bindC]
  | n :: ns, v :: vs, m, h => by
    rw [List.zip_cons_cons]
    unfold bindC
    rw [bindC_skip (fun q => h (List.mem_cons_of_mem _ q))]
    split
    · rfl
    · exact if_neg (fun (q : x = n) => h (by rw [q]; exact List.mem_cons_self))
theorem bindC_get {x : Str} (hk : k x = some .cell) : ∀ {ns : List Str} {vs : List Value} {m : Str → Option Value} {i : Nat} {v : Value}, ns.Nodup → ns[i]? = some x → vs[i]? = some v → bindC k (ns.zip vs) m x = some v
  | n :: ns, u :: vs, m, 0, v, hn, h1, h2 => by
    cases h1; cases h2
    rw [List.zip_cons_cons]
    unfold bindC
    rw [bindC_skip (List.nodup_cons.mp hn).1, if_neg (by rw [hk]; decide), if_pos rfl]
  | n :: ns, u :: vs, m, i + 1, v, hn, h1, h2 => by
    rw [List.zip_cons_cons]
    unfold bindC
    exact bindC_get hk (i := i) (List.nodup_cons.mp hn).2 h1 h2
  | [], _, _, _, _, _, h1, _ => by simp at h1
  | _ :: _, [], _, _, _, _, _, h2 => by simp at h2
end

theorem zipIdx_lookup {l : List Str} {x : Str} {i : Nat} (h : l.zipIdx.lookup x = some i) : l[i]? = some x := by
  have := lk_mem h
  rw [List.mem_zipIdx_iff_getElem?] at this
  exact this

structure FnOk (K : Frag) (fd : FuncData) : Prop where
  dfl : dfltOk K fd = true
  p1 : fd.params.posonlyargs = []
  p2 : fd.params.vararg = none
  p3 : fd.params.kwonlyargs = []
  p4 : fd.params.kwarg = none
  gl : fd.globals = mainGlobals
  clo : fd.closure = []
  bl : fd.builtins = builtinsNs
  kind : fd.scope.kind = .function
  gen : fd.scope.isGenerator = false
  co : fd.scope.isCoroutine = false
  code : codeIn K fd.code fd.qualname = true
  nd : ((fnCC fd).vars.map (·.1)).Nodup
  vars : ∀ p ∈ (fnCC fd).vars, p.2 < 50 ∧ (fd.scope.names.lookup p.1 = some .local ∨ fd.scope.names.lookup p.1 = some .cell)
  names : (fd.scope.names.map (·.1)).Nodup
theorem okFn_of {K : Frag} {fd : FuncData} (h : okFn K fd = true) : FnOk K fd := by
  unfold okFn at h
  simp only [Bool.and_eq_true, decide_eq_true_eq, List.isEmpty_iff, Option.isNone_iff_eq_none, beq_iff_eq, Bool.not_eq_true', List.all_eq_true, Bool.or_eq_true] at h
  obtain ⟨⟨⟨⟨⟨⟨⟨⟨⟨⟨⟨⟨⟨⟨h0, h1⟩, h2⟩, h3⟩, h4⟩, h5⟩, h6⟩, h7⟩, h8⟩, h9⟩, h10⟩, h11⟩, h12⟩, h13⟩, h14⟩ := h
  exact ⟨h0, h1, h2, h3, h4, h5, h6, h7, h8, h9, h10, h11, h12, h13, h14⟩

section
variable {prog : Program} {w : World} {K : Frag} {g : Glb} {n : Nat} {σ : St} {A : Around} {s : Shared} {ρ : Rho} {fd : FuncData}

theorem fn_var {x : Str} {i : Nat} (h : (fnCC fd).vars.lookup x = some i) (hi : i < fd.params.args.length) : (fd.params.args.map (·.arg))[i]? = some x := by
  have := zipIdx_lookup h
  rw [List.getElem?_append_left (by rw [List.length_map]; exact hi)] at this
  exact this
theorem fn_nd (O : FnOk K fd) : (fd.params.args.map (·.arg)).Nodup := by
  have := O.nd
  have e : (fnCC fd).vars.map (·.1) = fd.params.args.map (·.arg) ++ (fd.scope.names.filter fun p => (p.2 == .local || p.2 == .cell) && !(fd.params.args.map (·.arg)).contains p.1).map (·.1) := by
    show (List.zipIdx _).map (·.1) = _
    rw [List.zipIdx_map_fst]
  rw [e] at this
  exact (List.nodup_append.mp this).1
theorem fn_par (O : FnOk K fd) {x : Str} (hx : x ∈ fd.params.args.map (·.arg)) : fd.scope.names.lookup x = some .local ∨ fd.scope.names.lookup x = some .cell := by
  have : x ∈ (fnCC fd).vars.map (·.1) := by
    show x ∈ (List.zipIdx _).map (·.1)
    rw [List.zipIdx_map_fst]
    exact List.mem_append_left _ hx
  obtain ⟨p, hp, rfl⟩ := List.mem_map.mp this
  exact (O.vars p hp).2

theorem call_env (O : FnOk K fd) {L a : Addr} {s₁ : Shared} {m cm : Str → Option Value} (I : InCallC s (callEnvC fd L a).locals m (callEnvC fd L a).cells cm s₁) : EnvS (fnCC fd) (callEnvC fd L a) where
  kind := O.kind
  gl := O.gl
  bl := O.bl
  nm := fun _ => rfl
  vk := fun x i h => by
    rcases (O.vars _ (lk_mem h)).2 with h | h
    · exact .inl h
    · exact .inr ⟨h, Option.isSome_iff_exists.mp (cells_mem _ _ _ _ (lk_mem h))⟩
  inj := fun x y i h h' => by
    have a := zipIdx_lookup h
    have b := zipIdx_lookup h'
    rw [a] at b
    exact Option.some.inj b
  cinj := fun x y c h h' => name_of_addr I.apart (lk_mem h) (lk_mem h')
  cl := fun x c h => Nat.ne_of_gt (I.above x c (lk_mem h))
  cc := fun x h => Option.isSome_iff_exists.mp (cells_mem _ _ _ _ (lk_mem h))

theorem call_rel (O : FnOk K fd) (R : Rel g ρ σ s.heap) {a : Addr} {pvs : List PV} {vs : List Value} (W : VRs s.heap ρ pvs vs) (hl : vs.length = fd.params.args.length) {s₁ : Shared}
    (I : InCallC s (callEnvC fd s.heap.objs.size a).locals (bindL (callEnvC fd s.heap.objs.size a).kindOf ((fd.params.args.map (·.arg)).zip vs) fun _ => none) (callEnvC fd s.heap.objs.size a).cells
        (bindC (callEnvC fd s.heap.objs.size a).kindOf ((fd.params.args.map (·.arg)).zip vs) fun _ => none) s₁) :
    LRel g (fnCC fd) (callEnvC fd s.heap.objs.size a) ρ (lmOf pvs) s₁.heap ∧ ∀ b ∈ Xof (callEnvC fd s.heap.objs.size a), s.heap.get? b = none := by
  have W1 : All2 (VR s₁.heap ρ) pvs vs := W.all.mono fun _ _ r => by have := vr_grow (δ := []) r I.toInCall.keep; rwa [List.append_nil] at this
  have val : ∀ {x : Str} {i : Nat} {v : PV}, (fnCC fd).vars.lookup x = some i → lmOf pvs i = some v → ∃ u, VR s₁.heap ρ v u ∧ (fd.params.args.map (·.arg))[i]? = some x ∧ vs[i]? = some u := by
    intro x i v hx hv
    obtain ⟨u, hu, r⟩ := W1.get hv
    exact ⟨u, r, fn_var hx (hl ▸ (List.getElem?_eq_some_iff.mp hu).1), hu⟩
  have fresh : ∀ b ∈ Xof (callEnvC fd s.heap.objs.size a), s.heap.get? b = none := fun b hb => by
    rcases mem_X hb with rfl | ⟨x, hx⟩
    · exact new_none _
    · cases e : s.heap.get? b with
      | none => rfl
      | some o => exact absurd (Nat.lt_trans (Heap.lt_size e) (I.above x b (lk_mem hx))) (Nat.lt_irrefl _)
  refine ⟨⟨⟨_, I.toInCall.ns, fun x i v hx hv hk => ?_⟩, fun x c hc => ⟨_, I.cell x c hc, fun i v hx hv hk => ?_⟩, fun b hb => ⟨fun q => ?_, R.fresh (fresh b hb)⟩⟩, fresh⟩
  · obtain ⟨u, r, h1, h2⟩ := val hx hv
    exact ⟨u, bindL_get hk (fn_nd O) h1 h2, r⟩
  · obtain ⟨u, r, h1, h2⟩ := val hx hv
    exact ⟨u, bindC_get hk (fn_nd O) h1 h2, r⟩
  · obtain ⟨o, e, _⟩ := R.owned q
    rw [fresh b hb] at e; cases e

theorem dflt_inv (h : dfltOk K fd = true) : fd.defaults = .none ∨ ∃ T oc od its k sl, fd.defaults = .ref T ∧ K.lookup T = some ⟨oc, od, .seq its k, sl⟩ := by
  rcases Bool.or_eq_true_iff.mp h with h | h
  · exact .inl (beq_iff_eq.mp h)
  · obtain ⟨x, h⟩ := Option.isSome_iff_exists.mp h
    obtain ⟨T, hT, h⟩ := Option.bind_eq_some_iff.mp h
    obtain ⟨⟨oc, od, da, sl⟩, e, h⟩ := Option.bind_eq_some_iff.mp h
    refine .inr ⟨T, oc, od, x.1, x.2, sl, valRef_inv hT, ?_⟩
    cases da <;> first | exact nos h | (cases h; exact e)
theorem bind_to (O : FnOk K fd) (X : K.In s.heap) {vs : List Value} (hl : vs.length = fd.params.args.length) : BindsTo s fd ⟨vs, []⟩ ((fd.params.args.map (·.arg)).zip vs) := by
  intro M A E Q q
  rw [bind_eq O.p1 O.p2 O.p3 O.p4 hl (fn_nd O)]
  rcases dflt_inv O.dfl with e | ⟨T, oc, od, its, k, sl, e, hT⟩
  · rw [e]
    exact wpAny_bind (m := seqItems? .none) (wpAny_of_eq (a := none) rfl (wpAny_pure q))
  · rw [e]
    exact wpAny_bind (wpAny_seqItems (X _ _ hT) rfl (wpAny_pure q))

theorem fnFR_inv {f : Addr} {fr : FR} (h : fnFR K f = some fr) : ∃ oc od fd sl b, K.lookup f = some ⟨oc, od, .func fd, sl⟩ ∧ fd.body = .stmts b ∧ okFn K fd = true ∧ fr = ⟨fd.params.args.length, cSs K depthC (fnCC fd) b⟩ := by
  obtain ⟨⟨oc, od, da, sl⟩, e, h⟩ := Option.bind_eq_some_iff.mp h
  obtain ⟨fd, hd, h⟩ := Option.bind_eq_some_iff.mp h
  obtain ⟨b, hb, h⟩ := Option.bind_eq_some_iff.mp h
  obtain ⟨hok, h⟩ := ite_inv h
  refine ⟨oc, od, fd, sl, b, ?_, ?_, hok, (Option.some.inj h).symm⟩
  · cases da <;> first | exact nos hd | (cases hd; exact e)
  · unfold fnBody at hb
    revert hb
    cases fd.body with
    | stmts => exact fun hb => by cases hb; rfl
    | expr => exact fun hb => nos hb
theorem C_step (hw : g.w = w) (B : Base K g) (C : CSound prog w K g n) : CSound prog w K g (n + 1) := by
  intro A s ρ σ f pvs vs Q H R W h
  obtain ⟨fr, hf, hlen, h⟩ := h
  obtain ⟨oc, od, fd, sl, b, hK, hbody, hok, rfl⟩ := fnFR_inv hf
  have O := okFn_of hok
  have X := B.in R
  have hl : vs.length = fd.params.args.length := by rw [← W.all.length]; exact hlen
  obtain ⟨p, loose, mg, mb, T⟩ := B.T
  have hlim : s.heap.NoLimit := T.nolimit.keeps R.keep
  refine codeAny_call_function (by have := H.dp; (first | lia | omega)) (X _ _ hK) rfl O.co O.gen hbody (codeRec_of X O.code) (bind_to O X hl _ _ _ _ ?_)
  rw [O.clo]
  refine wpAny_newFunctionEnv_cells O.kind (fun x hx => ?_) fun env he s₁ I => ?_
  · have hx' : x.1 ∈ fd.params.args.map (·.arg) := (List.of_mem_zip hx).1
    rcases fn_par O hx' with h | h
    · exact .inl h
    · exact .inr ⟨h, cells_mem _ _ _ _ (lk_mem h)⟩
  · subst he
    refine ⟨hlim.keeps I.toInCall.keep, codeAny_func ?_⟩
    obtain ⟨L, fresh⟩ := call_rel (a := f) O R W hl I
    have V := call_env (a := f) (L := s.heap.objs.size) O I
    have hR : Room (n + 1) (A.deeper (callEnvC fd s.heap.objs.size f)) := ⟨H.hd, by have := H.dp; show A.depth + 1 + 2 * (n + 1) + 4 ≤ _; (first | lia | omega), by have := H.un; show A.units + 3 + 20 * (n + 1) + 1000 ≤ _; (first | lia | omega)⟩
    have l₁ : Like s s₁ := I.toInCall.same
    have R₁ := R.grow I.toInCall.keep
    refine wpAny_mono ((S_all hw B C depthC).2 V hR L R₁ h) (fun fl s₂ x => ?_) fun _ _ f => f.elim
    obtain ⟨fl', lm', σ', ρ', l₂, S₂, R₂, L₂, F, q⟩ := x
    have S : Step [] ρ s.heap ρ' s₂.heap := ((Step.grow I.toInCall.keep).nil.trans S₂).fin fresh fun _ _ _ e => e
    rcases FlR_inv F with ⟨rfl, rfl⟩ | F
    · exact ⟨.none, σ', ρ', l₁.trans l₂, S, R₂, .none, q⟩
    · obtain ⟨v, u, rfl, rfl, F⟩ := F
      exact ⟨_, σ', ρ', l₁.trans l₂, S, R₂, F, q⟩

theorem C_all (hw : g.w = w) (B : Base K g) : ∀ n, CSound prog w K g n
  | 0 => fun _ _ _ h => h.elim
  | n + 1 => C_step hw B (C_all hw B n)
end
end
section
open PySem PySem.W PyProof.Rows

noncomputable def freed : Obj := ⟨.none, none, .freed, #[]⟩
theorem get_free {h : Heap} {a b : Addr} {o : Obj} (hb : b ≠ a) (e : h.get? b = some o) : (h.update a fun _ => freed).get? b = some o := (Heap.get?_update_other _ _ (Ne.symm hb)).trans e
theorem free_get {h : Heap} {a b : Addr} {o : Obj} (e : (h.update a fun _ => freed).get? b = some o) : b ≠ a ∧ h.get? b = some o := by
  have hb : b ≠ a := by
    rintro rfl
    obtain ⟨e1, e2⟩ := Heap.get?_some_iff.mp e
    obtain ⟨objs, l⟩ := h
    have e3 : (objs.modify b fun _ => freed)[b]? = some o := e1
    rw [Array.getElem?_modify] at e3
    simp only [if_true] at e3
    cases q : objs[b]? with
    | none => rw [q] at e3; cases e3
    | some x => rw [q] at e3; cases e3; cases e2
  exact ⟨hb, (Heap.get?_update_other _ _ (Ne.symm hb)).symm.trans e⟩
theorem free_self {h : Heap} {a : Addr} : (h.update a fun _ => freed).get? a = none := by
  cases e : (h.update a fun _ => freed).get? a with
  | none => rfl
  | some o => exact absurd rfl (free_get e).1

set_option tactic.hygienic true in
theorem look_mem {b : Addr} {o : Obj} : ∀ {K : Frag}, List.lookup b K = some o → (b, o) ∈ K
  | (c, o') :: r, e => by
    first
    | (rw [List.lookup_cons] at e
       split at e
       · rename_i z; cases e; rw [beq_iff_eq.mp z]; exact List.mem_cons_self
       · exact List.mem_cons_of_mem _ (look_mem e))
noncomputable def noList (K : Frag) : Bool := K.all fun p => !(p.2.cls == .type "list")
theorem ints_all {h : Heap} {ρ : Rho} {vs : List Value} {ns : List Int} (H : IntsAre vs ns) : All2 (VR h ρ) (ns.map .int) vs := are_ints H

theorem join_law {prog p : Program} {w : World} {s₁ : Shared} {K : Frag} {loose : List Str} {mean : ExcName → Option Value} {mg mb : Str → Option Value} {a f : Addr} {vs : List Value} {script : List Int} {N : Nat}
    (KX : K.In s₁.heap) (T : Top p loose mean mg mb s₁.heap) (ha : a ≠ sysModules) (hL : s₁.heap.IsList a vs.toArray) (hI : IntsAre vs script) (hlen : script.length ≤ big) (hno : noList K = true) (hN : 2 * N ≤ 600 ∧ 20 * N ≤ 8000)
    (law : wpCall (pgOf K) N f [.obj 0] [.ro (script.map .int)] fun v σ => v = .bool true ∧ σ[0]? = some (.ro (script.map .int))) :
    codeAny (model prog w) callerA (.call (.ref f) ⟨[.ref a], []⟩) (fun r s' => r = .ok (.ret (.bool true)) ∧ (∀ b o, s₁.heap.get? b = some o → s'.heap.get? b = some o) ∧ s'.os = s₁.os ∧ s'.gens = s₁.gens) s₁ := by
  obtain ⟨ol, hla, hlc, n, hld⟩ := hL
  have ne : ∀ {b : Addr} {o : Obj}, s₁.heap.get? b = some o → o.cls ≠ .type "list" → b ≠ a := fun e hc q => by rw [q, hla] at e; cases e; exact hc hlc
  have ne' : ∀ {b : Addr} {o : Obj} {es ep}, s₁.heap.get? b = some o → o.data = .dict es ep → b ≠ a := fun e hc q => by rw [q, hla] at e; cases e; rw [hld] at hc; cases hc
  have TR := topRead_of T
  have hg : (s₁.heap.update a fun _ => freed).Ns mainGlobals mg := TR.g.at' fun o e => get_free (by obtain ⟨o', es, ep, ho, hd, _⟩ := TR.g; exact ne' ho hd) e
  have hb : (s₁.heap.update a fun _ => freed).Ns builtinsNs mb := TR.b.at' fun o e => get_free (by obtain ⟨o', es, ep, ho, hd, _⟩ := TR.b; exact ne' ho hd) e
  have hl : (s₁.heap.update a fun _ => freed).NoLimit := TR.nolimit.at fun o e => get_free (by obtain ⟨mc, ⟨o', es, ep, ho, hd, _⟩, _⟩ := TR.nolimit; exact ne' ho hd) e
  let g : Glb := ⟨w, attrAt, s₁.heap.update a fun _ => freed, s₁.heap⟩
  have B : Base K g := by
    refine ⟨fun b o e => ?_, rfl, p, loose, mg, mb, hg, hb, hl, TR.builtins, TR.free⟩
    have hb := KX b o e
    refine get_free (ne hb fun hc => ?_) hb
    unfold noList at hno
    rw [List.all_eq_true] at hno
    have hmem : (b, o) ∈ K := look_mem e
    have := hno _ hmem
    simp [hc] at this
  have R : Rel g [(a, a)] [.ro (script.map .int)] s₁.heap := by
    refine ⟨fun b o e => (free_get e).2, ?_, fun q hq => by rw [List.mem_singleton.mp hq]; exact ha, ?_, by simp, rfl, ?_, ?_⟩
    · obtain ⟨mc, ⟨o', es, ep, ho, hd, _⟩, _⟩ := TR.nolimit
      exact ⟨o', get_free (ne' ho hd) ho⟩
    · intro q hq
      rw [List.mem_singleton.mp hq]; exact free_self
    · intro k o q e1 e2
      rcases k with _ | k
      · cases e1; cases e2
        exact ⟨rfl, by rw [List.length_map]; exact hlen, vs.toArray, ⟨ol, hla, hlc, n, hld⟩, by simpa using are_ints hI⟩
      · simp at e1
    · intro k xs q e1 e2; rfl
  have H : RoomC N callerA := ⟨rfl, by show 1 + claimMargin + 2 * N + 5 ≤ recursionLimit; unfold claimMargin recursionLimit; (first | lia | omega), by show 4 + 20 * N + 1010 ≤ cLine; unfold cLine; (first | lia | omega)⟩
  refine codeAny_mono (C_all (prog := prog) (w := w) (g := g) rfl B N H R (.cons (.obj (d := a) rfl) .nil) law) fun r s' x => ?_
  cases r with
  | error e => exact x.elim
  | ok fl =>
    cases fl <;> try exact x.elim
    obtain ⟨pv, σ', ρ', ⟨h', t', e⟩, S, R', V, rfl, hσ⟩ := x
    cases V
    refine ⟨rfl, fun b o eb => ?_, by rw [e], by rw [e]⟩
    by_cases hba : b = a
    · subst hba
      obtain ⟨δ, rfl, _⟩ := S.ext
      have := R'.fro 0 _ (b, b) hσ rfl
      exact this.trans eb
    · exact R'.keep b o (get_free hba eb)
end
open PySem

noncomputable def b_60 : MS := (.seq (.ret (.tup (.cons (.str "[]") (.cons (.str ".") (.cons (.str "{}") (.cons (.str "-") (.cons (.str "+") (.cons (.str "*") (.cons (.str "/") (.cons (.str ",") (.cons (.str "|") (.cons (.str ";") (.cons (.str "->") (.cons (.str "\\+") (.cons (.str ":-") (.cons (.str "?-") (.cons (.str "-->") (.cons (.str "!") (.cons (.str "true") (.cons (.str "fail") (.cons (.str "false") (.cons (.str "call") (.cons (.str "=") (.cons (.str "^") (.cons (.str "error") (.cons (.str "") (.cons (.str "end_of_file") (.cons (.str "system") (.cons (.str "$VAR") (.cons (.str "catch") (.cons (.str "throw") .nil)))))))))))))))))))))))))))))))
  .skip)
noncomputable def b_67 : MS := (.seq (.ret (.tup (.cons (.tup (.cons (.str ".") (.cons (.int (2)) .nil))) (.cons (.tup (.cons (.str ",") (.cons (.int (2)) .nil))) (.cons (.tup (.cons (.str ";") (.cons (.int (2)) .nil))) (.cons (.tup (.cons (.str "->") (.cons (.int (2)) .nil))) (.cons (.tup (.cons (.str "\\+") (.cons (.int (1)) .nil))) (.cons (.tup (.cons (.str ":-") (.cons (.int (2)) .nil))) (.cons (.tup (.cons (.str ":-") (.cons (.int (1)) .nil))) (.cons (.tup (.cons (.str "?-") (.cons (.int (1)) .nil))) (.cons (.tup (.cons (.str "-->") (.cons (.int (2)) .nil))) (.cons (.tup (.cons (.str "{}") (.cons (.int (1)) .nil))) (.cons (.tup (.cons (.str "=") (.cons (.int (2)) .nil))) (.cons (.tup (.cons (.str "^") (.cons (.int (2)) .nil))) (.cons (.tup (.cons (.str "-") (.cons (.int (1)) .nil))) (.cons (.tup (.cons (.str "-") (.cons (.int (2)) .nil))) (.cons (.tup (.cons (.str "+") (.cons (.int (2)) .nil))) (.cons (.tup (.cons (.str "/") (.cons (.int (2)) .nil))) (.cons (.tup (.cons (.str "error") (.cons (.int (2)) .nil))) (.cons (.tup (.cons (.str "$VAR") (.cons (.int (1)) .nil))) (.cons (.tup (.cons (.str "catch") (.cons (.int (3)) .nil))) (.cons (.tup (.cons (.str "throw") (.cons (.int (1)) .nil))) (.cons (.tup (.cons (.str "!") (.cons (.int (0)) .nil))) (.cons (.tup (.cons (.str "true") (.cons (.int (0)) .nil))) (.cons (.tup (.cons (.str "fail") (.cons (.int (0)) .nil))) (.cons (.tup (.cons (.str "false") (.cons (.int (0)) .nil))) (.cons (.tup (.cons (.str "call") (.cons (.int (1)) .nil))) (.cons (.tup (.cons (.str "call") (.cons (.int (2)) .nil))) (.cons (.tup (.cons (.str "call") (.cons (.int (3)) .nil))) (.cons (.tup (.cons (.str "call") (.cons (.int (4)) .nil))) (.cons (.tup (.cons (.str "call") (.cons (.int (5)) .nil))) (.cons (.tup (.cons (.str "call") (.cons (.int (6)) .nil))) (.cons (.tup (.cons (.str "call") (.cons (.int (7)) .nil))) (.cons (.tup (.cons (.str "call") (.cons (.int (8)) .nil))) .nil))))))))))))))))))))))))))))))))))
  .skip)
noncomputable def b_81 : MS := (.seq (.assign (.attr (.var 0) 0) (.list .nil))
  (.seq (.assign (.attr (.var 0) 1) .dict0)
  (.seq (.assign (.attr (.var 0) 2) (.list .nil))
  (.seq (.assign (.attr (.var 0) 3) .dict0)
  (.seq (.for 1 (.val (.call 60 .nil)) (.seq (.expr (.meth (.var 0) 8 (.cons (.var 1) .nil)))
  .skip))
  (.seq (.for 2 (.val (.call 67 .nil)) (.seq (.expr (.meth (.var 0) 11 (.cons (.prim .idx (.cons (.var 2) (.cons (.int (0)) .nil))) (.cons (.prim .idx (.cons (.var 2) (.cons (.int (1)) .nil))) .nil))))
  .skip))
  .skip))))))
noncomputable def b_88 : MS := (.seq (.assign (.var 2) (.bm .get (.attr (.var 0) 1) (.cons (.var 1) (.cons (.int (-1)) .nil))))
  (.seq (.ite (.e (.prim .ge (.cons (.var 2) (.cons (.int (0)) .nil)))) (.seq (.ret (.var 2))
  .skip) .skip)
  (.seq (.assign (.var 3) (.prim .len (.cons (.attr (.var 0) 0) .nil)))
  (.seq (.expr (.bm .append (.attr (.var 0) 0) (.cons (.var 1) .nil)))
  (.seq (.assign (.idx (.attr (.var 0) 1) (.var 1)) (.var 3))
  (.seq (.ret (.var 3))
  .skip))))))
noncomputable def b_95 : MS := (.seq (.ret (.prim .idx (.cons (.attr (.var 0) 0) (.cons (.var 1) .nil))))
  .skip)
noncomputable def b_102 : MS := (.seq (.assign (.var 3) (.tup (.cons (.var 1) (.cons (.var 2) .nil))))
  (.seq (.assign (.var 4) (.bm .get (.attr (.var 0) 3) (.cons (.var 3) (.cons (.int (-1)) .nil))))
  (.seq (.ite (.e (.prim .ge (.cons (.var 4) (.cons (.int (0)) .nil)))) (.seq (.ret (.var 4))
  .skip) .skip)
  (.seq (.assign (.var 5) (.prim .len (.cons (.attr (.var 0) 2) .nil)))
  (.seq (.expr (.bm .append (.attr (.var 0) 2) (.cons (.var 3) .nil)))
  (.seq (.assign (.idx (.attr (.var 0) 3) (.var 3)) (.var 5))
  (.seq (.ret (.var 5))
  .skip)))))))
noncomputable def b_109 : MS := (.seq (.ret (.meth (.var 0) 10 (.cons (.meth (.var 0) 8 (.cons (.var 1) .nil)) (.cons (.var 2) .nil))))
  .skip)
noncomputable def b_116 : MS := (.seq (.ret (.prim .idx (.cons (.prim .idx (.cons (.attr (.var 0) 2) (.cons (.var 1) .nil))) (.cons (.int (0)) .nil))))
  .skip)
noncomputable def b_123 : MS := (.seq (.ret (.prim .idx (.cons (.prim .idx (.cons (.attr (.var 0) 2) (.cons (.var 1) .nil))) (.cons (.int (1)) .nil))))
  .skip)
noncomputable def b_166 : MS := (.seq (.ret (.tup (.cons (.str "v") (.cons (.var 0) .nil))))
  .skip)
noncomputable def b_173 : MS := (.seq (.ret (.tup (.cons (.str "a") (.cons (.var 0) .nil))))
  .skip)
noncomputable def b_180 : MS := (.seq (.ret (.tup (.cons (.str "s") (.cons (.var 0) (.cons (.prim .tupleOf (.cons (.var 1) .nil)) .nil)))))
  .skip)
noncomputable def b_188 : MS := (.seq (.assign (.var 2) (.ite (.e (.prim .is (.cons (.var 1) (.cons .none .nil)))) .stuck (.var 1)))
  (.seq (.for 3 (.rev (.var 0)) (.seq (.assign (.var 2) (.tup (.cons (.str "s") (.cons (.int (0)) (.cons (.tup (.cons (.var 3) (.cons (.var 2) .nil))) .nil)))))
  .skip))
  (.seq (.ret (.var 2))
  .skip)))
noncomputable def b_195 : MS := (.seq (.assign (.var 1) (.list .nil))
  (.seq (.loop (.and (.e (.prim .eq (.cons (.prim .idx (.cons (.var 0) (.cons (.int (0)) .nil))) (.cons (.str "s") .nil)))) (.e (.prim .eq (.cons (.prim .idx (.cons (.var 0) (.cons (.int (1)) .nil))) (.cons (.int (0)) .nil))))) (.seq (.expr (.bm .append (.var 1) (.cons (.prim .idx (.cons (.prim .idx (.cons (.var 0) (.cons (.int (2)) .nil))) (.cons (.int (0)) .nil))) .nil)))
  (.seq (.assign (.var 0) (.prim .idx (.cons (.prim .idx (.cons (.var 0) (.cons (.int (2)) .nil))) (.cons (.int (1)) .nil))))
  .skip)))
  (.seq (.ret (.tup (.cons (.var 1) (.cons (.var 0) .nil))))
  .skip)))
noncomputable def b_202 : MS := (.seq (.ret (.or (.prim .eq (.cons (.prim .idx (.cons (.var 0) (.cons (.int (0)) .nil))) (.cons (.str "a") .nil))) (.prim .eq (.cons (.prim .idx (.cons (.var 0) (.cons (.int (0)) .nil))) (.cons (.str "s") .nil)))))
  .skip)
noncomputable def b_209 : MS := (.seq (.ite (.e (.prim .eq (.cons (.prim .idx (.cons (.var 1) (.cons (.int (0)) .nil))) (.cons (.str "a") .nil)))) (.seq (.ret (.meth (.var 0) 10 (.cons (.prim .idx (.cons (.var 1) (.cons (.int (1)) .nil))) (.cons (.int (0)) .nil))))
  .skip) .skip)
  (.seq (.ret (.prim .idx (.cons (.var 1) (.cons (.int (1)) .nil))))
  .skip))
noncomputable def b_216 : MS := (.seq (.ite (.e (.prim .eq (.cons (.prim .idx (.cons (.var 0) (.cons (.int (0)) .nil))) (.cons (.str "s") .nil)))) (.seq (.ret (.prim .idx (.cons (.var 0) (.cons (.int (2)) .nil))))
  .skip) .skip)
  (.seq (.ret (.tup .nil))
  .skip))
noncomputable def b_223 : MS := (.seq (.ret (.call 230 (.cons (.list (.cons (.var 0) .nil)) .nil)))
  .skip)
noncomputable def b_230 : MS := (.seq (.assign (.var 1) .dict0)
  (.seq (.assign (.var 2) (.list .nil))
  (.seq (.assign (.var 3) (.prim .listRev (.cons (.var 0) .nil)))
  (.seq (.loop (.e (.var 3)) (.seq (.assign (.var 4) (.bm .pop (.var 3) .nil))
  (.seq (.ite (.e (.prim .eq (.cons (.prim .idx (.cons (.var 4) (.cons (.int (0)) .nil))) (.cons (.str "v") .nil)))) (.seq (.ite (.e (.prim .notIn (.cons (.prim .idx (.cons (.var 4) (.cons (.int (1)) .nil))) (.cons (.var 1) .nil)))) (.seq (.assign (.idx (.var 1) (.prim .idx (.cons (.var 4) (.cons (.int (1)) .nil)))) (.bool true))
  (.seq (.expr (.bm .append (.var 2) (.cons (.prim .idx (.cons (.var 4) (.cons (.int (1)) .nil))) .nil)))
  .skip)) .skip)
  .skip) (.seq (.ite (.e (.prim .eq (.cons (.prim .idx (.cons (.var 4) (.cons (.int (0)) .nil))) (.cons (.str "s") .nil)))) (.seq (.expr (.bm .extendRev (.var 3) (.cons (.prim .idx (.cons (.var 4) (.cons (.int (2)) .nil))) .nil)))
  .skip) .skip)
  .skip))
  .skip)))
  (.seq (.ret (.var 2))
  .skip)))))
noncomputable def b_237 : MS := (.seq (.ite (.e (.prim .eq (.cons (.prim .len (.cons (.var 0) .nil)) (.cons (.int (0)) .nil)))) (.seq (.ret (.tup (.cons (.str "a") (.cons (.int (16)) .nil))))
  .skip) .skip)
  (.seq (.assign (.var 1) (.prim .idx (.cons (.var 0) (.cons (.prim .sub (.cons (.prim .len (.cons (.var 0) .nil)) (.cons (.int (1)) .nil))) .nil))))
  (.seq (.for 2 (.range (.cons (.prim .sub (.cons (.prim .len (.cons (.var 0) .nil)) (.cons (.int (2)) .nil))) (.cons (.int (-1)) (.cons (.int (-1)) .nil)))) (.seq (.assign (.var 1) (.tup (.cons (.str "s") (.cons (.int (1)) (.cons (.tup (.cons (.prim .idx (.cons (.var 0) (.cons (.var 2) .nil))) (.cons (.var 1) .nil))) .nil)))))
  .skip))
  (.seq (.ret (.var 1))
  .skip))))
noncomputable def b_280 : MS := (.seq (.assign (.attr (.var 0) 4) (.var 1))
  .skip)
noncomputable def b_287 : MS := (.seq (.assign (.var 1) (.attr (.var 0) 4))
  (.seq (.assign (.attr (.var 0) 4) (.prim .add (.cons (.var 1) (.cons (.int (1)) .nil))))
  (.seq (.ret (.var 1))
  .skip)))
noncomputable def b_301 : MS := (.seq (.assign (.var 2) (.list .nil))
  (.seq (.loop (.and (.e (.prim .eq (.cons (.prim .idx (.cons (.var 0) (.cons (.int (0)) .nil))) (.cons (.str "s") .nil)))) (.e (.prim .inn (.cons (.prim .idx (.cons (.var 0) (.cons (.int (1)) .nil))) (.cons (.var 1) .nil))))) (.seq (.expr (.bm .append (.var 2) (.cons (.prim .idx (.cons (.prim .idx (.cons (.var 0) (.cons (.int (2)) .nil))) (.cons (.int (0)) .nil))) .nil)))
  (.seq (.assign (.var 0) (.prim .idx (.cons (.prim .idx (.cons (.var 0) (.cons (.int (2)) .nil))) (.cons (.int (1)) .nil))))
  .skip)))
  (.seq (.expr (.bm .append (.var 2) (.cons (.var 0) .nil)))
  (.seq (.ret (.var 2))
  .skip))))
noncomputable def b_315 : MS := (.seq (.assign (.attr (.var 0) 5) (.var 1))
  (.seq (.assign (.attr (.var 0) 6) (.var 2))
  .skip))
noncomputable def b_322 : MS := (.seq (.assign (.var 1) (.meth (.attr (.var 0) 5) 14 .nil))
  (.seq (.loop (.e (.prim .inn (.cons (.var 1) (.cons (.attr (.var 0) 6) .nil)))) (.seq (.assign (.var 1) (.meth (.attr (.var 0) 5) 14 .nil))
  .skip))
  (.seq (.ret (.call 166 (.cons (.var 1) .nil)))
  .skip)))
noncomputable def b_336 : MS := (.seq (.ite (.or (.e (.prim .ne (.cons (.prim .idx (.cons (.var 1) (.cons (.int (0)) .nil))) (.cons (.str "s") .nil)))) (.e (.prim .ne (.cons (.prim .idx (.cons (.var 1) (.cons (.int (1)) .nil))) (.cons (.int (8)) .nil))))) (.seq (.ret (.var 1))
  .skip) .skip)
  (.seq (.assign (.var 3) (.new 325 (.cons (.var 2) (.cons (.call 223 (.cons (.var 1) .nil)) .nil))))
  (.seq (.assign (.tup [4, 5]) (.prim .idx (.cons (.var 1) (.cons (.int (2)) .nil))))
  (.seq (.assign (.var 6) .none)
  (.seq (.ite (.and (.e (.prim .eq (.cons (.prim .idx (.cons (.var 4) (.cons (.int (0)) .nil))) (.cons (.str "s") .nil)))) (.e (.prim .eq (.cons (.prim .idx (.cons (.var 4) (.cons (.int (1)) .nil))) (.cons (.int (1)) .nil))))) (.seq (.assign (.tup [4, 6]) (.prim .idx (.cons (.var 4) (.cons (.int (2)) .nil))))
  .skip) .skip)
  (.seq (.ite (.e (.prim .eq (.cons (.prim .idx (.cons (.var 4) (.cons (.int (0)) .nil))) (.cons (.str "v") .nil)))) (.seq .stuck
  .skip) .skip)
  (.seq (.ite (.not (.e (.call 202 (.cons (.var 4) .nil)))) (.seq .stuck
  .skip) .skip)
  (.seq (.assign (.var 7) (.meth (.var 3) 15 .nil))
  (.seq (.assign (.var 8) (.meth (.var 3) 15 .nil))
  (.seq (.assign (.var 9) (.call 343 (.cons (.var 0) (.cons (.var 4) (.cons (.var 7) (.cons (.var 8) .nil))))))
  (.seq (.ite (.e (.prim .is (.cons (.var 6) (.cons .none .nil)))) (.seq (.ret (.call 180 (.cons (.int (5)) (.cons (.tup (.cons (.var 9) (.cons (.call 357 (.cons (.var 0) (.cons (.var 5) (.cons (.var 7) (.cons (.var 8) (.cons (.var 3) .nil)))))) .nil))) .nil))))
  .skip) .skip)
  (.seq (.assign (.var 10) (.meth (.var 3) 15 .nil))
  (.seq (.assign (.var 11) (.call 357 (.cons (.var 0) (.cons (.var 5) (.cons (.var 7) (.cons (.var 10) (.cons (.var 3) .nil)))))))
  (.seq (.assign (.var 12) (.call 350 (.cons (.var 0) (.cons (.var 6) (.cons (.var 8) (.cons (.var 10) .nil))))))
  (.seq (.ret (.call 180 (.cons (.int (5)) (.cons (.tup (.cons (.var 9) (.cons (.call 237 (.cons (.list (.cons (.var 11) (.cons (.var 12) .nil))) .nil)) .nil))) .nil))))
  .skip)))))))))))))))
noncomputable def b_343 : MS := (.seq (.assign (.var 4) (.call 209 (.cons (.var 0) (.cons (.var 1) .nil))))
  (.seq (.assign (.var 5) (.prim .add (.cons (.call 216 (.cons (.var 1) .nil)) (.cons (.tup (.cons (.var 2) (.cons (.var 3) .nil))) .nil))))
  (.seq (.ret (.call 180 (.cons (.meth (.var 0) 10 (.cons (.meth (.var 0) 12 (.cons (.var 4) .nil)) (.cons (.prim .len (.cons (.var 5) .nil)) .nil))) (.cons (.var 5) .nil))))
  .skip)))
noncomputable def b_350 : MS := (.seq (.assign (.tup [4, 5]) (.call 195 (.cons (.var 1) .nil)))
  (.seq (.ite (.e (.prim .eq (.cons (.prim .idx (.cons (.var 5) (.cons (.int (0)) .nil))) (.cons (.str "v") .nil)))) (.seq .stuck
  .skip) .skip)
  (.seq (.ite (.e (.prim .ne (.cons (.var 5) (.cons (.call 173 (.cons (.int (0)) .nil)) .nil)))) (.seq .stuck
  .skip) .skip)
  (.seq (.ret (.call 180 (.cons (.int (10)) (.cons (.tup (.cons (.var 2) (.cons (.call 188 (.cons (.var 4) (.cons (.var 3) .nil))) .nil))) .nil))))
  .skip))))
noncomputable def b_357 : MS := (.seq (.assign (.var 5) (.call 301 (.cons (.var 1) (.cons (.tup (.cons (.int (1)) .nil)) .nil))))
  (.seq (.assign (.var 6) (.list .nil))
  (.seq (.assign (.var 7) (.var 2))
  (.seq (.for 8 (.range (.cons (.prim .len (.cons (.var 5) .nil)) .nil)) (.seq (.assign (.var 9) (.var 3))
  (.seq (.ite (.e (.prim .lt (.cons (.prim .add (.cons (.var 8) (.cons (.int (1)) .nil))) (.cons (.prim .len (.cons (.var 5) .nil)) .nil)))) (.seq (.assign (.var 9) (.meth (.var 4) 15 .nil))
  .skip) .skip)
  (.seq (.expr (.bm .append (.var 6) (.cons (.call 371 (.cons (.var 0) (.cons (.prim .idx (.cons (.var 5) (.cons (.var 8) .nil))) (.cons (.var 7) (.cons (.var 9) (.cons (.var 4) .nil)))))) .nil)))
  (.seq (.assign (.var 7) (.var 9))
  .skip)))))
  (.seq (.ret (.call 237 (.cons (.var 6) .nil)))
  .skip)))))
noncomputable def b_364 : MS := (.seq (.assign (.var 6) (.list .nil))
  (.seq (.for 7 (.val (.call 301 (.cons (.var 1) (.cons (.var 2) .nil)))) (.seq (.expr (.bm .append (.var 6) (.cons (.call 357 (.cons (.var 0) (.cons (.var 7) (.cons (.var 3) (.cons (.var 4) (.cons (.var 5) .nil)))))) .nil)))
  .skip))
  (.seq (.assign (.var 8) (.bm .pop (.var 6) .nil))
  (.seq (.loop (.e (.var 6)) (.seq (.assign (.var 8) (.call 180 (.cons (.int (2)) (.cons (.tup (.cons (.bm .pop (.var 6) .nil) (.cons (.var 8) .nil))) .nil))))
  .skip))
  (.seq (.ret (.var 8))
  .skip)))))
noncomputable def b_371 : MS := (.seq (.assign (.var 5) (.call 180 (.cons (.int (10)) (.cons (.tup (.cons (.var 2) (.cons (.var 3) .nil))) .nil))))
  (.seq (.ite (.e (.prim .eq (.cons (.prim .idx (.cons (.var 1) (.cons (.int (0)) .nil))) (.cons (.str "v") .nil)))) (.seq (.ret (.call 180 (.cons (.meth (.var 0) 11 (.cons (.str "phrase") (.cons (.int (3)) .nil))) (.cons (.tup (.cons (.var 1) (.cons (.var 2) (.cons (.var 3) .nil)))) .nil))))
  .skip) .skip)
  (.seq (.ite (.e (.prim .eq (.cons (.prim .idx (.cons (.var 1) (.cons (.int (0)) .nil))) (.cons (.str "i") .nil)))) (.seq .stuck
  .skip) .skip)
  (.seq (.ite (.e (.prim .eq (.cons (.prim .idx (.cons (.var 1) (.cons (.int (0)) .nil))) (.cons (.str "a") .nil)))) (.seq (.ite (.e (.prim .eq (.cons (.prim .idx (.cons (.var 1) (.cons (.int (1)) .nil))) (.cons (.int (0)) .nil)))) (.seq (.ret (.var 5))
  .skip) .skip)
  (.seq (.ite (.e (.prim .eq (.cons (.prim .idx (.cons (.var 1) (.cons (.int (1)) .nil))) (.cons (.int (15)) .nil)))) (.seq (.ret (.call 237 (.cons (.list (.cons (.var 1) (.cons (.var 5) .nil))) .nil)))
  .skip) .skip)
  (.seq (.ret (.call 343 (.cons (.var 0) (.cons (.var 1) (.cons (.var 2) (.cons (.var 3) .nil))))))
  .skip))) .skip)
  (.seq (.assign (.var 6) (.prim .idx (.cons (.var 1) (.cons (.int (1)) .nil))))
  (.seq (.assign (.var 7) (.meth (.var 0) 10 (.cons (.int (8)) (.cons (.int (2)) .nil))))
  (.seq (.ite (.e (.prim .eq (.cons (.var 6) (.cons (.int (0)) .nil)))) (.seq (.ret (.call 350 (.cons (.var 0) (.cons (.var 1) (.cons (.var 2) (.cons (.var 3) .nil))))))
  .skip) .skip)
  (.seq (.ite (.e (.prim .eq (.cons (.var 6) (.cons (.int (1)) .nil)))) (.seq (.ret (.call 357 (.cons (.var 0) (.cons (.var 1) (.cons (.var 2) (.cons (.var 3) (.cons (.var 4) .nil)))))))
  .skip) .skip)
  (.seq (.ite (.or (.e (.prim .eq (.cons (.var 6) (.cons (.int (2)) .nil)))) (.e (.prim .eq (.cons (.var 6) (.cons (.var 7) .nil))))) (.seq (.ret (.call 364 (.cons (.var 0) (.cons (.var 1) (.cons (.tup (.cons (.int (2)) (.cons (.var 7) .nil))) (.cons (.var 2) (.cons (.var 3) (.cons (.var 4) .nil))))))))
  .skip) .skip)
  (.seq (.ite (.e (.prim .eq (.cons (.var 6) (.cons (.int (3)) .nil)))) (.seq (.assign (.var 8) (.meth (.var 4) 15 .nil))
  (.seq (.assign (.var 9) (.call 357 (.cons (.var 0) (.cons (.prim .idx (.cons (.prim .idx (.cons (.var 1) (.cons (.int (2)) .nil))) (.cons (.int (0)) .nil))) (.cons (.var 2) (.cons (.var 8) (.cons (.var 4) .nil)))))))
  (.seq (.assign (.var 10) (.call 357 (.cons (.var 0) (.cons (.prim .idx (.cons (.prim .idx (.cons (.var 1) (.cons (.int (2)) .nil))) (.cons (.int (1)) .nil))) (.cons (.var 8) (.cons (.var 3) (.cons (.var 4) .nil)))))))
  (.seq (.ret (.call 180 (.cons (.int (3)) (.cons (.tup (.cons (.var 9) (.cons (.var 10) .nil))) .nil))))
  .skip)))) .skip)
  (.seq (.ite (.e (.prim .eq (.cons (.var 6) (.cons (.int (4)) .nil)))) (.seq (.assign (.var 11) (.meth (.var 4) 15 .nil))
  (.seq (.ret (.call 237 (.cons (.list (.cons (.call 180 (.cons (.int (4)) (.cons (.tup (.cons (.call 357 (.cons (.var 0) (.cons (.prim .idx (.cons (.prim .idx (.cons (.var 1) (.cons (.int (2)) .nil))) (.cons (.int (0)) .nil))) (.cons (.var 2) (.cons (.var 11) (.cons (.var 4) .nil)))))) .nil)) .nil))) (.cons (.var 5) .nil))) .nil)))
  .skip)) .skip)
  (.seq (.ite (.e (.prim .eq (.cons (.var 6) (.cons (.int (9)) .nil)))) (.seq (.ret (.call 237 (.cons (.list (.cons (.prim .idx (.cons (.prim .idx (.cons (.var 1) (.cons (.int (2)) .nil))) (.cons (.int (0)) .nil))) (.cons (.var 5) .nil))) .nil)))
  .skip) .skip)
  (.seq (.ret (.call 343 (.cons (.var 0) (.cons (.var 1) (.cons (.var 2) (.cons (.var 3) .nil))))))
  .skip)))))))))))))
noncomputable def b_378 : MS := (.seq (.augIdx (.var 0) (.int (1)) (.int (1)))
  (.seq (.ite (.e (.prim .gt (.cons (.prim .idx (.cons (.var 0) (.cons (.int (1)) .nil))) (.cons (.prim .len (.cons (.prim .idx (.cons (.var 0) (.cons (.int (0)) .nil))) .nil)) .nil)))) (.seq (.ret (.int (0)))
  .skip) .skip)
  (.seq (.ret (.prim .mod (.cons (.prim .abs (.cons (.prim .idx (.cons (.prim .idx (.cons (.var 0) (.cons (.int (0)) .nil))) (.cons (.prim .sub (.cons (.prim .idx (.cons (.var 0) (.cons (.int (1)) .nil))) (.cons (.int (1)) .nil))) .nil))) .nil)) (.cons (.var 1) .nil))))
  .skip)))
noncomputable def b_385 : MS := (.seq (.ret (.tup (.cons (.str "s") (.cons (.var 0) (.cons (.tup (.cons (.var 1) (.cons (.var 2) .nil))) .nil)))))
  .skip)
noncomputable def b_392 : MS := (.seq (.for 2 (.val (.prim .slice (.cons (.var 0) (.cons .none (.cons .none (.cons (.int (-1)) .nil)))))) (.seq (.assign (.var 1) (.call 385 (.cons (.int (0)) (.cons (.var 2) (.cons (.var 1) .nil)))))
  .skip))
  (.seq (.ret (.var 1))
  .skip))
noncomputable def b_399 : MS := (.seq (.assign (.var 2) (.list .nil))
  (.seq (.for 3 (.range (.cons (.prim .add (.cons (.int (1)) (.cons (.call 378 (.cons (.var 0) (.cons (.int (2)) .nil))) .nil))) .nil)) (.seq (.expr (.bm .append (.var 2) (.cons (.prim .idx (.cons (.list (.cons (.tup (.cons (.str "a") (.cons (.meth (.var 1) 8 (.cons (.str "t") .nil)) .nil))) (.cons (.tup (.cons (.str "v") (.cons (.int (1)) .nil))) (.cons (.tup (.cons (.str "i") (.cons (.int (44)) .nil))) .nil)))) (.cons (.call 378 (.cons (.var 0) (.cons (.int (3)) .nil))) .nil))) .nil)))
  .skip))
  (.seq (.ret (.var 2))
  .skip)))
noncomputable def b_404 : MS := (.seq (.assign (.var 2) (.call 378 (.cons (.var 0) (.cons (.int (3)) .nil))))
  (.seq (.ite (.e (.prim .eq (.cons (.var 2) (.cons (.int (0)) .nil)))) (.seq (.ret (.tup (.cons (.str "a") (.cons (.meth (.var 1) 8 (.cons (.str "n") .nil)) .nil))))
  .skip) .skip)
  (.seq (.ret (.tup (.cons (.str "s") (.cons (.meth (.var 1) 11 (.cons (.str "p") (.cons (.var 2) .nil))) (.cons (.prim .tupleOf (.cons (.comp (.tup (.cons (.str "v") (.cons (.call 378 (.cons (.var 0) (.cons (.int (4)) .nil))) .nil))) 50 (.range (.cons (.var 2) .nil)) .tt) .nil)) .nil)))))
  .skip)))
noncomputable def b_411 : MS := (.seq (.assign (.var 2) (.tup (.cons (.str "s") (.cons (.meth (.var 1) 11 (.cons (.str "g") (.cons (.int (1)) .nil))) (.cons (.tup (.cons (.tup (.cons (.str "v") (.cons (.int (2)) .nil))) .nil)) .nil)))))
  (.seq (.ite (.e (.prim .eq (.cons (.call 378 (.cons (.var 0) (.cons (.int (2)) .nil))) (.cons (.int (1)) .nil)))) (.seq (.ret (.call 385 (.cons (.int (1)) (.cons (.call 385 (.cons (.int (1)) (.cons (.var 2) (.cons (.tup (.cons (.str "v") (.cons (.int (0)) .nil))) .nil)))) (.cons (.var 2) .nil)))))
  .skip) .skip)
  (.seq (.ret (.var 2))
  .skip)))
noncomputable def b_418 : MS := (.seq (.assign (.var 3) (.call 378 (.cons (.var 0) (.cons (.ite (.e (.prim .gt (.cons (.var 2) (.cons (.int (0)) .nil)))) (.int (11)) (.int (6))) .nil))))
  (.seq (.ite (.e (.prim .eq (.cons (.var 3) (.cons (.int (0)) .nil)))) (.seq (.ret (.call 392 (.cons (.call 399 (.cons (.var 0) (.cons (.var 1) .nil))) (.cons (.tup (.cons (.str "a") (.cons (.int (0)) .nil))) .nil))))
  .skip) .skip)
  (.seq (.ite (.e (.prim .eq (.cons (.var 3) (.cons (.int (1)) .nil)))) (.seq (.ret (.tup (.cons (.str "a") (.cons (.int (0)) .nil))))
  .skip) .skip)
  (.seq (.ite (.e (.prim .eq (.cons (.var 3) (.cons (.int (2)) .nil)))) (.seq (.ret (.tup (.cons (.str "a") (.cons (.int (15)) .nil))))
  .skip) .skip)
  (.seq (.ite (.e (.prim .eq (.cons (.var 3) (.cons (.int (3)) .nil)))) (.seq (.ret (.call 404 (.cons (.var 0) (.cons (.var 1) .nil))))
  .skip) .skip)
  (.seq (.ite (.e (.prim .eq (.cons (.var 3) (.cons (.int (4)) .nil)))) (.seq (.ret (.tup (.cons (.str "s") (.cons (.int (9)) (.cons (.tup (.cons (.call 411 (.cons (.var 0) (.cons (.var 1) .nil))) .nil)) .nil)))))
  .skip) .skip)
  (.seq (.ite (.e (.prim .eq (.cons (.var 3) (.cons (.int (5)) .nil)))) (.seq (.ret (.tup (.cons (.str "v") (.cons (.call 378 (.cons (.var 0) (.cons (.int (4)) .nil))) .nil))))
  .skip) .skip)
  (.seq (.assign (.var 4) (.call 418 (.cons (.var 0) (.cons (.var 1) (.cons (.prim .sub (.cons (.var 2) (.cons (.int (1)) .nil))) .nil)))))
  (.seq (.ite (.e (.prim .eq (.cons (.var 3) (.cons (.int (9)) .nil)))) (.seq (.ret (.tup (.cons (.str "s") (.cons (.int (4)) (.cons (.tup (.cons (.var 4) .nil)) .nil)))))
  .skip) .skip)
  (.seq (.assign (.var 5) (.call 418 (.cons (.var 0) (.cons (.var 1) (.cons (.prim .sub (.cons (.var 2) (.cons (.int (1)) .nil))) .nil)))))
  (.seq (.ite (.or (.e (.prim .eq (.cons (.var 3) (.cons (.int (7)) .nil)))) (.e (.prim .eq (.cons (.var 3) (.cons (.int (10)) .nil))))) (.seq (.ret (.call 385 (.cons (.ite (.e (.prim .eq (.cons (.var 3) (.cons (.int (7)) .nil)))) (.int (2)) (.meth (.var 1) 10 (.cons (.int (8)) (.cons (.int (2)) .nil)))) (.cons (.var 4) (.cons (.var 5) .nil)))))
  .skip) .skip)
  (.seq (.ret (.call 385 (.cons (.ite (.e (.prim .eq (.cons (.var 3) (.cons (.int (8)) .nil)))) (.int (3)) (.int (1))) (.cons (.var 4) (.cons (.var 5) .nil)))))
  .skip))))))))))))
noncomputable def b_425 : MS := (.seq (.augIdx (.var 0) (.int (0)) (.int (1)))
  (.seq (.ret (.tup (.cons (.str "v") (.cons (.prim .add (.cons (.int (1000)) (.cons (.prim .idx (.cons (.var 0) (.cons (.int (0)) .nil))) .nil))) .nil))))
  .skip))
noncomputable def b_432 : MS := (.seq (.ite (.e (.prim .eq (.cons (.prim .idx (.cons (.var 1) (.cons (.int (0)) .nil))) (.cons (.str "a") .nil)))) (.seq (.ret (.tup (.cons (.str "s") (.cons (.meth (.var 0) 10 (.cons (.prim .idx (.cons (.var 1) (.cons (.int (1)) .nil))) (.cons (.int (2)) .nil))) (.cons (.tup (.cons (.var 2) (.cons (.var 3) .nil))) .nil)))))
  .skip) .skip)
  (.seq (.ret (.tup (.cons (.str "s") (.cons (.meth (.var 0) 11 (.cons (.str "p") (.cons (.prim .add (.cons (.prim .len (.cons (.prim .idx (.cons (.var 1) (.cons (.int (2)) .nil))) .nil)) (.cons (.int (2)) .nil))) .nil))) (.cons (.prim .add (.cons (.prim .idx (.cons (.var 1) (.cons (.int (2)) .nil))) (.cons (.tup (.cons (.var 2) (.cons (.var 3) .nil))) .nil))) .nil)))))
  .skip))
noncomputable def b_439 : MS := (.seq (.assign (.var 5) (.call 385 (.cons (.int (10)) (.cons (.var 2) (.cons (.var 3) .nil)))))
  (.seq (.ite (.e (.prim .eq (.cons (.prim .idx (.cons (.var 1) (.cons (.int (0)) .nil))) (.cons (.str "v") .nil)))) (.seq (.ret (.tup (.cons (.str "s") (.cons (.meth (.var 0) 11 (.cons (.str "phrase") (.cons (.int (3)) .nil))) (.cons (.tup (.cons (.var 1) (.cons (.var 2) (.cons (.var 3) .nil)))) .nil)))))
  .skip) .skip)
  (.seq (.ite (.e (.prim .eq (.cons (.var 1) (.cons (.tup (.cons (.str "a") (.cons (.int (0)) .nil))) .nil)))) (.seq (.ret (.var 5))
  .skip) .skip)
  (.seq (.ite (.e (.prim .eq (.cons (.var 1) (.cons (.tup (.cons (.str "a") (.cons (.int (15)) .nil))) .nil)))) (.seq (.ret (.call 385 (.cons (.int (1)) (.cons (.var 1) (.cons (.var 5) .nil)))))
  .skip) .skip)
  (.seq (.ite (.e (.prim .eq (.cons (.prim .idx (.cons (.var 1) (.cons (.int (0)) .nil))) (.cons (.str "a") .nil)))) (.seq (.ret (.call 432 (.cons (.var 0) (.cons (.var 1) (.cons (.var 2) (.cons (.var 3) .nil))))))
  .skip) .skip)
  (.seq (.assign (.var 6) (.prim .idx (.cons (.var 1) (.cons (.int (1)) .nil))))
  (.seq (.ite (.e (.prim .eq (.cons (.var 6) (.cons (.int (0)) .nil)))) (.seq (.assign (.var 7) (.list .nil))
  (.seq (.loop (.e (.prim .eq (.cons (.prim .idx (.cons (.var 1) (.cons (.int (0)) .nil))) (.cons (.str "s") .nil)))) (.seq (.expr (.bm .append (.var 7) (.cons (.prim .idx (.cons (.prim .idx (.cons (.var 1) (.cons (.int (2)) .nil))) (.cons (.int (0)) .nil))) .nil)))
  (.seq (.assign (.var 1) (.prim .idx (.cons (.prim .idx (.cons (.var 1) (.cons (.int (2)) .nil))) (.cons (.int (1)) .nil))))
  .skip)))
  (.seq (.ret (.call 385 (.cons (.int (10)) (.cons (.var 2) (.cons (.call 392 (.cons (.var 7) (.cons (.var 3) .nil))) .nil)))))
  .skip))) .skip)
  (.seq (.ite (.e (.prim .eq (.cons (.var 6) (.cons (.int (9)) .nil)))) (.seq (.ret (.call 385 (.cons (.int (1)) (.cons (.prim .idx (.cons (.prim .idx (.cons (.var 1) (.cons (.int (2)) .nil))) (.cons (.int (0)) .nil))) (.cons (.var 5) .nil)))))
  .skip) .skip)
  (.seq (.ite (.e (.prim .eq (.cons (.var 6) (.cons (.int (4)) .nil)))) (.seq (.assign (.var 8) (.call 439 (.cons (.var 0) (.cons (.prim .idx (.cons (.prim .idx (.cons (.var 1) (.cons (.int (2)) .nil))) (.cons (.int (0)) .nil))) (.cons (.var 2) (.cons (.call 425 (.cons (.var 4) .nil)) (.cons (.var 4) .nil)))))))
  (.seq (.ret (.call 385 (.cons (.int (1)) (.cons (.tup (.cons (.str "s") (.cons (.int (4)) (.cons (.tup (.cons (.var 8) .nil)) .nil)))) (.cons (.var 5) .nil)))))
  .skip)) .skip)
  (.seq (.ite (.or (.e (.prim .eq (.cons (.var 6) (.cons (.int (1)) .nil)))) (.e (.prim .eq (.cons (.var 6) (.cons (.int (3)) .nil))))) (.seq (.assign (.var 9) (.call 425 (.cons (.var 4) .nil)))
  (.seq (.assign (.var 10) (.call 439 (.cons (.var 0) (.cons (.prim .idx (.cons (.prim .idx (.cons (.var 1) (.cons (.int (2)) .nil))) (.cons (.int (0)) .nil))) (.cons (.var 2) (.cons (.var 9) (.cons (.var 4) .nil)))))))
  (.seq (.ret (.call 385 (.cons (.var 6) (.cons (.var 10) (.cons (.call 439 (.cons (.var 0) (.cons (.prim .idx (.cons (.prim .idx (.cons (.var 1) (.cons (.int (2)) .nil))) (.cons (.int (1)) .nil))) (.cons (.var 9) (.cons (.var 3) (.cons (.var 4) .nil)))))) .nil)))))
  .skip))) .skip)
  (.seq (.ite (.or (.e (.prim .eq (.cons (.var 6) (.cons (.int (2)) .nil)))) (.e (.prim .eq (.cons (.var 6) (.cons (.meth (.var 0) 10 (.cons (.int (8)) (.cons (.int (2)) .nil))) .nil))))) (.seq (.assign (.var 10) (.call 439 (.cons (.var 0) (.cons (.prim .idx (.cons (.prim .idx (.cons (.var 1) (.cons (.int (2)) .nil))) (.cons (.int (0)) .nil))) (.cons (.var 2) (.cons (.var 3) (.cons (.var 4) .nil)))))))
  (.seq (.ret (.call 385 (.cons (.int (2)) (.cons (.var 10) (.cons (.call 439 (.cons (.var 0) (.cons (.prim .idx (.cons (.prim .idx (.cons (.var 1) (.cons (.int (2)) .nil))) (.cons (.int (1)) .nil))) (.cons (.var 2) (.cons (.var 3) (.cons (.var 4) .nil)))))) .nil)))))
  .skip)) .skip)
  (.seq (.ret (.call 432 (.cons (.var 0) (.cons (.var 1) (.cons (.var 2) (.cons (.var 3) .nil))))))
  .skip))))))))))))
noncomputable def b_446 : MS := (.seq (.ite (.and (.e (.prim .eq (.cons (.prim .idx (.cons (.var 0) (.cons (.int (0)) .nil))) (.cons (.str "v") .nil)))) (.e (.prim .ge (.cons (.prim .idx (.cons (.var 0) (.cons (.int (1)) .nil))) (.cons (.int (1000)) .nil))))) (.seq (.ite (.e (.prim .notIn (.cons (.prim .idx (.cons (.var 0) (.cons (.int (1)) .nil))) (.cons (.var 2) .nil)))) (.seq (.ite (.or (.e (.prim .ne (.cons (.prim .idx (.cons (.var 1) (.cons (.int (0)) .nil))) (.cons (.str "v") .nil)))) (.or (.e (.prim .lt (.cons (.prim .idx (.cons (.var 1) (.cons (.int (1)) .nil))) (.cons (.var 3) .nil)))) (.e (.prim .inVals (.cons (.prim .idx (.cons (.var 1) (.cons (.int (1)) .nil))) (.cons (.var 2) .nil)))))) (.seq (.ret (.bool false))
  .skip) .skip)
  (.seq (.assign (.idx (.var 2) (.prim .idx (.cons (.var 0) (.cons (.int (1)) .nil)))) (.prim .idx (.cons (.var 1) (.cons (.int (1)) .nil))))
  .skip)) .skip)
  (.seq (.ret (.prim .eq (.cons (.var 1) (.cons (.tup (.cons (.str "v") (.cons (.prim .idx (.cons (.var 2) (.cons (.prim .idx (.cons (.var 0) (.cons (.int (1)) .nil))) .nil))) .nil))) .nil))))
  .skip)) .skip)
  (.seq (.ite (.or (.e (.prim .ne (.cons (.prim .idx (.cons (.var 0) (.cons (.int (0)) .nil))) (.cons (.str "s") .nil)))) (.e (.prim .ne (.cons (.prim .idx (.cons (.var 1) (.cons (.int (0)) .nil))) (.cons (.str "s") .nil))))) (.seq (.ret (.prim .eq (.cons (.var 0) (.cons (.var 1) .nil))))
  .skip) .skip)
  (.seq (.ite (.or (.e (.prim .ne (.cons (.prim .idx (.cons (.var 0) (.cons (.int (1)) .nil))) (.cons (.prim .idx (.cons (.var 1) (.cons (.int (1)) .nil))) .nil)))) (.e (.prim .ne (.cons (.prim .len (.cons (.prim .idx (.cons (.var 0) (.cons (.int (2)) .nil))) .nil)) (.cons (.prim .len (.cons (.prim .idx (.cons (.var 1) (.cons (.int (2)) .nil))) .nil)) .nil))))) (.seq (.ret (.bool false))
  .skip) .skip)
  (.seq (.for 4 (.range (.cons (.prim .len (.cons (.prim .idx (.cons (.var 1) (.cons (.int (2)) .nil))) .nil)) .nil)) (.seq (.ite (.not (.e (.call 446 (.cons (.prim .idx (.cons (.prim .idx (.cons (.var 0) (.cons (.int (2)) .nil))) (.cons (.var 4) .nil))) (.cons (.prim .idx (.cons (.prim .idx (.cons (.var 1) (.cons (.int (2)) .nil))) (.cons (.var 4) .nil))) (.cons (.var 2) (.cons (.var 3) .nil))))))) (.seq (.ret (.bool false))
  .skip) .skip)
  .skip))
  (.seq (.ret (.bool true))
  .skip)))))
noncomputable def b_453 : MS := (.seq (.ite (.e (.prim .eq (.cons (.prim .idx (.cons (.var 0) (.cons (.int (0)) .nil))) (.cons (.str "v") .nil)))) (.seq (.expr (.bm .append (.var 1) (.cons (.prim .idx (.cons (.var 0) (.cons (.int (1)) .nil))) .nil)))
  .skip) .skip)
  (.seq (.ite (.e (.prim .eq (.cons (.prim .idx (.cons (.var 0) (.cons (.int (0)) .nil))) (.cons (.str "s") .nil)))) (.seq (.for 2 (.val (.prim .idx (.cons (.var 0) (.cons (.int (2)) .nil)))) (.seq (.expr (.call 453 (.cons (.var 2) (.cons (.var 1) .nil))))
  .skip))
  .skip) .skip)
  (.seq (.ret (.var 1))
  .skip)))
noncomputable def b_460 : MS := (.seq (.assign (.var 1) (.list (.cons (.prim .slice (.cons (.var 0) (.cons .none (.cons (.int (80)) (.cons .none .nil))))) (.cons (.int (0)) .nil))))
  (.seq (.assign (.var 2) (.new 154 .nil))
  (.seq (.assign (.var 3) (.call 378 (.cons (.var 1) (.cons (.int (6)) .nil))))
  (.seq (.assign (.var 4) (.call 404 (.cons (.var 1) (.cons (.var 2) .nil))))
  (.seq (.assign (.var 5) .none)
  (.seq (.ite (.e (.prim .eq (.cons (.call 378 (.cons (.var 1) (.cons (.int (3)) .nil))) (.cons (.int (2)) .nil)))) (.seq (.assign (.var 5) (.call 399 (.cons (.var 1) (.cons (.var 2) .nil))))
  .skip) .skip)
  (.seq (.assign (.var 6) (.call 418 (.cons (.var 1) (.cons (.var 2) (.cons (.int (3)) .nil)))))
  (.seq (.assign (.var 7) (.ite (.e (.prim .is (.cons (.var 5) (.cons .none .nil)))) (.var 4) (.call 385 (.cons (.int (1)) (.cons (.var 4) (.cons (.call 392 (.cons (.var 5) (.cons (.tup (.cons (.str "a") (.cons (.int (0)) .nil))) .nil))) .nil))))))
  (.seq (.assign (.var 8) (.call 385 (.cons (.int (8)) (.cons (.var 7) (.cons (.var 6) .nil)))))
  (.seq (.assign (.var 9) (.list (.cons (.int (0)) .nil)))
  (.seq (.assign (.var 10) (.call 425 (.cons (.var 9) .nil)))
  (.seq (.assign (.var 11) (.call 425 (.cons (.var 9) .nil)))
  (.seq (.assign (.var 12) (.ite (.e (.prim .is (.cons (.var 5) (.cons .none .nil)))) (.var 11) (.call 425 (.cons (.var 9) .nil))))
  (.seq (.assign (.var 13) (.call 439 (.cons (.var 2) (.cons (.var 6) (.cons (.var 10) (.cons (.var 12) (.cons (.var 9) .nil)))))))
  (.seq (.ite (.e (.prim .isNot (.cons (.var 5) (.cons .none .nil)))) (.seq (.assign (.var 13) (.call 385 (.cons (.int (1)) (.cons (.var 13) (.cons (.call 385 (.cons (.int (10)) (.cons (.var 11) (.cons (.call 392 (.cons (.var 5) (.cons (.var 12) .nil))) .nil)))) .nil)))))
  .skip) .skip)
  (.seq (.assign (.var 14) (.call 385 (.cons (.int (5)) (.cons (.call 432 (.cons (.var 2) (.cons (.var 4) (.cons (.var 10) (.cons (.var 11) .nil))))) (.cons (.var 13) .nil)))))
  (.seq (.assign (.var 15) (.call 336 (.cons (.var 2) (.cons (.var 8) (.cons (.new 290 (.cons (.var 3) .nil)) .nil)))))
  (.seq (.assign (.var 16) .dict0)
  (.seq (.ite (.not (.e (.call 446 (.cons (.var 14) (.cons (.var 15) (.cons (.var 16) (.cons (.var 3) .nil))))))) (.seq (.ret (.bool false))
  .skip) .skip)
  (.seq (.for 17 (.val (.call 453 (.cons (.var 8) (.cons (.list .nil) .nil)))) (.seq (.ite (.e (.prim .inVals (.cons (.var 17) (.cons (.var 16) .nil)))) (.seq (.ret (.bool false))
  .skip) .skip)
  .skip))
  (.seq (.ret (.prim .eq (.cons (.call 336 (.cons (.var 2) (.cons (.var 6) (.cons (.new 290 (.cons (.int (0)) .nil)) .nil)))) (.cons (.var 6) .nil))))
  .skip)))))))))))))))))))))

structure TabP (P : Pg) : Prop where
  f60 : P.fn 60 = some ⟨0, b_60⟩
  f67 : P.fn 67 = some ⟨0, b_67⟩
  f81 : P.fn 81 = some ⟨1, b_81⟩
  f88 : P.fn 88 = some ⟨2, b_88⟩
  f95 : P.fn 95 = some ⟨2, b_95⟩
  f102 : P.fn 102 = some ⟨3, b_102⟩
  f109 : P.fn 109 = some ⟨3, b_109⟩
  f116 : P.fn 116 = some ⟨2, b_116⟩
  f123 : P.fn 123 = some ⟨2, b_123⟩
  f166 : P.fn 166 = some ⟨1, b_166⟩
  f173 : P.fn 173 = some ⟨1, b_173⟩
  f180 : P.fn 180 = some ⟨2, b_180⟩
  f188 : P.fn 188 = some ⟨2, b_188⟩
  f195 : P.fn 195 = some ⟨1, b_195⟩
  f202 : P.fn 202 = some ⟨1, b_202⟩
  f209 : P.fn 209 = some ⟨2, b_209⟩
  f216 : P.fn 216 = some ⟨1, b_216⟩
  f223 : P.fn 223 = some ⟨1, b_223⟩
  f230 : P.fn 230 = some ⟨1, b_230⟩
  f237 : P.fn 237 = some ⟨1, b_237⟩
  f280 : P.fn 280 = some ⟨2, b_280⟩
  f287 : P.fn 287 = some ⟨1, b_287⟩
  f301 : P.fn 301 = some ⟨2, b_301⟩
  f315 : P.fn 315 = some ⟨3, b_315⟩
  f322 : P.fn 322 = some ⟨1, b_322⟩
  f336 : P.fn 336 = some ⟨3, b_336⟩
  f343 : P.fn 343 = some ⟨4, b_343⟩
  f350 : P.fn 350 = some ⟨4, b_350⟩
  f357 : P.fn 357 = some ⟨5, b_357⟩
  f364 : P.fn 364 = some ⟨6, b_364⟩
  f371 : P.fn 371 = some ⟨5, b_371⟩
  i154 : P.init 154 = some 81
  i290 : P.init 290 = some 280
  i325 : P.init 325 = some 315
  m8 : P.meth 154 8 = some 88
  m9 : P.meth 154 9 = some 95
  m10 : P.meth 154 10 = some 102
  m11 : P.meth 154 11 = some 109
  m12 : P.meth 154 12 = some 116
  m13 : P.meth 154 13 = some 123
  m14 : P.meth 290 14 = some 287
  m15 : P.meth 325 15 = some 322
  s0 : P.fld 154 0 = true
  s1 : P.fld 154 1 = true
  s2 : P.fld 154 2 = true
  s3 : P.fld 154 3 = true
  s4 : P.fld 290 4 = true
  s5 : P.fld 325 5 = true
  s6 : P.fld 325 6 = true

structure Tab1 (P : Pg) : Prop extends TabP P where
  f378 : P.fn 378 = some ⟨2, b_378⟩
  f385 : P.fn 385 = some ⟨3, b_385⟩
  f392 : P.fn 392 = some ⟨2, b_392⟩
  f399 : P.fn 399 = some ⟨2, b_399⟩
  f404 : P.fn 404 = some ⟨2, b_404⟩
  f411 : P.fn 411 = some ⟨2, b_411⟩
  f418 : P.fn 418 = some ⟨3, b_418⟩
  f425 : P.fn 425 = some ⟨1, b_425⟩
  f432 : P.fn 432 = some ⟨4, b_432⟩
  f439 : P.fn 439 = some ⟨5, b_439⟩
  f446 : P.fn 446 = some ⟨4, b_446⟩
  f453 : P.fn 453 = some ⟨2, b_453⟩
  f460 : P.fn 460 = some ⟨1, b_460⟩

theorem get_set_eq {σ : St} {k : Nat} {o o' : AObj} (h : σ[k]? = some o) : (σ.set k o')[k]? = some o' := List.getElem?_set_self (List.getElem?_eq_some_iff.mp h).1
theorem get_set_ne {σ : St} {j k : Nat} {o' o : AObj} (h : k ≠ j) (e : σ[j]? = some o) : (σ.set k o')[j]? = some o := (List.getElem?_set_ne h).trans e
theorem get_app {σ l : St} {k : Nat} {o : AObj} (h : σ[k]? = some o) : (σ ++ l)[k]? = some o := by
  rw [List.getElem?_append_left (List.getElem?_eq_some_iff.mp h).1]; exact h
theorem get_new {σ : St} {o : AObj} : (σ ++ [o])[σ.length]? = some o := by simp


theorem bmOk_get {σ : St} {k : Nat} {kvs : List (PV × PV)} (h : σ[k]? = some (.dict kvs)) : bmOk .get (.obj k) σ := by
  exact ⟨k, kvs, rfl, h, trivial⟩
theorem bmOk_list {σ : St} {k : Nat} {xs : List PV} {m : BM} (h : σ[k]? = some (.list xs)) (hm : m ≠ .get) : bmOk m (.obj k) σ := by
  cases m <;> first | exact ⟨k, xs, rfl, h, trivial⟩ | exact absurd rfl hm
theorem of_ite_pos {c : Prop} [inst : Decidable c] {α β : Prop} (h : c) (q : α) : @ite _ c inst α β := by rw [if_pos h]; exact q
theorem of_ite_neg {c : Prop} [inst : Decidable c] {α β : Prop} (h : ¬c) (q : β) : @ite _ c inst α β := by rw [if_neg h]; exact q

theorem inS_dict {σ : St} {k : Nat} {kvs : List (PV × PV)} {x : PV} (h : σ[k]? = some (.dict kvs)) (hk : keysLike x kvs = true) : inS σ x (.obj k) = some (dget x kvs).isSome := (congrArg (fun o => Option.bind o (inA x)) h).trans (if_pos hk)
theorem inS_list {σ : St} {k : Nat} {ys : List PV} {x : PV} (h : σ[k]? = some (.list ys)) : inS σ x (.obj k) = anyL (fun y => eqv eqDepth y x) ys := congrArg (fun o => Option.bind o (inA x)) h
theorem truthy_list {σ : St} {k : Nat} {xs : List PV} (h : σ[k]? = some (.list xs)) : truthy σ (.obj k) = some (!xs.isEmpty) := congrArg (Option.map fun (xs : List PV) => !xs.isEmpty) (lst_of h)

noncomputable def seqK (C : CT) (P : Pg) (b : MS) (Q : SQ) : SQ := seqF (fun lm σ => wps C P b lm σ Q) Q
noncomputable def methK (C : CT) (P : Pg) (m : Nat) (es : MEs) (lm : LM) (Q : EQ) (o : PV) (σ : St) : Prop := insB σ o fun k c fs => optB (P.meth c m) fun f => fs.lookup m = Option.none ∧ wpes C P es lm σ fun vs σ₂ => C f (.obj k :: vs) σ₂ Q
noncomputable def orK (C : CT) (P : Pg) (b : ME) (lm : LM) (Q : EQ) (v : PV) (σ : St) : Prop := optB (truthy σ v) fun t => if t then Q v σ else wpe C P b lm σ Q

noncomputable def kRet (Q : SQ) (lm : LM) : EQ := fun v σ => Q (.ret v) lm σ
noncomputable def kExp (Q : SQ) (lm : LM) : EQ := fun _ σ => Q .next lm σ
noncomputable def kNx (Q : SQ) : LM → St → Prop := fun lm σ => Q .next lm σ
noncomputable def kAsg (C : CT) (P : Pg) (t : TG) (Q : SQ) (lm : LM) : EQ := fun v σ => wptg C P t v lm σ (kNx Q)
noncomputable def kSite (C : CT) (P : Pg) (a b : MS) (lm : LM) (Q : SQ) : Bool → St → Prop := fun t σ => if t then wps C P a lm σ Q else wps C P b lm σ Q
noncomputable def kAnd (C : CT) (P : Pg) (b : MT) (lm : LM) (Q : Bool → St → Prop) : Bool → St → Prop := fun t σ => if t then wpt C P b lm σ Q else Q false σ
noncomputable def kOr (C : CT) (P : Pg) (b : MT) (lm : LM) (Q : Bool → St → Prop) : Bool → St → Prop := fun t σ => if t then Q true σ else wpt C P b lm σ Q
noncomputable def kNot (Q : Bool → St → Prop) : Bool → St → Prop := fun b σ => Q (!b) σ
noncomputable def kIte (C : CT) (P : Pg) (a b : ME) (lm : LM) (Q : EQ) : Bool → St → Prop := fun t σ => if t then wpe C P a lm σ Q else wpe C P b lm σ Q
noncomputable def kCall (C : CT) (f : Addr) (Q : EQ) : List PV → St → Prop := fun vs σ => C f vs σ Q
noncomputable def kCons2 (v : PV) (Q : List PV → St → Prop) : List PV → St → Prop := fun vs σ => Q (v :: vs) σ
noncomputable def kCons1 (C : CT) (P : Pg) (es : MEs) (lm : LM) (Q : List PV → St → Prop) : EQ := fun v σ => wpes C P es lm σ (kCons2 v Q)
noncomputable def kP1 (p : Prim) (Q : EQ) : EQ := fun x σ => prim p [x] σ Q
noncomputable def kP2b (p : Prim) (x : PV) (Q : EQ) : EQ := fun y σ => prim p [x, y] σ Q
noncomputable def kP2 (C : CT) (P : Pg) (p : Prim) (b : ME) (lm : LM) (Q : EQ) : EQ := fun x σ => wpe C P b lm σ (kP2b p x Q)
noncomputable def kPn (p : Prim) (Q : EQ) : List PV → St → Prop := fun vs σ => prim p vs σ Q
noncomputable def kTup (Q : EQ) : List PV → St → Prop := fun vs σ => vs.length ≤ big ∧ Q (.tup vs) σ
noncomputable def kList (Q : EQ) : List PV → St → Prop := fun vs σ => vs.length ≤ big ∧ Q (.obj σ.length) (σ ++ [.list vs])
noncomputable def kBm2 (m : BM) (o : PV) (Q : EQ) : List PV → St → Prop := fun vs σ => bmeth m o vs σ Q
noncomputable def kBm (C : CT) (P : Pg) (m : BM) (es : MEs) (lm : LM) (Q : EQ) : EQ := fun o σ => bmOk m o σ ∧ wpes C P es lm σ (kBm2 m o Q)
noncomputable def kMeth (C : CT) (f : Addr) (k : Nat) (Q : EQ) : List PV → St → Prop := fun vs σ => C f (.obj k :: vs) σ Q
noncomputable def kNew (n : Nat) (Q : EQ) : EQ := fun r σ => r = .none ∧ Q (.obj n) σ
noncomputable def kTA2 (Q : LM → St → Prop) (lm : LM) : St → Prop := fun σ => Q lm σ
noncomputable def kTA (P : Pg) (a : Nat) (v : PV) (Q : LM → St → Prop) (lm : LM) : EQ := fun o σ => setAttr' P.fld o a v σ (kTA2 Q lm)
noncomputable def kTI2 (o v : PV) (Q : LM → St → Prop) (lm : LM) : EQ := fun iv σ => setIdx o iv v σ (kTA2 Q lm)
noncomputable def kTI (C : CT) (P : Pg) (i : ME) (v : PV) (Q : LM → St → Prop) (lm : LM) : EQ := fun o σ => wpe C P i lm σ (kTI2 o v Q lm)
noncomputable def kFor (C : CT) (P : Pg) (b : MS) (x : Nat) (lm : LM) (Q : SQ) : List PV → (St → Prop) → St → Prop := fun ys chk σ => forW (wps C P b) x chk ys lm σ Q
noncomputable def kLoop (B : LM → St → SQ → Prop) (lm : LM) (I : Nat → LM → St → Prop) (n : Nat) (Q : SQ) : Bool → St → Prop := fun t σ => if t then B lm σ (loopK I n Q) else Q .next lm σ
section
variable {C : CT} {P : Pg} {lm : LM} {σ : St}
section
variable {Q : Bool → St → Prop}
theorem r_truB {b : Bool} (q : Q b σ) : truK Q (.bool b) σ := ⟨b, rfl, q⟩
theorem r_tru {v : PV} {t : Bool} (h : truthy σ v = some t) (q : Q t σ) : truK Q v σ := ⟨t, h, q⟩
theorem r_truL {k : Nat} {xs : List PV} (h : σ[k]? = some (.list xs)) (q : Q (!xs.isEmpty) σ) : truK Q (.obj k) σ := ⟨_, congrArg (Option.map fun (xs : List PV) => !xs.isEmpty) (lst_of h), q⟩
theorem r_tt (q : Q true σ) : wpt C P .tt lm σ Q := q
theorem r_te {e : ME} (q : wpe C P e lm σ (truK Q)) : wpt C P (.e e) lm σ Q := q
theorem r_tnot {t : MT} (q : wpt C P t lm σ (kNot Q)) : wpt C P (.not t) lm σ Q := q
theorem r_tand {a b : MT} (q : wpt C P a lm σ (kAnd C P b lm Q)) : wpt C P (.and a b) lm σ Q := q
theorem r_tor {a b : MT} (q : wpt C P a lm σ (kOr C P b lm Q)) : wpt C P (.or a b) lm σ Q := q
end
section
variable {Q : SQ}
set_option tactic.hygienic true in
theorem r_seqN {b : MS} (q : wps C P b lm σ Q) : seqK C P b Q .next lm σ := q
theorem r_seqR {b : MS} {v : PV} (q : Q (.ret v) lm σ) : seqK C P b Q (.ret v) lm σ := q
set_option tactic.hygienic true in
theorem r_forN {K : LM → St → Prop} (q : K lm σ) : forK K Q .next lm σ := q
theorem r_forR {K : LM → St → Prop} {v : PV} (q : Q (.ret v) lm σ) : forK K Q (.ret v) lm σ := q
set_option tactic.hygienic true in
theorem r_loopN {I : Nat → LM → St → Prop} {n : Nat} (q : ∃ m, m < n ∧ I m lm σ) : loopK I n Q .next lm σ := q
theorem r_loopR {I : Nat → LM → St → Prop} {n : Nat} {v : PV} (q : Q (.ret v) lm σ) : loopK I n Q (.ret v) lm σ := q
set_option tactic.hygienic true in
theorem r_addK {ov iv : PV} {a b : Int} (q : setIdx ov iv (.int (a + b)) σ fun σ₅ => Q .next lm σ₅) : addK lm Q ov iv (.int a) (.int b) σ := ⟨a, b, rfl, rfl, q⟩
set_option tactic.hygienic true in
theorem r_skip (q : Q .next lm σ) : wps C P .skip lm σ Q := q
theorem r_ret {e : ME} (q : wpe C P e lm σ (kRet Q lm)) : wps C P (.ret e) lm σ Q := q
theorem r_expr {e : ME} (q : wpe C P e lm σ (kExp Q lm)) : wps C P (.expr e) lm σ Q := q
theorem r_assign {t : TG} {e : ME} (q : wpe C P e lm σ (kAsg C P t Q lm)) : wps C P (.assign t e) lm σ Q := q
theorem r_augIdx {o i e : ME} (q : wpe C P o lm σ fun ov σ₁ => wpe C P i lm σ₁ fun iv σ₂ => prim .idx [ov, iv] σ₂ fun old σ₃ => wpe C P e lm σ₃ fun v σ₄ => addK lm Q ov iv old v σ₄) : wps C P (.augIdx o i e) lm σ Q := q
theorem r_site {c : MT} {a b : MS} (q : wpt C P c lm σ (kSite C P a b lm Q)) : wps C P (.ite c a b) lm σ Q := q
theorem r_loop {c : MT} {b : MS} (q : loopW (wpt C P c) (wps C P b) lm σ Q) : wps C P (.loop c b) lm σ Q := q
theorem r_for {x : Nat} {it : MI} {b : MS} (q : wpi C P it lm σ (kFor C P b x lm Q)) : wps C P (.for x it b) lm σ Q := q
theorem r_seq {a b : MS} (q : wps C P a lm σ (seqK C P b Q)) : wps C P (.seq a b) lm σ Q := q
theorem loop_rule {T : LM → St → (Bool → St → Prop) → Prop} {B : LM → St → SQ → Prop} (I : Nat → LM → St → Prop) (h0 : ∃ n, I n lm σ) (hs : ∀ n lm σ, I n lm σ → T lm σ (kLoop B lm I n Q)) : loopW T B lm σ Q := ⟨I, h0, hs⟩
end
section
variable {Q : EQ}
theorem r_retR {v : PV} (q : Q v σ) : retK Q (.ret v) lm σ := q
set_option tactic.hygienic true in
theorem r_retN (q : Q .none σ) : retK Q .next lm σ := q
theorem r_newK {c f : Addr} {vs : List PV} (h : P.init c = some f) (q : C f (.obj σ.length :: vs) (σ ++ [.inst c []]) (kNew σ.length Q)) : newK P C c Q vs σ := ⟨f, h, q⟩
theorem r_methK {m : Nat} {es : MEs} {k : Nat} {c f : Addr} {fs : List (Nat × PV)} (h : σ[k]? = some (.inst c fs)) (h2 : P.meth c m = some f) (h3 : fs.lookup m = none) (q : wpes C P es lm σ (kMeth C f k Q)) : methK C P m es lm Q (.obj k) σ := ⟨k, c, fs, rfl, h, f, h2, h3, q⟩
theorem r_attrK {a : Nat} {k : Nat} {c : Addr} {fs : List (Nat × PV)} {v : PV} (h : σ[k]? = some (.inst c fs)) (h2 : fs.lookup a = some v) (h3 : P.fld c a = true) (q : Q v σ) : attrK P a Q (.obj k) σ := ⟨k, c, fs, rfl, h, v, h2, h3, q⟩
theorem r_orK {b : ME} {v : PV} {t : Bool} (h : truthy σ v = some t) (q : if t then Q v σ else wpe C P b lm σ Q) : orK C P b lm Q v σ := ⟨t, h, q⟩
theorem r_orB {b : ME} {t : Bool} (q : if t then Q (.bool t) σ else wpe C P b lm σ Q) : orK C P b lm Q (.bool t) σ := ⟨t, rfl, q⟩
theorem r_none (q : Q .none σ) : wpe C P .none lm σ Q := q
theorem r_bool {b : Bool} (q : Q (.bool b) σ) : wpe C P (.bool b) lm σ Q := q
theorem r_int {i : Int} (q : Q (.int i) σ) : wpe C P (.int i) lm σ Q := q
theorem r_str {x : Str} (q : Q (.str x) σ) : wpe C P (.str x) lm σ Q := q
theorem r_var {i : Nat} {v : PV} (h : lm i = some v) (q : Q v σ) : wpe C P (.var i) lm σ Q := ⟨v, h, q⟩
theorem r_tup {es : MEs} (q : wpes C P es lm σ (kTup Q)) : wpe C P (.tup es) lm σ Q := q
theorem r_list {es : MEs} (q : wpes C P es lm σ (kList Q)) : wpe C P (.list es) lm σ Q := q
theorem r_dict0 (q : Q (.obj σ.length) (σ ++ [.dict []])) : wpe C P .dict0 lm σ Q := q
theorem r_call {f : Addr} {es : MEs} (q : wpes C P es lm σ (kCall C f Q)) : wpe C P (.call f es) lm σ Q := q
theorem r_new {c : Addr} {es : MEs} (q : wpes C P es lm σ (newK P C c Q)) : wpe C P (.new c es) lm σ Q := q
theorem r_meth {e : ME} {m : Nat} {es : MEs} (q : wpe C P e lm σ (methK C P m es lm Q)) : wpe C P (.meth e m es) lm σ Q := q
theorem r_bm {m : BM} {e : ME} {es : MEs} (q : wpe C P e lm σ (kBm C P m es lm Q)) : wpe C P (.bm m e es) lm σ Q := q
theorem r_prim {p : Prim} {es : MEs} (q : wpes C P es lm σ (kPn p Q)) : wpe C P (.prim p es) lm σ Q := q
theorem r_attr {e : ME} {a : Nat} (q : wpe C P e lm σ (attrK P a Q)) : wpe C P (.attr e a) lm σ Q := q
theorem r_or {a b : ME} (q : wpe C P a lm σ (orK C P b lm Q)) : wpe C P (.or a b) lm σ Q := q
theorem r_ite {c : MT} {a b : ME} (q : wpt C P c lm σ (kIte C P a b lm Q)) : wpe C P (.ite c a b) lm σ Q := q
theorem r_comp {elt : ME} {x : Nat} {it : MI} {cond : MT} (q : wpi C P it lm σ fun ys chk σ₁ => compW (wpt C P cond) (wpe C P elt) x chk lm ys [] σ₁ fun vs σ₂ => Q (.obj σ₂.length) (σ₂ ++ [.list vs])) : wpe C P (.comp elt x it cond) lm σ Q := q
theorem r_enil {Q : List PV → St → Prop} (q : Q [] σ) : wpes C P .nil lm σ Q := q
theorem r_econs {e : ME} {es : MEs} {Q : List PV → St → Prop} (q : wpe C P e lm σ (kCons1 C P es lm Q)) : wpes C P (.cons e es) lm σ Q := q
/- the built-in operations -/
theorem p_addI {a b : Int} (q : Q (.int (a + b)) σ) : prim .add [.int a, .int b] σ Q := .inl ⟨a, b, rfl, rfl, q⟩
theorem p_addIE {x y : PV} {a b : Int} (hx : x = .int a) (hy : y = .int b) (q : Q (.int (a + b)) σ) : prim .add [x, y] σ Q := .inl ⟨a, b, hx, hy, q⟩
theorem p_subE {x y : PV} {a b : Int} (hx : x = .int a) (hy : y = .int b) (q : Q (.int (a - b)) σ) : prim .sub [x, y] σ Q := ⟨a, b, hx, hy, q⟩
theorem p_ltE {x y : PV} {a b : Int} (hx : x = .int a) (hy : y = .int b) (q : Q (.bool (decide (a < b))) σ) : prim .lt [x, y] σ Q := ⟨a, b, hx, hy, q⟩
theorem p_gtE {x y : PV} {a b : Int} (hx : x = .int a) (hy : y = .int b) (q : Q (.bool (decide (b < a))) σ) : prim .gt [x, y] σ Q := ⟨a, b, hx, hy, q⟩
theorem p_geE {x y : PV} {a b : Int} (hx : x = .int a) (hy : y = .int b) (q : Q (.bool (decide (b ≤ a))) σ) : prim .ge [x, y] σ Q := ⟨a, b, hx, hy, q⟩
theorem p_addT {x y : PV} {a b : List PV} (hx : x = .tup a) (hy : y = .tup b) (h : a.length + b.length ≤ big) (q : Q (.tup (a ++ b)) σ) : prim .add [x, y] σ Q := .inr ⟨a, hx, b, hy, h, q⟩
theorem p_sub {a b : Int} (q : Q (.int (a - b)) σ) : prim .sub [.int a, .int b] σ Q := ⟨a, b, rfl, rfl, q⟩
theorem p_mod {a b : Int} (h : 0 < b) (q : Q (.int (a % b)) σ) : prim .mod [.int a, .int b] σ Q := ⟨a, b, rfl, rfl, h, q⟩
theorem p_eq {a b : PV} {r : Bool} (h : eqS σ a b = some r) (q : Q (.bool r) σ) : prim .eq [a, b] σ Q := ⟨r, h, q⟩
theorem p_ne {a b : PV} {r : Bool} (h : eqS σ a b = some r) (q : Q (.bool (!r)) σ) : prim .ne [a, b] σ Q := ⟨r, h, q⟩
theorem p_lt {a b : Int} (q : Q (.bool (decide (a < b))) σ) : prim .lt [.int a, .int b] σ Q := ⟨a, b, rfl, rfl, q⟩
theorem p_gt {a b : Int} (q : Q (.bool (decide (b < a))) σ) : prim .gt [.int a, .int b] σ Q := ⟨a, b, rfl, rfl, q⟩
theorem p_ge {a b : Int} (q : Q (.bool (decide (b ≤ a))) σ) : prim .ge [.int a, .int b] σ Q := ⟨a, b, rfl, rfl, q⟩
theorem p_is {a : PV} (q : Q (.bool (decide (a = .none))) σ) : prim .is [a, .none] σ Q := ⟨rfl, q⟩
theorem p_isNot {a : PV} (q : Q (.bool (!decide (a = .none))) σ) : prim .isNot [a, .none] σ Q := ⟨rfl, q⟩
theorem p_inn {x c : PV} {r : Bool} (h : inS σ x c = some r) (q : Q (.bool r) σ) : prim .inn [x, c] σ Q := ⟨r, h, q⟩
theorem p_notIn {x c : PV} {r : Bool} (h : inS σ x c = some r) (q : Q (.bool (!r)) σ) : prim .notIn [x, c] σ Q := ⟨r, h, q⟩
theorem p_inVals {x : PV} {d : Nat} {kvs : List (PV × PV)} {r : Bool} (hd : σ[d]? = some (.dict kvs)) (h : anyL (fun y => eqv eqDepth y x) (kvs.map (·.2)) = some r) (hk : keysLike (.int 0) kvs = true) (q : Q (.bool r) σ) : prim .inVals [x, .obj d] σ Q := ⟨d, kvs, rfl, hd, r, h, hk, q⟩
theorem p_idxT {t : PV} {xs : List PV} {n : Int} {v : PV} (ht : t = .tup xs) (h : pyIdx xs n = some v) (q : Q v σ) : prim .idx [t, .int n] σ Q := .inl ⟨xs, ht, n, rfl, v, h, q⟩
theorem p_idxL {k : Nat} {xs : List PV} {n : Int} {v : PV} (hk : σ[k]? = some (.list xs)) (h : pyIdx xs n = some v) (q : Q v σ) : prim .idx [.obj k, .int n] σ Q := .inr (.inl ⟨k, xs, rfl, hk, n, rfl, v, h, q⟩)
theorem p_idxD {k : Nat} {kvs : List (PV × PV)} {n : Int} {v : PV} (hk : σ[k]? = some (.dict kvs)) (h : dget (.int n) kvs = some v) (hl : keysLike (.int n) kvs = true) (q : Q v σ) : prim .idx [.obj k, .int n] σ Q := .inr (.inr ⟨k, kvs, rfl, hk, n, rfl, v, h, hl, q⟩)
theorem p_slice {k : Nat} {xs : List PV} {lo hi st : PV} {l h s : Option Int} (e1 : partP lo = some l) (e2 : partP hi = some h) (e3 : partP st = some s) (hk : σ[k]? = some (.list xs)) (hs : s ≠ some 0) (q : Q (.obj σ.length) (σ ++ [.list (sliceP xs l h s)])) : prim .slice [.obj k, lo, hi, st] σ Q := ⟨rfl, k, xs, l, h, s, rfl, e1, e2, e3, .inl hk, hs, q⟩
theorem p_sliceR {k : Nat} {xs : List PV} {lo hi st : PV} {l h s : Option Int} (e1 : partP lo = some l) (e2 : partP hi = some h) (e3 : partP st = some s) (hk : σ[k]? = some (.ro xs)) (hs : s ≠ some 0) (q : Q (.obj σ.length) (σ ++ [.list (sliceP xs l h s)])) : prim .slice [.obj k, lo, hi, st] σ Q := ⟨rfl, k, xs, l, h, s, rfl, e1, e2, e3, .inr hk, hs, q⟩
theorem p_lenT {t : PV} {xs : List PV} (ht : t = .tup xs) (q : Q (.int xs.length) σ) : prim .len [t] σ Q := .inl ⟨xs, ht, q⟩
theorem p_lenL {k : Nat} {xs : List PV} (hk : σ[k]? = some (.list xs)) (q : Q (.int xs.length) σ) : prim .len [.obj k] σ Q := .inr ⟨k, xs, rfl, hk, q⟩
theorem p_abs {i : Int} (q : Q (.int i.natAbs) σ) : prim .abs [.int i] σ Q := ⟨i, rfl, q⟩
theorem p_tupT {xs : List PV} (q : Q (.tup xs) σ) : prim .tupleOf [.tup xs] σ Q := .inl ⟨xs, rfl, q⟩
theorem p_tupL {k : Nat} {xs : List PV} (hk : σ[k]? = some (.list xs)) (q : Q (.tup xs) σ) : prim .tupleOf [.obj k] σ Q := .inr ⟨k, xs, rfl, hk, q⟩
theorem p_rev {k : Nat} {xs : List PV} (hk : σ[k]? = some (.list xs)) (q : Q (.obj σ.length) (σ ++ [.list xs.reverse])) : prim .listRev [.obj k] σ Q := ⟨k, xs, rfl, hk, q⟩
theorem b_append {k : Nat} {xs : List PV} {v : PV} (hk : σ[k]? = some (.list xs)) (h : xs.length < big) (q : Q .none (σ.set k (.list (xs ++ [v])))) : bmeth .append (.obj k) [v] σ Q := ⟨k, xs, rfl, hk, v, rfl, h, q⟩
theorem b_pop {k : Nat} {xs : List PV} {v : PV} (hk : σ[k]? = some (.list xs)) (h : xs.getLast? = some v) (q : Q v (σ.set k (.list xs.dropLast))) : bmeth .pop (.obj k) [] σ Q := ⟨k, xs, rfl, hk, rfl, v, h, q⟩
theorem b_extendRev {k : Nat} {xs ys : List PV} {t : PV} (hk : σ[k]? = some (.list xs)) (ht : t = .tup ys) (h : xs.length + ys.length ≤ big) (q : Q .none (σ.set k (.list (xs ++ ys.reverse)))) : bmeth .extendRev (.obj k) [t] σ Q := ⟨k, xs, rfl, hk, ys, congrArg (fun x => [x]) ht, h, q⟩
theorem b_get {k : Nat} {kvs : List (PV × PV)} {key d : PV} (hk : σ[k]? = some (.dict kvs)) (h : keysLike key kvs = true) (q : Q ((dget key kvs).getD d) σ) : bmeth .get (.obj k) [key, d] σ Q := ⟨k, kvs, rfl, hk, key, d, rfl, h, q⟩
end
section
variable {Q : St → Prop}
theorem s_list {k : Nat} {xs : List PV} {n : Int} {v : PV} (hk : σ[k]? = some (.list xs)) (h0 : 0 ≤ n) (h1 : n < xs.length) (q : Q (σ.set k (.list (xs.set n.toNat v)))) : setIdx (.obj k) (.int n) v σ Q := .inl ⟨k, xs, rfl, hk, n, rfl, h0, h1, q⟩
theorem s_dict {k : Nat} {kvs : List (PV × PV)} {i v : PV} (hk : σ[k]? = some (.dict kvs)) (h0 : keysLike i kvs = true) (h1 : kvs.length < 1000) (q : Q (σ.set k (.dict (dput i v kvs)))) : setIdx (.obj k) i v σ Q := .inr ⟨k, kvs, rfl, hk, h0, h1, q⟩
theorem s_attr {F : Addr → Nat → Bool} {k a : Nat} {v : PV} {c : Addr} {fs : List (Nat × PV)} (hk : σ[k]? = some (.inst c fs)) (h0 : F c a = true) (h1 : fs.length < 100) (q : Q (σ.set k (.inst c (fput a v fs)))) : setAttr' F (.obj k) a v σ Q := ⟨k, c, fs, rfl, hk, h0, h1, q⟩
end
section
variable {Q : LM → St → Prop} {v : PV}
theorem t_var {i : Nat} (q : Q (upd lm i v) σ) : wptg C P (.var i) v lm σ Q := q
theorem t_tup {is : List Nat} {vs : List PV} {lm' : LM} (hv : v = .tup vs) (h : asgs is vs lm = some lm') (q : Q lm' σ) : wptg C P (.tup is) v lm σ Q := ⟨vs, hv, lm', h, q⟩
theorem t_attr {e : ME} {a : Nat} (q : wpe C P e lm σ (kTA P a v Q lm)) : wptg C P (.attr e a) v lm σ Q := q
theorem t_idx {e i : ME} (q : wpe C P e lm σ (kTI C P i v Q lm)) : wptg C P (.idx e i) v lm σ Q := q
end
section
variable {Q : List PV → (St → Prop) → St → Prop}
theorem i_val {e : ME} (q : wpe C P e lm σ (valK Q)) : wpi C P (.val e) lm σ Q := q
theorem i_range {es : MEs} (q : wpes C P es lm σ (rangeK Q)) : wpi C P (.range es) lm σ Q := q
theorem i_rev {e : ME} (q : wpe C P e lm σ (revK Q)) : wpi C P (.rev e) lm σ Q := q
theorem i_valT {v : PV} {xs : List PV} (h : v = .tup xs) (q : Q xs (fun _ => True) σ) : valK Q v σ := .inl ⟨xs, h, q⟩
theorem i_valL {k : Nat} {xs : List PV} (h : σ[k]? = some (.list xs)) (q : Q xs (fun τ => τ[k]? = some (.list xs)) σ) : valK Q (.obj k) σ := .inr ⟨k, xs, rfl, h, q⟩
theorem i_rangeK {vs xs : List PV} (h : rangeOf vs xs) (q : Q xs (fun _ => True) σ) : rangeK Q vs σ := ⟨xs, h, q⟩
theorem i_revK {k : Nat} {xs : List PV} (h : σ[k]? = some (.list xs)) (q : Q xs.reverse (fun τ => τ[k]? = some (.list xs)) σ) : revK Q (.obj k) σ := ⟨k, xs, rfl, h, q⟩
end
end

theorem c_nil {T : LM → St → (Bool → St → Prop) → Prop} {V : LM → St → EQ → Prop} {x : Nat} {chk : St → Prop} {lm : LM} {acc : List PV} {σ : St} {Q : List PV → St → Prop} (h : chk σ) (q : Q acc σ) : compW T V x chk lm [] acc σ Q := ⟨h, q⟩
theorem c_cons {T : LM → St → (Bool → St → Prop) → Prop} {V : LM → St → EQ → Prop} {x : Nat} {chk : St → Prop} {lm : LM} {y : PV} {ys acc : List PV} {σ : St} {Q : List PV → St → Prop} (h : chk σ) (q : T (upd lm x y) σ fun b σ₁ => if b then V (upd lm x y) σ₁ fun v σ₂ => acc.length < big ∧ compW T V x chk lm ys (acc ++ [v]) σ₂ Q else compW T V x chk lm ys acc σ₁ Q) : compW T V x chk lm (y :: ys) acc σ Q := ⟨h, q⟩
noncomputable def peI (vs : Option (List PV)) : Option PV := match vs with
  | some [t, i] => match t with
    | .tup xs => match i with
      | .int n => pyIdx xs n
      | _ => none
    | _ => none
  | _ => none
noncomputable def peT (vs : Option (List PV)) : Option PV := match vs with
  | some vs => match Nat.ble vs.length big with
    | true => some (.tup vs)
    | false => none
  | none => none
noncomputable def peC (a : Option PV) (b : Option (List PV)) : Option (List PV) := match a with
  | some v => match b with
    | some vs => some (v :: vs)
    | none => none
  | none => none
mutual
noncomputable def pe (lm : LM) : ME → Option PV
  | .int i => some (.int i)
  | .str x => some (.str x)
  | .none => some .none
  | .bool b => some (.bool b)
  | .var i => lm i
  | .tup es => peT (pes lm es)
  | .prim .idx es => peI (pes lm es)
  | _ => none
noncomputable def pes (lm : LM) : MEs → Option (List PV)
  | .nil => some []
  | .cons e es => peC (pe lm e) (pes lm es)
end
section
variable {C : CT} {P : Pg} {lm : LM} {σ : St} {Q : EQ}
set_option tactic.hygienic true in
mutual
theorem pe_sound : ∀ (e : ME) {v : PV} {σ : St} {Q : EQ}, pe lm e = some v → Q v σ → wpe C P e lm σ Q := fun e {v σ Q} h q => by
  cases e
  case int i => cases (show some (PV.int i) = some v from h); exact r_int q
  case str i => cases (show some (PV.str i) = some v from h); exact r_str q
  case none => cases (show some PV.none = some v from h); exact r_none q
  case bool i => cases (show some (PV.bool i) = some v from h); exact r_bool q
  case var i => exact r_var h q
  case tup es =>
    have h : peT (pes lm es) = some v := h
    cases e : pes lm es with
    | none => rw [e] at h; exact nomatch (show none = some v from h)
    | some vs =>
      rw [e] at h
      cases hb : Nat.ble vs.length big with
      | false =>
        have h : (match Nat.ble vs.length big with | true => some (PV.tup vs) | false => none) = some v := h
        rw [hb] at h; exact nomatch h
      | true =>
        have h : (match Nat.ble vs.length big with | true => some (PV.tup vs) | false => none) = some v := h
        rw [hb] at h
        cases (show some (PV.tup vs) = some v from h)
        exact r_tup (pes_sound es e ⟨Nat.le_of_ble_eq_true hb, q⟩)
  case prim p es =>
    cases p
    case idx =>
      have h : peI (pes lm es) = some v := h
      cases e : pes lm es with
      | none => rw [e] at h; exact nomatch (show none = some v from h)
      | some vs =>
        rw [e] at h
        refine r_prim (pes_sound es e ?_)
        rcases vs with _ | ⟨t, _ | ⟨i, _ | ⟨_, _⟩⟩⟩ <;> try exact nomatch (show none = some v from h)
        cases t <;> try exact nomatch (show none = some v from h)
        cases i <;> try exact nomatch (show none = some v from h)
        exact p_idxT rfl h q
    all_goals exact nomatch (show none = some v from h)
  all_goals exact nomatch (show none = some v from h)
theorem pes_sound : ∀ (es : MEs) {vs : List PV} {σ : St} {Q : List PV → St → Prop}, pes lm es = some vs → Q vs σ → wpes C P es lm σ Q := fun es {vs σ Q} h q => by
  cases es with
  | nil => cases (show some [] = some vs from h); exact r_enil q
  | cons e es =>
    have h : peC (pe lm e) (pes lm es) = some vs := h
    cases h1 : pe lm e with
    | none => rw [h1] at h; exact nomatch (show none = some vs from h)
    | some v =>
      rw [h1] at h
      cases h2 : pes lm es with
      | none => rw [h2] at h; exact nomatch (show none = some vs from h)
      | some ws =>
        rw [h2] at h
        cases (show some (v :: ws) = some vs from h)
        exact r_econs (pe_sound e h1 (show wpes C P es lm _ _ from pes_sound es h2 q))
end
theorem r_pure {es : MEs} {v : PV} (h : pe lm (.prim .idx es) = some v) (q : Q v σ) : wpe C P (.prim .idx es) lm σ Q := pe_sound _ h q
theorem r_pures {es : MEs} {vs : List PV} {Q : List PV → St → Prop} (h : pes lm es = some vs) (q : Q vs σ) : wpes C P es lm σ Q := pes_sound _ h q
theorem r_primP {p : Prim} {es : MEs} {vs : List PV} (h : pes lm es = some vs) (q : prim p vs σ Q) : wpe C P (.prim p es) lm σ Q := r_prim (pes_sound _ h q)
theorem r_callP {f : Addr} {es : MEs} {vs : List PV} (h : pes lm es = some vs) (q : C f vs σ Q) : wpe C P (.call f es) lm σ Q := r_call (pes_sound _ h q)
theorem r_tupP {es : MEs} {v : PV} (h : pe lm (.tup es) = some v) (q : Q v σ) : wpe C P (.tup es) lm σ Q := pe_sound _ h q
theorem r_prim1 {p : Prim} {a : ME} (q : wpe C P a lm σ (kP1 p Q)) : wpe C P (.prim p (.cons a .nil)) lm σ Q := by
  exact r_prim (r_econs q)
theorem r_prim2 {p : Prim} {a b : ME} (q : wpe C P a lm σ (kP2 C P p b lm Q)) : wpe C P (.prim p (.cons a (.cons b .nil))) lm σ Q := by
  exact r_prim (r_econs q)
end
section
variable {C : CT} {P : Pg} {lm : LM} {σ : St} {v x y o : PV} {vs : List PV}
theorem a_ret {Q : SQ} (q : Q (.ret v) lm σ) : kRet Q lm v σ := q
set_option tactic.hygienic true in
theorem a_exp {Q : SQ} (q : Q .next lm σ) : kExp Q lm v σ := q
set_option tactic.hygienic true in
theorem a_nx {Q : SQ} (q : Q .next lm σ) : kNx Q lm σ := q
theorem a_asg {t : TG} {Q : SQ} (q : wptg C P t v lm σ (kNx Q)) : kAsg C P t Q lm v σ := q
theorem a_siteT {a b : MS} {Q : SQ} {t : Bool} (h : t = true) (q : wps C P a lm σ Q) : kSite C P a b lm Q t σ := by subst h; exact q
theorem a_siteF {a b : MS} {Q : SQ} {t : Bool} (h : ¬ t = true) (q : wps C P b lm σ Q) : kSite C P a b lm Q t σ := by cases t <;> first | exact q | exact absurd rfl h
theorem a_andT {b : MT} {Q : Bool → St → Prop} {t : Bool} (h : t = true) (q : wpt C P b lm σ Q) : kAnd C P b lm Q t σ := by subst h; exact q
theorem a_andF {b : MT} {Q : Bool → St → Prop} {t : Bool} (h : ¬ t = true) (q : Q false σ) : kAnd C P b lm Q t σ := by cases t <;> first | exact q | exact absurd rfl h
theorem a_orT {b : MT} {Q : Bool → St → Prop} {t : Bool} (h : t = true) (q : Q true σ) : kOr C P b lm Q t σ := by subst h; exact q
theorem a_orF {b : MT} {Q : Bool → St → Prop} {t : Bool} (h : ¬ t = true) (q : wpt C P b lm σ Q) : kOr C P b lm Q t σ := by cases t <;> first | exact q | exact absurd rfl h
theorem a_not {Q : Bool → St → Prop} {t : Bool} (q : Q (!t) σ) : kNot Q t σ := q
theorem a_iteT {a b : ME} {Q : EQ} {t : Bool} (h : t = true) (q : wpe C P a lm σ Q) : kIte C P a b lm Q t σ := by subst h; exact q
theorem a_iteF {a b : ME} {Q : EQ} {t : Bool} (h : ¬ t = true) (q : wpe C P b lm σ Q) : kIte C P a b lm Q t σ := by cases t <;> first | exact q | exact absurd rfl h
theorem a_loopT {B : LM → St → SQ → Prop} {I : Nat → LM → St → Prop} {n : Nat} {Q : SQ} {t : Bool} (h : t = true) (q : B lm σ (loopK I n Q)) : kLoop B lm I n Q t σ := by subst h; exact q
set_option tactic.hygienic true in
theorem a_loopF {B : LM → St → SQ → Prop} {I : Nat → LM → St → Prop} {n : Nat} {Q : SQ} {t : Bool} (h : ¬ t = true) (q : Q .next lm σ) : kLoop B lm I n Q t σ := by cases t <;> first | exact q | exact absurd rfl h
theorem a_call {f : Addr} {Q : EQ} (q : C f vs σ Q) : kCall C f Q vs σ := q
theorem a_cons2 {Q : List PV → St → Prop} (q : Q (v :: vs) σ) : kCons2 v Q vs σ := q
theorem a_cons1 {es : MEs} {Q : List PV → St → Prop} (q : wpes C P es lm σ (kCons2 v Q)) : kCons1 C P es lm Q v σ := q
theorem a_p1 {p : Prim} {Q : EQ} (q : prim p [x] σ Q) : kP1 p Q x σ := q
theorem a_p2b {p : Prim} {Q : EQ} (q : prim p [x, y] σ Q) : kP2b p x Q y σ := q
theorem a_p2 {p : Prim} {b : ME} {Q : EQ} (q : wpe C P b lm σ (kP2b p x Q)) : kP2 C P p b lm Q x σ := q
theorem a_pn {p : Prim} {Q : EQ} (q : prim p vs σ Q) : kPn p Q vs σ := q
theorem a_tup {Q : EQ} (h : vs.length ≤ big) (q : Q (.tup vs) σ) : kTup Q vs σ := ⟨h, q⟩
theorem a_list {Q : EQ} (h : vs.length ≤ big) (q : Q (.obj σ.length) (σ ++ [.list vs])) : kList Q vs σ := ⟨h, q⟩
theorem a_bm2 {m : BM} {Q : EQ} (q : bmeth m o vs σ Q) : kBm2 m o Q vs σ := q
theorem a_bm {m : BM} {es : MEs} {Q : EQ} (h : bmOk m o σ) (q : wpes C P es lm σ (kBm2 m o Q)) : kBm C P m es lm Q o σ := ⟨h, q⟩
theorem a_meth {f : Addr} {k : Nat} {Q : EQ} (q : C f (.obj k :: vs) σ Q) : kMeth C f k Q vs σ := q
theorem a_new {n : Nat} {Q : EQ} (q : Q (.obj n) σ) : kNew n Q .none σ := ⟨rfl, q⟩
theorem a_ta2 {Q : LM → St → Prop} (q : Q lm σ) : kTA2 Q lm σ := q
theorem a_ta {a : Nat} {Q : LM → St → Prop} (q : setAttr' P.fld o a v σ (kTA2 Q lm)) : kTA P a v Q lm o σ := q
theorem a_ti2 {Q : LM → St → Prop} (q : setIdx o x v σ (kTA2 Q lm)) : kTI2 o v Q lm x σ := q
theorem a_ti {i : ME} {Q : LM → St → Prop} (q : wpe C P i lm σ (kTI2 o v Q lm)) : kTI C P i v Q lm o σ := q
theorem a_for {b : MS} {x : Nat} {Q : SQ} {ys : List PV} {chk : St → Prop} (q : forW (wps C P b) x chk ys lm σ Q) : kFor C P b x lm Q ys chk σ := q
theorem r_orT {b : ME} {t : Bool} {Q : EQ} (h : t = true) (q : Q (.bool t) σ) : orK C P b lm Q (.bool t) σ := by subst h; exact ⟨true, rfl, q⟩
theorem r_orF {b : ME} {t : Bool} {Q : EQ} (h : ¬ t = true) (q : wpe C P b lm σ Q) : orK C P b lm Q (.bool t) σ := by cases t <;> first | exact ⟨false, rfl, q⟩ | exact absurd rfl h
end

structure Fr (M : Nat → Prop) (σ σ' : St) : Prop where
  len : σ.length ≤ σ'.length
  at' : ∀ j o, σ[j]? = some o → ¬ M j → σ'[j]? = some o
namespace Fr
variable {M N : Nat → Prop} {σ σ' σ'' : St}
theorem refl : Fr M σ σ := ⟨Nat.le_refl _, fun _ _ e _ => e⟩
theorem trans (a : Fr M σ σ') (b : Fr M σ' σ'') : Fr M σ σ'' := ⟨Nat.le_trans a.len b.len, fun j o e n => b.at' j o (a.at' j o e n) n⟩
theorem mono (a : Fr M σ σ') (h : ∀ j, M j → N j) : Fr N σ σ' := ⟨a.len, fun j o e n => a.at' j o e fun m => n (h j m)⟩
theorem new (o : AObj) : Fr M σ (σ ++ [o]) := ⟨by simp, fun _ _ e _ => get_app e⟩
theorem set {k : Nat} {o : AObj} (h : M k) : Fr M σ (σ.set k o) := ⟨by simp, fun j o e n => get_set_ne (fun q => n (by rw [← q]; exact h)) e⟩
end Fr

structure Sym where
  texts : List Str
  funs : List (Int × Int)
noncomputable def fpair (p : Int × Int) : PV := .tup [.int p.1, .int p.2]
noncomputable def numd (l : List PV) : List (PV × PV) := l.zipIdx.map fun p => (p.1, .int (p.2 : Int))
structure SymAt (σ : St) (k : Nat) (S : Sym) : Prop where
  i : σ[k]? = some (.inst 154 [(0, .obj (k + 1)), (1, .obj (k + 2)), (2, .obj (k + 3)), (3, .obj (k + 4))])
  t : σ[k + 1]? = some (.list (S.texts.map .str))
  td : σ[k + 2]? = some (.dict (numd (S.texts.map .str)))
  f : σ[k + 3]? = some (.list (S.funs.map fpair))
  fd : σ[k + 4]? = some (.dict (numd (S.funs.map fpair)))
  nt : S.texts.Nodup
  nf : S.funs.Nodup
  bt : S.texts.length < 900
  bf : S.funs.length < 900
noncomputable def Sym.le (S S' : Sym) : Prop := (∃ l, S'.texts = S.texts ++ l) ∧ ∃ l, S'.funs = S.funs ++ l

theorem numd_snoc (l : List PV) (x : PV) : numd (l ++ [x]) = numd l ++ [(x, .int (l.length : Int))] := by
  unfold numd
  rw [List.zipIdx_append]; simp
theorem numd_length (l : List PV) : (numd l).length = l.length := by simp [numd]
theorem numd_keys (l : List PV) : (numd l).map (·.1) = l := by
  unfold numd
  rw [List.map_map]
  have : ((fun x => x.1) ∘ fun p : PV × Nat => (p.1, PV.int (p.2 : Int))) = fun p : PV × Nat => p.1 := rfl
  rw [this]; simp
theorem dget_go (x : PV) : ∀ (l : List PV) (k : Nat), ((l.zipIdx k).map fun p => (p.1, PV.int (p.2 : Int))).find? (fun p => decide (p.1 = x)) = match l.findIdx? (fun y => decide (y = x)) with
    | some i => some (x, .int ((i + k : Nat) : Int))
    | none => none
  | [], _ => rfl
  | y :: r, k => by
    rw [List.zipIdx_cons, List.map_cons, List.find?_cons, List.findIdx?_cons]
    by_cases h : y = x
    · subst h; simp
    · simp only [h, decide_false]
      rw [dget_go x r (k + 1)]
      cases r.findIdx? (fun y => decide (y = x)) with
      | none => rfl
      | some i => simp; (first | lia | omega)
theorem dget_numd (x : PV) (l : List PV) : dget x (numd l) = (l.findIdx? fun y => decide (y = x)).map fun i => .int (i : Int) := by
  unfold dget numd
  rw [dget_go]
  cases l.findIdx? (fun y => decide (y = x)) with
  | none => rfl
  | some i => simp
theorem findIdx_none {l : List PV} {x : PV} (h : x ∉ l) : l.findIdx? (fun y => decide (y = x)) = none := by
  rw [List.findIdx?_eq_none_iff]
  intro y hy; simp; exact fun q => h (q ▸ hy)
theorem findIdx_some {l : List PV} {x : PV} (h : x ∈ l) : ∃ i, l.findIdx? (fun y => decide (y = x)) = some i ∧ l[i]? = some x := by
  cases e : l.findIdx? (fun y => decide (y = x)) with
  | none =>
    rw [List.findIdx?_eq_none_iff] at e
    have := e x h; simp at this
  | some i =>
    obtain ⟨hi, a, _⟩ := List.findIdx?_eq_some_iff_getElem.mp e
    exact ⟨i, rfl, by rw [List.getElem?_eq_getElem hi]; simpa using a⟩
theorem dput_new {k v : PV} {kvs : List (PV × PV)} (h : dget k kvs = none) : dput k v kvs = kvs ++ [(k, v)] := by
  unfold dput; rw [h]; rfl

theorem like_str (x : Str) (l : List Str) : keysLike (.str x) (numd (l.map .str)) = true := by
  unfold keysLike
  rw [Bool.and_eq_true, List.all_eq_true]
  refine ⟨rfl, fun p hp => ?_⟩
  have : p.1 ∈ (numd (l.map .str)).map (·.1) := List.mem_map.mpr ⟨p, hp, rfl⟩
  rw [numd_keys] at this
  obtain ⟨y, _, hy⟩ := List.mem_map.mp this
  rw [← hy]; rfl
theorem like_pair (x : Int × Int) (l : List (Int × Int)) : keysLike (fpair x) (numd (l.map fpair)) = true := by
  unfold keysLike
  rw [Bool.and_eq_true, List.all_eq_true]
  refine ⟨rfl, fun p hp => ?_⟩
  have : p.1 ∈ (numd (l.map fpair)).map (·.1) := List.mem_map.mpr ⟨p, hp, rfl⟩
  rw [numd_keys] at this
  obtain ⟨y, _, hy⟩ := List.mem_map.mp this
  rw [← hy]; rfl

theorem lmOf_cons0 (v : PV) (l : List PV) : lmOf (v :: l) 0 = some v := rfl
theorem lmOf_consS (v : PV) (l : List PV) (i : Nat) : lmOf (v :: l) (i + 1) = lmOf l i := rfl
theorem upd_eq (lm : LM) (i : Nat) (v : PV) : upd lm i v i = some v := by simp [upd]
theorem upd_ne (lm : LM) {i j : Nat} (v : PV) (h : j ≠ i) : upd lm i v j = lm j := by simp [upd, h]


theorem enter {P : Pg} {m f : Nat} {fr : FR} {vs : List PV} {σ : St} {Q : EQ} (hf : P.fn f = some fr) (hl : vs.length = fr.np) (h : wps (wpCall P m) P fr.body (lmOf vs) σ (retK Q)) : wpCall P (m + 1) f vs σ Q := by
  exact ⟨fr, hf, hl, h⟩

noncomputable def symM (k : Nat) (j : Nat) : Prop := k < j ∧ j ≤ k + 4
theorem SymAt.frame {σ σ' : St} {k : Nat} {S : Sym} (h : SymAt σ k S) {M : Nat → Prop} (F : Fr M σ σ') (hm : ∀ j, k ≤ j → j ≤ k + 4 → ¬ M j) : SymAt σ' k S :=
  ⟨F.at' _ _ h.i (hm _ (by (first | lia | omega)) (by (first | lia | omega))), F.at' _ _ h.t (hm _ (by (first | lia | omega)) (by (first | lia | omega))), F.at' _ _ h.td (hm _ (by (first | lia | omega)) (by (first | lia | omega))), F.at' _ _ h.f (hm _ (by (first | lia | omega)) (by (first | lia | omega))), F.at' _ _ h.fd (hm _ (by (first | lia | omega)) (by (first | lia | omega))), h.nt, h.nf, h.bt, h.bf⟩

section
variable {P : Pg} {σ : St} {k m : Nat} {S : Sym} {Q : EQ}

theorem mem_map_str {x : Str} {l : List Str} : PV.str x ∈ l.map PV.str ↔ x ∈ l := by
  rw [List.mem_map]
  constructor
  · rintro ⟨y, hy, e⟩; cases e; exact hy
  · exact fun h => ⟨x, h, rfl⟩
theorem mem_map_pair {x : Int × Int} {l : List (Int × Int)} : fpair x ∈ l.map fpair ↔ x ∈ l := by
  rw [List.mem_map]
  constructor
  · rintro ⟨y, hy, e⟩
    unfold fpair at e
    have : y = x := by
      obtain ⟨a, b⟩ := y; obtain ⟨c, d⟩ := x
      simp only [PV.tup.injEq, List.cons.injEq, PV.int.injEq, and_true] at e
      rw [e.1, e.2]
    exact this ▸ hy
  · exact fun h => ⟨x, h, rfl⟩

theorem atom_spec (T : TabP P) (hS : SymAt σ k S) {x : Str} (hb : S.texts.length < 800)
    (q : ∀ S' (i : Nat) σ', S' = (if x ∈ S.texts then S else ⟨S.texts ++ [x], S.funs⟩) → S'.texts[i]? = some x → SymAt σ' k S' → Fr (symM k) σ σ' → Q (.int (i : Int)) σ') : wpCall P (m + 1) 88 [.obj k, .str x] σ Q := by
  have ei := hS.i
  have et := hS.t
  have etd := hS.td
  refine enter T.f88 rfl ?_
  unfold b_88
  (refine r_seq (r_assign (r_bm (r_attr (r_var rfl ?_)))); refine' r_attrK ?wa ?wb ?wc ?_; (case wa => assumption); (case wb => rfl); (case wc => exact TabP.s1 (by assumption)); refine a_bm ?wa ?_; (case wa => (refine' bmOk_get ?wz; (case wz => assumption))); refine r_pures rfl (a_bm2 ?_); refine' b_get ?wa ?wb ?_; (case wa => assumption); (case wb => exact like_str _ _); refine a_asg (t_var (a_nx (r_seqN (r_seq (r_site (r_te (r_primP rfl ?_))))))))
  by_cases hx : x ∈ S.texts
  · obtain ⟨i, h1, h2⟩ := findIdx_some (mem_map_str.mpr hx)
    have hd : (dget (.str x) (numd (S.texts.map PV.str))).getD (.int (-1)) = .int (i : Int) := by rw [dget_numd, h1]; rfl
    rw [hd]
    have h0 : (0 : Int) ≤ (i : Int) := by (first | lia | omega)
    refine p_ge (r_truB (a_siteT rfl (r_seq (r_ret (r_var rfl (a_ret (r_seqR (r_seqR (r_retR ?_)))))))))
    refine q S i σ (by rw [if_pos hx]) ?_ hS Fr.refl
    rw [List.getElem?_map] at h2
    cases e : S.texts[i]? with
    | none => rw [e] at h2; cases h2
    | some y => rw [e] at h2; cases h2; rfl
  · have hg : dget (.str x) (numd (S.texts.map PV.str)) = none := by rw [dget_numd, findIdx_none (fun q => hx (mem_map_str.mp q))]; rfl
    rw [hg]
    have hlen : (S.texts.map PV.str).length < big := by rw [List.length_map]; unfold big; (first | lia | omega)
    have hlen2 : (numd (S.texts.map PV.str)).length < 1000 := by rw [numd_length, List.length_map]; (first | lia | omega)
    (refine p_geE rfl rfl (r_truB ?_); refine a_siteF ?wa ?_; (case wa => decide); refine r_skip (r_seqN (r_seq (r_assign (r_prim1 (r_attr (r_var rfl ?_)))))); refine' r_attrK ?wa ?wb ?wc ?_; (case wa => assumption); (case wb => rfl); (case wc => exact TabP.s0 (by assumption)); refine a_p1 ?_; refine' p_lenL ?wa ?_; (case wa => assumption); refine a_asg (t_var (a_nx (r_seqN (r_seq (r_expr (r_bm (r_attr (r_var rfl ?_)))))))); refine' r_attrK ?wa ?wb ?wc ?_; (case wa => assumption); (case wb => rfl); (case wc => exact TabP.s0 (by assumption)); refine a_bm ?wa ?_; (case wa => (refine' bmOk_list ?wz (by intro e; cases e); (case wz => assumption))); refine r_pures rfl (a_bm2 ?_); refine' b_append ?wa ?wb ?_; (case wa => assumption); (case wb => assumption); refine a_exp (r_seqN (r_seq (r_assign (r_var rfl (a_asg (t_idx (r_attr (r_var rfl ?_)))))))); refine' r_attrK ?wa ?wb ?wc ?_; (case wa => (refine get_set_ne (by first | (first | lia | omega) | decide) ?_; assumption)); (case wb => rfl); (case wc => exact TabP.s1 (by assumption)); refine a_ti (r_var rfl (a_ti2 ?_)); refine' s_dict ?wa ?wb ?wc ?_; (case wa => (refine get_set_ne (by first | (first | lia | omega) | decide) ?_; assumption)); (case wb => exact like_str _ _); (case wc => assumption); refine a_ta2 (a_nx (r_seqN (r_seq (r_ret (r_var rfl (a_ret (r_seqR (r_retR ?_)))))))))
    rw [dput_new hg]
    have e1 : S.texts.map PV.str ++ [.str x] = (S.texts ++ [x]).map PV.str := by simp
    have e2 : numd (S.texts.map PV.str) ++ [(.str x, .int ((S.texts.map PV.str).length : Int))] = numd ((S.texts ++ [x]).map PV.str) := by rw [← e1, numd_snoc]
    rw [e2, e1, List.length_map]
    refine q ⟨S.texts ++ [x], S.funs⟩ S.texts.length _ (by rw [if_neg hx]) (by simp) ⟨?_, ?_, ?_, ?_, ?_, ?_, hS.nf, by simp; (first | lia | omega), hS.bf⟩ ((Fr.set (by unfold symM; (first | lia | omega))).trans (Fr.set (by unfold symM; (first | lia | omega))))
    · (refine get_set_ne (by first | (first | lia | omega) | decide) ?_; refine get_set_ne (by first | (first | lia | omega) | decide) ?_; assumption)
    · (refine get_set_ne (by first | (first | lia | omega) | decide) ?_; refine get_set_eq (o := ?_) ?_; rotate_left; assumption)
    · exact get_set_eq (o := .dict (numd (S.texts.map PV.str))) (by (refine get_set_ne (by first | (first | lia | omega) | decide) ?_; assumption))
    · have := hS.f; (refine get_set_ne (by first | (first | lia | omega) | decide) ?_; refine get_set_ne (by first | (first | lia | omega) | decide) ?_; assumption)
    · have := hS.fd; (refine get_set_ne (by first | (first | lia | omega) | decide) ?_; refine get_set_ne (by first | (first | lia | omega) | decide) ?_; assumption)
    · rw [List.nodup_append]
      exact ⟨hS.nt, by simp, fun a ha b hb e => hx (by rw [List.mem_singleton.mp hb] at e; exact e ▸ ha)⟩

theorem functor_spec (T : TabP P) (hS : SymAt σ k S) {a r : Int} (hb : S.funs.length < 800)
    (q : ∀ S' (i : Nat) σ', S' = (if (a, r) ∈ S.funs then S else ⟨S.texts, S.funs ++ [(a, r)]⟩) → S'.funs[i]? = some (a, r) → SymAt σ' k S' → Fr (symM k) σ σ' → Q (.int (i : Int)) σ') : wpCall P (m + 1) 102 [.obj k, .int a, .int r] σ Q := by
  have ei := hS.i
  have et := hS.f
  have etd := hS.fd
  have hkey : keysLike (.tup [.int a, .int r]) (numd (S.funs.map fpair)) = true := like_pair (a, r) S.funs
  have hbig : (2 : Nat) ≤ big := by decide
  refine enter T.f102 rfl ?_
  unfold b_102
  (refine r_seq (r_assign (r_tupP rfl (a_asg (t_var (a_nx (r_seqN (r_seq (r_assign (r_bm ?_))))))))); refine r_attr (r_var rfl ?_); refine' r_attrK ?wa ?wb ?wc ?_; (case wa => assumption); (case wb => rfl); (case wc => exact TabP.s3 (by assumption)); refine a_bm ?wa ?_; (case wa => (refine' bmOk_get ?wz; (case wz => assumption))); refine r_pures rfl (a_bm2 ?_); refine' b_get ?wa ?wb ?_; (case wa => assumption); (case wb => assumption); refine a_asg (t_var (a_nx (r_seqN (r_seq (r_site (r_te (r_primP rfl ?_))))))))
  by_cases hx : (a, r) ∈ S.funs
  · obtain ⟨i, h1, h2⟩ := findIdx_some (mem_map_pair.mpr hx)
    have hd : (dget (.tup [.int a, .int r]) (numd (S.funs.map fpair))).getD (.int (-1)) = .int (i : Int) := by
      have := dget_numd (fpair (a, r)) (S.funs.map fpair)
      rw [h1] at this
      unfold fpair at this
      show (dget (.tup [.int a, .int r]) (numd (S.funs.map fpair))).getD _ = _
      unfold fpair
      rw [this]; rfl
    rw [hd]
    have h0 : (0 : Int) ≤ (i : Int) := by (first | lia | omega)
    refine p_ge (r_truB (a_siteT rfl (r_seq (r_ret (r_var rfl (a_ret (r_seqR (r_seqR (r_retR ?_)))))))))
    refine q S i σ (by rw [if_pos hx]) ?_ hS Fr.refl
    rw [List.getElem?_map] at h2
    cases e : S.funs[i]? with
    | none => rw [e] at h2; cases h2
    | some y =>
      rw [e] at h2
      have h2 : fpair y = fpair (a, r) := Option.some.inj h2
      obtain ⟨b, c⟩ := y
      simp only [fpair, PV.tup.injEq, List.cons.injEq, PV.int.injEq, and_true] at h2
      rw [h2.1, h2.2]
  · have hg : dget (.tup [.int a, .int r]) (numd (S.funs.map fpair)) = none := by
      have := dget_numd (fpair (a, r)) (S.funs.map fpair)
      rw [findIdx_none (fun q => hx (mem_map_pair.mp q))] at this
      exact this
    rw [hg]
    have hlen : (S.funs.map fpair).length < big := by rw [List.length_map]; unfold big; (first | lia | omega)
    have hlen2 : (numd (S.funs.map fpair)).length < 1000 := by rw [numd_length, List.length_map]; (first | lia | omega)
    (refine p_geE rfl rfl (r_truB ?_); refine a_siteF ?wa ?_; (case wa => decide); refine r_skip (r_seqN (r_seq (r_assign (r_prim1 (r_attr (r_var rfl ?_)))))); refine' r_attrK ?wa ?wb ?wc ?_; (case wa => assumption); (case wb => rfl); (case wc => exact TabP.s2 (by assumption)); refine a_p1 ?_; refine' p_lenL ?wa ?_; (case wa => assumption); refine a_asg (t_var (a_nx (r_seqN (r_seq (r_expr (r_bm (r_attr (r_var rfl ?_)))))))); refine' r_attrK ?wa ?wb ?wc ?_; (case wa => assumption); (case wb => rfl); (case wc => exact TabP.s2 (by assumption)); refine a_bm ?wa ?_; (case wa => (refine' bmOk_list ?wz (by intro e; cases e); (case wz => assumption))); refine r_pures rfl (a_bm2 ?_); refine' b_append ?wa ?wb ?_; (case wa => assumption); (case wb => assumption); refine a_exp (r_seqN (r_seq (r_assign (r_var rfl (a_asg (t_idx (r_attr (r_var rfl ?_)))))))); refine' r_attrK ?wa ?wb ?wc ?_; (case wa => (refine get_set_ne (by first | (first | lia | omega) | decide) ?_; assumption)); (case wb => rfl); (case wc => exact TabP.s3 (by assumption)); refine a_ti (r_var rfl (a_ti2 ?_)); refine' s_dict ?wa ?wb ?wc ?_; (case wa => (refine get_set_ne (by first | (first | lia | omega) | decide) ?_; assumption)); (case wb => assumption); (case wc => assumption); refine a_ta2 (a_nx (r_seqN (r_seq (r_ret (r_var rfl (a_ret (r_seqR (r_retR ?_)))))))))
    rw [dput_new hg]
    have e1 : S.funs.map fpair ++ [.tup [.int a, .int r]] = (S.funs ++ [(a, r)]).map fpair := by simp [fpair]
    have e2 : numd (S.funs.map fpair) ++ [(.tup [.int a, .int r], .int ((S.funs.map fpair).length : Int))] = numd ((S.funs ++ [(a, r)]).map fpair) := by rw [← e1, numd_snoc]
    rw [e2, e1, List.length_map]
    refine q ⟨S.texts, S.funs ++ [(a, r)]⟩ S.funs.length _ (by rw [if_neg hx]) (by simp) ⟨?_, ?_, ?_, ?_, ?_, hS.nt, ?_, hS.bt, by simp; (first | lia | omega)⟩ ((Fr.set (by unfold symM; (first | lia | omega))).trans (Fr.set (by unfold symM; (first | lia | omega))))
    · (refine get_set_ne (by first | (first | lia | omega) | decide) ?_; refine get_set_ne (by first | (first | lia | omega) | decide) ?_; assumption)
    · have := hS.t; (refine get_set_ne (by first | (first | lia | omega) | decide) ?_; refine get_set_ne (by first | (first | lia | omega) | decide) ?_; assumption)
    · have := hS.td; (refine get_set_ne (by first | (first | lia | omega) | decide) ?_; refine get_set_ne (by first | (first | lia | omega) | decide) ?_; assumption)
    · (refine get_set_ne (by first | (first | lia | omega) | decide) ?_; refine get_set_eq (o := ?_) ?_; rotate_left; assumption)
    · exact get_set_eq (o := .dict (numd (S.funs.map fpair))) (by (refine get_set_ne (by first | (first | lia | omega) | decide) ?_; assumption))
    · rw [List.nodup_append]
      exact ⟨hS.nf, by simp, fun a ha b hb e => hx (by rw [List.mem_singleton.mp hb] at e; exact e ▸ ha)⟩
end

set_option tactic.hygienic true in
theorem for_rule' {B : LM → St → SQ → Prop} {x : Nat} {chk : St → Prop} {Q : SQ} (Inv : Nat → LM → St → Prop) : ∀ (ys zs : List PV) (lm : LM) (σ : St) (_ : Inv zs.length lm σ) (_ : ∀ i lm σ, Inv i lm σ → chk σ)
    (_ : ∀ i y lm σ (K : LM → St → Prop), (zs ++ ys)[i]? = some y → Inv i lm σ → (∀ lm' σ', Inv (i + 1) lm' σ' → K lm' σ') → B (upd lm x y) σ (forK K Q))
    (_ : ∀ lm σ, Inv (zs ++ ys).length lm σ → Q .next lm σ), forW B x chk ys lm σ Q
  | [], zs, lm, σ, h0, hc, _, hq => ⟨hc _ _ _ h0, hq lm σ (by rw [List.append_nil]; exact h0)⟩
  | y :: ys, zs, lm, σ, h0, hc, hs, hq => by
    have e : (zs ++ [y]) ++ ys = zs ++ y :: ys := by simp
    have el : (zs ++ [y]).length = zs.length + 1 := by simp
    refine ⟨hc _ _ _ h0, hs zs.length y lm σ (fun lm' σ' => forW B x chk ys lm' σ' Q) (by simp) h0 fun lm' σ' h => ?_⟩
    exact for_rule' Inv ys (zs ++ [y]) lm' σ' (by rw [el]; exact h) hc (by rw [e]; exact hs) (by rw [e]; exact hq)
set_option tactic.hygienic true in
theorem for_rule {B : LM → St → SQ → Prop} {x : Nat} {chk : St → Prop} {Q : SQ} {ys : List PV} {lm : LM} {σ : St} (Inv : Nat → LM → St → Prop) (h0 : Inv 0 lm σ) (hc : ∀ i lm σ, Inv i lm σ → chk σ)
    (hs : ∀ i y lm σ (K : LM → St → Prop), ys[i]? = some y → Inv i lm σ → (∀ lm' σ', Inv (i + 1) lm' σ' → K lm' σ') → B (upd lm x y) σ (forK K Q))
    (hq : ∀ lm σ, Inv ys.length lm σ → Q .next lm σ) : forW B x chk ys lm σ Q := for_rule' Inv ys [] lm σ h0 hc hs hq

noncomputable def Sym.addA (S : Sym) (x : Str) : Sym := if x ∈ S.texts then S else ⟨S.texts ++ [x], S.funs⟩
noncomputable def Sym.addF (S : Sym) (a r : Int) : Sym := if (a, r) ∈ S.funs then S else ⟨S.texts, S.funs ++ [(a, r)]⟩
theorem Sym.le_refl (S : Sym) : S.le S := ⟨⟨[], by simp⟩, ⟨[], by simp⟩⟩
theorem Sym.le_trans {S S' S'' : Sym} (a : S.le S') (b : S'.le S'') : S.le S'' := by
  obtain ⟨⟨l, e⟩, ⟨m, f⟩⟩ := a
  obtain ⟨⟨l', e'⟩, ⟨m', f'⟩⟩ := b
  exact ⟨⟨l ++ l', by rw [e', e, List.append_assoc]⟩, ⟨m ++ m', by rw [f', f, List.append_assoc]⟩⟩
theorem Sym.le_addA (S : Sym) (x : Str) : S.le (S.addA x) := by
  unfold Sym.addA; split
  · exact S.le_refl
  · exact ⟨⟨[x], rfl⟩, ⟨[], by simp⟩⟩
theorem Sym.le_addF (S : Sym) (a r : Int) : S.le (S.addF a r) := by
  unfold Sym.addF; split
  · exact S.le_refl
  · exact ⟨⟨[], by simp⟩, ⟨[(a, r)], rfl⟩⟩
theorem le_text {S S' : Sym} (h : S.le S') {i : Nat} {x : Str} (e : S.texts[i]? = some x) : S'.texts[i]? = some x := by
  obtain ⟨⟨l, e'⟩, _⟩ := h
  rw [e', List.getElem?_append_left (List.getElem?_eq_some_iff.mp e).1]; exact e
theorem le_fun {S S' : Sym} (h : S.le S') {i : Nat} {p : Int × Int} (e : S.funs[i]? = some p) : S'.funs[i]? = some p := by
  obtain ⟨_, ⟨l, e'⟩⟩ := h
  rw [e', List.getElem?_append_left (List.getElem?_eq_some_iff.mp e).1]; exact e

noncomputable def fixedT : List Str := ["[]", ".", "{}", "-", "+", "*", "/", ",", "|", ";", "->", "\\+", ":-", "?-", "-->", "!", "true", "fail", "false", "call", "=", "^", "error", "", "end_of_file", "system", "$VAR", "catch", "throw"]
noncomputable def AL : List Str := fixedT ++ (["t", "n", "p", "g", "phrase", "x", "q", "r"] : List Str)
structure Sok (S : Sym) : Prop where
  nt : S.texts.Nodup
  nf : S.funs.Nodup
  t : ∀ x ∈ S.texts, x ∈ AL
  f : ∀ p ∈ S.funs, 0 ≤ p.1 ∧ p.1 < 40 ∧ 0 ≤ p.2 ∧ p.2 ≤ 8
theorem nodup_len {α : Type} [DecidableEq α] : ∀ {l m : List α}, l.Nodup → (∀ x ∈ l, x ∈ m) → l.length ≤ m.length
  | [], _, _, _ => Nat.zero_le _
  | x :: l, m, hn, h => by
    have hx := h x List.mem_cons_self
    have := nodup_len (l := l) (m := m.erase x) (List.nodup_cons.mp hn).2 fun y hy => by
      have hne : y ≠ x := fun e => (List.nodup_cons.mp hn).1 (e ▸ hy)
      exact (List.mem_erase_of_ne hne).mpr (h y (List.mem_cons_of_mem _ hy))
    rw [List.length_erase_of_mem hx] at this
    have := List.length_pos_of_mem hx
    rw [List.length_cons]; (first | lia | omega)
noncomputable def allF : List (Int × Int) := (List.range 40).flatMap fun (a : Nat) => (List.range 9).map fun (r : Nat) => (((a : Nat) : Int), (r : Int))
theorem Sok.bt {S : Sym} (h : Sok S) : S.texts.length ≤ 37 := nodup_len h.nt h.t
theorem Sok.bf {S : Sym} (h : Sok S) : S.funs.length ≤ 360 := by
  have : allF.length = 360 := by decide +kernel
  rw [← this]
  refine nodup_len h.nf fun p hp => ?_
  obtain ⟨a, b, c, d⟩ := h.f p hp
  unfold allF
  rw [List.mem_flatMap]
  refine ⟨p.1.toNat, by rw [List.mem_range]; (first | lia | omega), List.mem_map.mpr ⟨p.2.toNat, by rw [List.mem_range]; (first | lia | omega), ?_⟩⟩
  rw [Int.toNat_of_nonneg a, Int.toNat_of_nonneg c]
set_option tactic.hygienic true in
theorem Sok.addA {S : Sym} (h : Sok S) {x : Str} (hx : x ∈ AL) : Sok (S.addA x) := by
  unfold Sym.addA; split
  · exact h
  · rename_i hn
    refine ⟨?_, h.nf, fun y hy => ?_, h.f⟩
    · rw [List.nodup_append]
      exact ⟨h.nt, by simp, fun a ha b hb e => hn (by rw [List.mem_singleton.mp hb] at e; exact e ▸ ha)⟩
    · rcases List.mem_append.mp hy with hy | hy
      · exact h.t y hy
      · rw [List.mem_singleton.mp hy]; exact hx
set_option tactic.hygienic true in
theorem Sok.addF {S : Sym} (h : Sok S) {a r : Int} (hk : 0 ≤ a ∧ a < 40 ∧ 0 ≤ r ∧ r ≤ 8) : Sok (S.addF a r) := by
  unfold Sym.addF; split
  · exact h
  · rename_i hn
    refine ⟨h.nt, ?_, h.t, fun y hy => ?_⟩
    · rw [List.nodup_append]
      exact ⟨h.nf, by simp, fun a' ha b hb e => hn (by rw [List.mem_singleton.mp hb] at e; exact e ▸ ha)⟩
    · rcases List.mem_append.mp hy with hy | hy
      · exact h.f y hy
      · rw [List.mem_singleton.mp hy]; exact hk

section
variable {P : Pg} {σ : St} {k m : Nat} {S : Sym} {Q : EQ}
theorem atomS (T : TabP P) (hS : SymAt σ k S) (ok : Sok S) {x : Str} (hx : x ∈ AL)
    (q : ∀ (i : Nat) σ', (S.addA x).texts[i]? = some x → SymAt σ' k (S.addA x) → Sok (S.addA x) → Fr (symM k) σ σ' → Q (.int (i : Int)) σ') : wpCall P (m + 1) 88 [.obj k, .str x] σ Q := by
  have := ok.bt
  refine atom_spec T hS (by (first | lia | omega)) fun S' i σ' e h1 h2 F => ?_
  have e : S' = S.addA x := e
  subst e
  exact q i σ' h1 h2 (ok.addA hx) F
theorem functorS (T : TabP P) (hS : SymAt σ k S) (ok : Sok S) {a r : Int} (hk : 0 ≤ a ∧ a < 40 ∧ 0 ≤ r ∧ r ≤ 8)
    (q : ∀ (i : Nat) σ', (S.addF a r).funs[i]? = some (a, r) → SymAt σ' k (S.addF a r) → Sok (S.addF a r) → Fr (symM k) σ σ' → Q (.int (i : Int)) σ') : wpCall P (m + 1) 102 [.obj k, .int a, .int r] σ Q := by
  have := ok.bf
  refine functor_spec T hS (by (first | lia | omega)) fun S' i σ' e h1 h2 F => ?_
  have e : S' = S.addF a r := e
  subst e
  exact q i σ' h1 h2 (ok.addF hk) F
theorem funcS (T : TabP P) (hS : SymAt σ k S) (ok : Sok S) {x : Str} {r : Int} (hx : x ∈ AL) (hr : 0 ≤ r ∧ r ≤ 8)
    (q : ∀ (a i : Nat) σ', (S.addA x).texts[a]? = some x → ((S.addA x).addF a r).funs[i]? = some ((a : Int), r) → SymAt σ' k ((S.addA x).addF a r) → Sok ((S.addA x).addF a r) → Fr (symM k) σ σ' → Q (.int (i : Int)) σ') :
    wpCall P (m + 2) 109 [.obj k, .str x, .int r] σ Q := by
  have ei := hS.i
  refine enter T.f109 rfl ?_
  unfold b_109
  (refine r_seq (r_ret (r_meth (r_var rfl ?_))); refine' r_methK ?wa ?wb ?wc ?_; (case wa => assumption); (case wb => exact TabP.m10 (by assumption)); (case wc => rfl); refine r_econs (r_meth (r_var rfl ?_)); refine' r_methK ?wa ?wb ?wc ?_; (case wa => assumption); (case wb => exact TabP.m8 (by assumption)); (case wc => rfl); refine r_pures rfl (a_meth ?_))
  refine atomS T hS ok hx fun a σ₁ h1 h2 h3 F1 => ?_
  refine a_cons1 (r_pures rfl (a_cons2 (a_meth ?_)))
  have ha : 0 ≤ (a : Int) ∧ (a : Int) < 40 ∧ 0 ≤ r ∧ r ≤ 8 := by
    have := h3.bt
    have := (List.getElem?_eq_some_iff.mp h1).1
    (first | lia | omega)
  refine functorS T h2 h3 ha fun i σ₂ h4 h5 h6 F2 => ?_
  refine a_ret (r_seqR (r_retR ?_))
  exact q a i σ₂ h1 h4 h5 h6 (F1.trans F2)
end

inductive Tm where
  | v (n : Int) | a (n : Int) | i (n : Int) | s (f : Int) (args : List Tm)
mutual
noncomputable def Tm.pv : Tm → PV
  | .v n => .tup [.str "v", .int n]
  | .a n => .tup [.str "a", .int n]
  | .i n => .tup [.str "i", .int n]
  | .s f args => .tup [.str "s", .int f, .tup (Tm.pvs args)]
noncomputable def Tm.pvs : List Tm → List PV
  | [] => []
  | t :: r => t.pv :: Tm.pvs r
end
theorem Tm.pvs_eq : ∀ l : List Tm, Tm.pvs l = l.map Tm.pv
  | [] => rfl
  | t :: r => by rw [Tm.pvs, Tm.pvs_eq r]; rfl
theorem Tm.pvs_len (l : List Tm) : (Tm.pvs l).length = l.length := by rw [Tm.pvs_eq, List.length_map]
theorem Tm.pvs_app (l m : List Tm) : Tm.pvs (l ++ m) = Tm.pvs l ++ Tm.pvs m := by simp [Tm.pvs_eq]
noncomputable def Tm.tag : Tm → Str
  | .v _ => "v" | .a _ => "a" | .i _ => "i" | .s .. => "s"
noncomputable def listT (items : List Tm) (e : Tm) : Tm := items.foldr (fun i t => .s 0 [i, t]) e

theorem Fr.setNew {M : Nat → Prop} {σ σ' : St} {k : Nat} {o : AObj} (F : Fr M σ σ') (h : σ.length ≤ k) : Fr M σ (σ'.set k o) :=
  ⟨by rw [List.length_set]; exact F.len, fun j ob e n => get_set_ne (fun q => by have := (List.getElem?_eq_some_iff.mp e).1; (first | lia | omega)) (F.at' j ob e n)⟩
theorem Sym.le.trans {S S' S'' : Sym} (a : S.le S') (b : S'.le S'') : S.le S'' := Sym.le_trans a b
theorem rev_at {α β : Type} {f : α → β} {a b : List α} {y : β} (h : ((a ++ b).map f).reverse[b.length]? = some y) : ∃ a' t, a = a' ++ [t] ∧ y = f t := by
  rcases List.eq_nil_or_concat a with rfl | ⟨a', t, rfl⟩
  · simp at h
  · refine ⟨a', t, by simp, ?_⟩
    rw [List.map_append, List.reverse_append, List.getElem?_append_right (by simp)] at h
    simpa using h.symm

section
variable {P : Pg} {σ : St} {k m : Nat} {S : Sym} {Q : EQ}

theorem var_S (T : TabP P) {n : Int} (q : Q (Tm.v n).pv σ) : wpCall P (m + 1) 166 [.int n] σ Q := by
  have hbig : (2 : Nat) ≤ big := by decide
  refine enter T.f166 rfl ?_
  unfold b_166
  refine r_seq (r_ret (r_tupP rfl (a_ret (r_seqR (r_retR ?_)))))
  exact q
theorem atom_S (T : TabP P) {n : Int} (q : Q (Tm.a n).pv σ) : wpCall P (m + 1) 173 [.int n] σ Q := by
  have hbig : (2 : Nat) ≤ big := by decide
  refine enter T.f173 rfl ?_
  unfold b_173
  refine r_seq (r_ret (r_tupP rfl (a_ret (r_seqR (r_retR ?_)))))
  exact q
theorem struct_S (T : TabP P) {f : Int} {xs : List PV} (q : Q (.tup [.str "s", .int f, .tup xs]) σ) : wpCall P (m + 1) 180 [.int f, .tup xs] σ Q := by
  have hbig : (3 : Nat) ≤ big := by decide
  refine enter T.f180 rfl ?_
  unfold b_180
  (refine r_seq (r_ret (r_tup (r_econs (r_str (a_cons1 (r_econs (r_var rfl (a_cons1 (r_econs ?_))))))))); refine r_primP rfl (p_tupT (a_cons1 (r_pures rfl (a_cons2 (a_cons2 (a_cons2 ?_)))))); refine a_tup ?wa ?_; (case wa => assumption); refine a_ret (r_seqR (r_retR ?_)))
  exact q
theorem list_term_S (T : TabP P) {k : Nat} {items : List Tm} {e : Tm} (h : σ[k]? = some (.list (Tm.pvs items))) (q : Q (listT items e).pv σ) : wpCall P (m + 1) 188 [.obj k, e.pv] σ Q := by
  have hbig : (3 : Nat) ≤ big := by decide
  have hbig2 : (2 : Nat) ≤ big := by decide
  refine enter T.f188 rfl ?_
  unfold b_188
  have he : ∃ xs, e.pv = .tup xs := by cases e <;> exact ⟨_, rfl⟩
  obtain ⟨xs, he⟩ := he
  rw [he]
  (refine r_seq (r_assign (r_ite (r_te (r_primP rfl (p_is (r_truB ?_)))))); refine a_iteF ?wa ?_; (case wa => (simp only [decide_eq_true_eq, decide_eq_false_iff_not, Bool.not_eq_true, Bool.not_eq_true', Bool.not_eq_false, Bool.not_eq_false', decide_not, Bool.not_not, Bool.and_false, Bool.false_and, Bool.or_false, Bool.false_or, Bool.true_and, Bool.and_true, Bool.false_eq_true, Bool.and_eq_true, Bool.or_eq_true, not_true_eq_false, not_false_eq_true]; intro h; cases h)); refine r_var rfl (a_asg (t_var (a_nx (r_seqN (r_seq (r_for (i_rev (r_var rfl ?_)))))))); refine' i_revK ?wa ?_; (case wa => assumption); refine a_for ?_)
  refine for_rule (fun i lm σ' => σ' = σ ∧ ∃ a b, items = a ++ b ∧ b.length = i ∧ lm 2 = some (listT b e).pv) ⟨rfl, items, [], by simp, rfl, he ▸ rfl⟩ (fun i lm σ' h' => h'.1 ▸ h) ?_ ?_
  · rintro i y lm σ' K hy ⟨rfl, a, b, rfl, rfl, h2⟩ hK
    rw [Tm.pvs_eq] at hy
    obtain ⟨a', t, rfl, rfl⟩ := rev_at hy
    (refine r_seq (r_assign (r_tup (r_econs (r_str (a_cons1 (r_econs (r_int (a_cons1 (r_econs ?_))))))))); refine r_tup (r_econs (r_var rfl (a_cons1 (r_econs ?_)))); refine' r_var ?wa ?_; (case wa => assumption); refine a_cons1 (r_pures rfl (a_cons2 (a_cons2 ?_))); refine a_tup ?wa ?_; (case wa => assumption); refine a_cons1 (r_pures rfl (a_cons2 (a_cons2 (a_cons2 ?_)))); refine a_tup ?wa ?_; (case wa => assumption); refine a_asg (t_var (a_nx (r_seqN (r_skip (r_forN ?_))))))
    exact hK _ _ ⟨rfl, a', t :: b, by simp, by simp, rfl⟩
  · rintro lm σ' ⟨rfl, a, b, rfl, hl, h2⟩
    have : a = [] := by
      simp [Tm.pvs_len] at hl
      cases a with
      | nil => rfl
      | cons _ _ => simp at hl
    subst this
    (refine r_seqN (r_seq (r_ret ?_)); refine' r_var ?wa ?_; (case wa => assumption); refine a_ret (r_seqR (r_retR ?_)))
    exact q
theorem list_items_S (T : TabP P) {items : List Tm} {n : Int} (hn : items.length ≤ 1000) (q : ∀ σ', Fr (fun _ => False) σ σ' → σ'[σ.length]? = some (.list (Tm.pvs items)) → Q (.tup [.obj σ.length, (Tm.a n).pv]) σ') : wpCall P (m + 1) 195 [(listT items (.a n)).pv] σ Q := by
  have hbig2 : (2 : Nat) ≤ big := by decide
  refine enter T.f195 rfl ?_
  unfold b_195
  (refine r_seq (r_assign (r_list (r_pures rfl ?_))); refine a_list ?wa ?_; (case wa => trivial); refine a_asg (t_var (a_nx (r_seqN (r_seq (r_loop ?_))))))
  refine loop_rule (fun c lm σ' => ∃ a b, items = a ++ b ∧ c = b.length ∧ lm 0 = some (listT b (.a n)).pv ∧ lm 1 = some (.obj σ.length) ∧ Fr (fun _ => False) σ σ' ∧ σ'[σ.length]? = some (.list (Tm.pvs a)) ∧ a.length ≤ 1000) ⟨_, [], items, rfl, rfl, rfl, rfl, Fr.new _, by simp [Tm.pvs], by simp⟩ ?_
  rintro c lm σ' ⟨a, b, rfl, rfl, h0, h1, F, hl, hs⟩
  cases b with
  | nil =>
    have h0 : lm 0 = some (.tup [.str "a", .int n]) := h0
    (refine r_tand (r_te (r_prim2 (r_prim2 ?_))); refine' r_var ?wa ?_; (case wa => assumption); refine a_p2 (r_int (a_p2b (p_idxT rfl rfl (a_p2 (r_str (a_p2b (p_eq rfl (r_truB ?_)))))))); refine a_andF ?wa ?_; (case wa => decide); refine a_loopF ?wa ?_; (case wa => decide); refine r_seqN (r_seq (r_ret (r_tup (r_econs ?_)))); refine' r_var ?wa ?_; (case wa => assumption); refine a_cons1 (r_econs ?_); refine' r_var ?wa ?_; (case wa => assumption); refine a_cons1 (r_pures rfl (a_cons2 (a_cons2 ?_))); refine a_tup ?wa ?_; (case wa => assumption); refine a_ret (r_seqR (r_retR ?_)))
    exact q σ' F (by simpa using hl)
  | cons t b =>
    have h0 : lm 0 = some (.tup [.str "s", .int 0, .tup [t.pv, (listT b (.a n)).pv]]) := h0
    have hlen : (Tm.pvs a).length < big := by rw [Tm.pvs_len]; unfold big; (first | lia | omega)
    (refine r_tand (r_te (r_prim2 (r_prim2 ?_))); refine' r_var ?wa ?_; (case wa => assumption); refine a_p2 (r_int (a_p2b (p_idxT rfl rfl (a_p2 (r_str (a_p2b (p_eq rfl (r_truB (a_andT rfl ?_))))))))); refine r_te (r_prim2 (r_prim2 ?_)); refine' r_var ?wa ?_; (case wa => assumption); refine a_p2 (r_int (a_p2b (p_idxT rfl rfl (a_p2 (r_int (a_p2b (p_eq rfl (r_truB (a_loopT rfl ?_))))))))); refine r_seq (r_expr (r_bm ?_)); refine' r_var ?wa ?_; (case wa => assumption); refine a_bm ?wa ?_; (case wa => (refine' bmOk_list ?wz (by intro e; cases e); (case wz => assumption))); refine r_econs (r_prim2 (r_prim2 ?_)); refine' r_var ?wa ?_; (case wa => assumption); refine a_p2 (r_int (a_p2b (p_idxT rfl rfl (a_p2 (r_int (a_p2b (p_idxT rfl rfl (a_cons1 (r_pures rfl ?_))))))))); refine a_cons2 (a_bm2 ?_); refine' b_append ?wa ?wb ?_; (case wa => assumption); (case wb => assumption); refine a_exp (r_seqN (r_seq (r_assign (r_prim2 (r_prim2 ?_))))); refine' r_var ?wa ?_; (case wa => assumption); refine a_p2 (r_int (a_p2b (p_idxT rfl rfl (a_p2 (r_int (a_p2b (p_idxT rfl rfl (a_asg (t_var ?_))))))))); refine a_nx (r_seqN (r_skip (r_loopN ?_))))
    refine ⟨b.length, by simp, a ++ [t], b, by simp, rfl, rfl, h1, F.setNew (Nat.le_refl _), ?_, ?_⟩
    · rw [Tm.pvs_app]; exact get_set_eq (by assumption)
    · have : (a ++ t :: b).length ≤ 1000 := hn
      simp at this ⊢; (first | lia | omega)

theorem dec_str {x y : Str} (h : x = y) : decide (x = y) = true := by simp [h]
theorem is_callable_S (T : TabP P) {t : Tm} (h : t.tag = "a" ∨ t.tag = "s") (q : Q (.bool true) σ) : wpCall P (m + 1) 202 [t.pv] σ Q := by
  refine enter T.f202 rfl ?_
  unfold b_202
  cases t with
  | v n => exact absurd h (by show ¬ (("v" : Str) = "a" ∨ ("v" : Str) = "s"); decide +kernel)
  | i n => exact absurd h (by show ¬ (("i" : Str) = "a" ∨ ("i" : Str) = "s"); decide +kernel)
  | a n =>
    simp only [Tm.pv]
    refine r_seq (r_ret (r_or (r_primP rfl (p_eq rfl (r_orT rfl (a_ret (r_seqR (r_retR ?_))))))))
    rw [dec_str rfl]; exact q
  | s f args =>
    simp only [Tm.pv]
    (refine r_seq (r_ret (r_or (r_primP rfl (p_eq rfl ?_)))); refine r_orF ?wa ?_; (case wa => decide); refine r_primP rfl (p_eq rfl (a_ret (r_seqR (r_retR ?_)))))
    rw [dec_str rfl]; exact q

theorem functor_in_a (T : TabP P) (hS : SymAt σ k S) (ok : Sok S) {n : Nat} (hn : n < 40)
    (q : ∀ (i : Nat) σ', (S.addF n 0).funs[i]? = some ((n : Int), 0) → SymAt σ' k (S.addF n 0) → Sok (S.addF n 0) → Fr (symM k) σ σ' → Q (.int (i : Int)) σ') : wpCall P (m + 2) 209 [.obj k, (Tm.a n).pv] σ Q := by
  have ei := hS.i
  refine enter T.f209 rfl ?_
  unfold b_209
  simp only [Tm.pv]
  (refine r_seq (r_site (r_te (r_primP rfl (p_eq rfl (r_truB (a_siteT rfl (r_seq (r_ret (r_meth ?_))))))))); refine r_var rfl ?_; refine' r_methK ?wa ?wb ?wc ?_; (case wa => assumption); (case wb => exact TabP.m10 (by assumption)); (case wc => rfl); refine r_pures rfl (a_meth ?_))
  refine functorS T hS ok (by (first | lia | omega)) fun i σ₂ h4 h5 h6 F2 => ?_
  refine a_ret (r_seqR (r_seqR (r_retR ?_)))
  exact q i σ₂ h4 h5 h6 F2
theorem functor_in_s (T : TabP P) {f : Int} {args : List Tm} (q : Q (.int f) σ) : wpCall P (m + 1) 209 [.obj k, (Tm.s f args).pv] σ Q := by
  refine enter T.f209 rfl ?_
  unfold b_209
  simp only [Tm.pv]
  (refine r_seq (r_site (r_te (r_primP rfl (p_eq rfl (r_truB ?_))))); refine a_siteF ?wa ?_; (case wa => decide); refine r_skip (r_seqN (r_seq (r_ret (r_pure rfl (a_ret (r_seqR (r_retR ?_))))))))
  exact q
theorem arguments_a (T : TabP P) {n : Int} (q : Q (.tup []) σ) : wpCall P (m + 1) 216 [(Tm.a n).pv] σ Q := by
  have hbig : (0 : Nat) ≤ big := by decide
  refine enter T.f216 rfl ?_
  unfold b_216
  simp only [Tm.pv]
  (refine r_seq (r_site (r_te (r_primP rfl (p_eq rfl (r_truB ?_))))); refine a_siteF ?wa ?_; (case wa => decide); refine r_skip (r_seqN (r_seq (r_ret (r_tupP rfl (a_ret (r_seqR (r_retR ?_))))))))
  exact q
theorem arguments_s (T : TabP P) {f : Int} {args : List Tm} (q : Q (.tup (Tm.pvs args)) σ) : wpCall P (m + 1) 216 [(Tm.s f args).pv] σ Q := by
  refine enter T.f216 rfl ?_
  unfold b_216
  simp only [Tm.pv]
  (refine r_seq (r_site (r_te (r_primP rfl (p_eq rfl (r_truB (a_siteT rfl (r_seq (r_ret (r_pure rfl ?_))))))))); refine a_ret (r_seqR (r_seqR (r_retR ?_))))
  exact q

theorem pyIdx_nat {α : Type} {xs : List α} {i : Nat} {v : α} (h : xs[i]? = some v) : pyIdx xs (i : Int) = some v := by
  unfold pyIdx
  rw [if_pos (by (first | lia | omega))]
  simpa using h
theorem name_S (T : TabP P) (hS : SymAt σ k S) {i : Nat} {a r : Int} (h : S.funs[i]? = some (a, r)) (q : Q (.int a) σ) : wpCall P (m + 1) 116 [.obj k, .int (i : Int)] σ Q := by
  have ei := hS.i
  have ef := hS.f
  have hp : pyIdx (S.funs.map fpair) (i : Int) = some (.tup [.int a, .int r]) := pyIdx_nat (by rw [List.getElem?_map, h]; rfl)
  refine enter T.f116 rfl ?_
  unfold b_116
  (refine r_seq (r_ret (r_prim2 (r_prim2 (r_attr (r_var rfl ?_))))); refine' r_attrK ?wa ?wb ?wc ?_; (case wa => assumption); (case wb => rfl); (case wc => exact TabP.s2 (by assumption)); refine a_p2 (r_var rfl (a_p2b ?_)); refine' p_idxL ?wa ?wb ?_; (case wa => assumption); (case wb => with_reducible assumption); refine a_p2 (r_int (a_p2b (p_idxT rfl rfl (a_ret (r_seqR (r_retR ?_)))))))
  exact q

theorem nonterminal_a (T : TabP P) (hS : SymAt σ k S) (ok : Sok S) {n : Nat} (hn : n < 40) {x y : Tm}
    (q : ∀ S' (i : Nat) σ', S.le S' → S'.funs[i]? = some ((n : Int), 2) → SymAt σ' k S' → Sok S' → Fr (symM k) σ σ' → Q (Tm.s i [x, y]).pv σ') : wpCall P (m + 3) 343 [.obj k, (Tm.a n).pv, x.pv, y.pv] σ Q := by
  have hbig2 : (2 : Nat) ≤ big := by decide
  refine enter T.f343 rfl ?_
  unfold b_343
  refine r_seq (r_assign (r_callP rfl ?_))
  refine functor_in_a T hS ok hn fun i σ₁ h1 h2 h3 F1 => ?_
  refine a_asg (t_var (a_nx (r_seqN (r_seq (r_assign (r_prim2 (r_callP rfl ?_)))))))
  refine arguments_a T ?_
  have hz : ([] : List PV).length + [x.pv, y.pv].length ≤ big := by show 0 + 2 ≤ big; decide
  have ei := h2.i
  (refine a_p2 (r_tupP rfl (a_p2b ?_)); refine' p_addT ?wa ?wb ?wc ?_; (case wa => rfl); (case wb => rfl); (case wc => assumption); refine a_asg (t_var (a_nx (r_seqN (r_seq (r_ret (r_call (r_econs (r_meth (r_var rfl ?_))))))))); refine' r_methK ?wa ?wb ?wc ?_; (case wa => assumption); (case wb => exact TabP.m10 (by assumption)); (case wc => rfl); refine r_econs (r_meth (r_var rfl ?_)); refine' r_methK ?wa ?wb ?wc ?_; (case wa => assumption); (case wb => exact TabP.m12 (by assumption)); (case wc => rfl); refine r_pures rfl (a_meth ?_))
  refine name_S T h2 h1 ?_
  refine a_cons1 (r_econs (r_primP rfl (p_lenT rfl (a_cons1 (r_pures rfl (a_cons2 (a_cons2 (a_meth ?_))))))))
  refine functorS T h2 h3 (a := n) (r := 2) (by (first | lia | omega)) fun j σ₂ h4 h5 h6 F2 => ?_
  refine a_cons1 (r_pures rfl (a_cons2 (a_call ?_)))
  refine struct_S T ?_
  refine a_ret (r_seqR (r_retR ?_))
  exact q _ j σ₂ ((S.le_addF n 0).trans (Sym.le_addF _ n 2)) h4 h5 h6 (F1.trans F2)
end

theorem rangeL_at {a b c : Int} {i : Nat} {y : PV} (h : (rangeL a b c)[i]? = some y) : y = .int (a + c * (i : Int)) := by
  unfold rangeL at h
  rw [List.getElem?_map] at h
  cases e : (List.range (Builtin.Range.rangeSize a b c).toNat)[i]? with
  | none => rw [e] at h; cases h
  | some j =>
    rw [e] at h
    obtain ⟨hi, e'⟩ := List.getElem?_eq_some_iff.mp e
    simp at e'; subst e'
    cases h; rfl
theorem rangeL_len (a b c : Int) : (rangeL a b c).length = (Builtin.Range.rangeSize a b c).toNat := by simp [rangeL]
theorem down_size (n : Nat) : (Builtin.Range.rangeSize ((n : Int) - 1) (-1) (-1)).toNat = n := by
  unfold Builtin.Range.rangeSize
  rw [if_neg (by decide)]
  split
  · rw [show -(-1 : Int) = 1 by decide, Int.ediv_one]; (first | lia | omega)
  · (first | lia | omega)
theorem up_size (n : Nat) : (Builtin.Range.rangeSize 0 (n : Int) 1).toNat = n := by
  unfold Builtin.Range.rangeSize
  rw [if_pos (by decide)]
  split
  · rw [Int.ediv_one]; (first | lia | omega)
  · (first | lia | omega)

noncomputable def conjT : List Tm → Tm → Tm := fun pre z => pre.foldr (fun g r => .s 1 [g, r]) z
inductive IsSpine (F : List Int) : Tm → List Tm → Prop where
  | one {t : Tm} : (∀ f l, t = .s f l → f ∉ F) → IsSpine F t [t]
  | cons {f : Int} {l r : Tm} {ps : List Tm} : f ∈ F → IsSpine F r ps → IsSpine F (.s f [l, r]) (l :: ps)
theorem eqv_int (g f : Int) : eqv eqDepth (.int g) (.int f) = some (decide (g = f)) := rfl
theorem anyL_cons (h : PV → Option Bool) (x : PV) (xs : List PV) {a b : Bool} (h1 : h x = some a) (h2 : anyL h xs = some b) : anyL h (x :: xs) = some (a || b) := by
  unfold anyL; rw [h1, h2]
theorem dec_or (g f : Int) (r : List Int) : (decide (g = f) || decide (f ∈ r)) = decide (f ∈ g :: r) := by
  rw [Bool.eq_iff_iff, Bool.or_eq_true, decide_eq_true_eq, decide_eq_true_eq, decide_eq_true_eq, List.mem_cons]
  exact ⟨fun h => h.imp Eq.symm id, fun h => h.imp Eq.symm id⟩
theorem anyL_ints (f : Int) : ∀ F : List Int, anyL (fun y => eqv eqDepth y (.int f)) (F.map PV.int) = some (decide (f ∈ F))
  | [] => rfl
  | g :: r => by
    rw [List.map_cons, anyL_cons (fun y => eqv eqDepth y (.int f)) _ _ (eqv_int g f) (anyL_ints f r), dec_or]
theorem inS_ints (σ : St) (f : Int) (F : List Int) : inS σ (.int f) (.tup (F.map PV.int)) = some (decide (f ∈ F)) := anyL_ints f F

section
variable {P : Pg} {σ : St} {k m : Nat} {S : Sym} {Q : EQ}

theorem nonterminal_s (T : TabP P) (hS : SymAt σ k S) (ok : Sok S) {f : Nat} {args : List Tm} {a : Nat} {r : Int} (hf : S.funs[f]? = some ((a : Int), r)) (hr : args.length ≤ 6) {x y : Tm}
    (q : ∀ S' (i : Nat) σ', S.le S' → S'.funs[i]? = some ((a : Int), ((args.length + 2 : Nat) : Int)) → SymAt σ' k S' → Sok S' → Fr (symM k) σ σ' → Q (Tm.s i (args ++ [x, y])).pv σ') : wpCall P (m + 3) 343 [.obj k, (Tm.s f args).pv, x.pv, y.pv] σ Q := by
  have hbig2 : (2 : Nat) ≤ big := by decide
  have hk := ok.f _ (List.mem_of_getElem? hf)
  refine enter T.f343 rfl ?_
  unfold b_343
  refine r_seq (r_assign (r_callP rfl ?_))
  refine functor_in_s T ?_
  refine a_asg (t_var (a_nx (r_seqN (r_seq (r_assign (r_prim2 (r_callP rfl ?_)))))))
  refine arguments_s T ?_
  have hz : (Tm.pvs args).length + [x.pv, y.pv].length ≤ big := by rw [Tm.pvs_len]; show _ + 2 ≤ big; unfold big; (first | lia | omega)
  have ei := hS.i
  (refine a_p2 (r_tupP rfl (a_p2b ?_)); refine' p_addT ?wa ?wb ?wc ?_; (case wa => rfl); (case wb => rfl); (case wc => assumption); refine a_asg (t_var (a_nx (r_seqN (r_seq (r_ret (r_call (r_econs (r_meth (r_var rfl ?_))))))))); refine' r_methK ?wa ?wb ?wc ?_; (case wa => assumption); (case wb => exact TabP.m10 (by assumption)); (case wc => rfl); refine r_econs (r_meth (r_var rfl ?_)); refine' r_methK ?wa ?wb ?wc ?_; (case wa => assumption); (case wb => exact TabP.m12 (by assumption)); (case wc => rfl); refine r_pures rfl (a_meth ?_))
  refine name_S T hS hf ?_
  refine a_cons1 (r_econs (r_primP rfl (p_lenT rfl (a_cons1 (r_pures rfl (a_cons2 (a_cons2 (a_meth ?_))))))))
  have e : (((Tm.pvs args ++ [x.pv, y.pv]).length : Nat) : Int) = ((args.length + 2 : Nat) : Int) := by simp [Tm.pvs_len]
  rw [e]
  refine functorS T hS ok (a := a) (r := ((args.length + 2 : Nat) : Int)) (by refine ⟨hk.1, hk.2.1, ?_, ?_⟩ <;> push_cast <;> (first | lia | omega)) fun j σ₂ h4 h5 h6 F2 => ?_
  refine a_cons1 (r_pures rfl (a_cons2 (a_call ?_)))
  refine struct_S T ?_
  refine a_ret (r_seqR (r_retR ?_))
  have := q _ j σ₂ (Sym.le_addF _ _ _) h4 h5 h6 F2
  rw [Tm.pv, Tm.pvs_app] at this
  exact this

theorem conjunction_S (T : TabP P) {k : Nat} {pre : List Tm} {z : Tm} (hn : pre.length ≤ 1000) (h : σ[k]? = some (.list (Tm.pvs (pre ++ [z])))) (q : Q (conjT pre z).pv σ) : wpCall P (m + 1) 237 [.obj k] σ Q := by
  have hbig2 : (2 : Nat) ≤ big := by decide
  have hbig3 : (3 : Nat) ≤ big := by decide
  have hl : (((Tm.pvs (pre ++ [z])).length : Nat) : Int) = (pre.length : Int) + 1 := by simp [Tm.pvs_len]
  refine enter T.f237 rfl ?_
  unfold b_237
  (refine r_seq (r_site (r_te (r_prim2 (r_primP rfl ?_)))); refine' p_lenL ?wa ?_; (case wa => assumption); refine a_p2 (r_int (a_p2b (p_eq rfl (r_truB ?_)))); refine a_siteF ?wa ?_; (case wa => (simp only [decide_eq_true_eq, decide_eq_false_iff_not, Bool.not_eq_true, Bool.not_eq_true', Bool.not_eq_false, Bool.not_eq_false', decide_not, Bool.not_not, Bool.and_false, Bool.false_and, Bool.or_false, Bool.false_or, Bool.true_and, Bool.and_true, Bool.false_eq_true, Bool.and_eq_true, Bool.or_eq_true, not_true_eq_false, not_false_eq_true]; (first | lia | omega))); refine r_skip (r_seqN (r_seq (r_assign (r_prim2 (r_var rfl (a_p2 (r_prim2 (r_primP rfl ?_)))))))); refine' p_lenL ?wa ?_; (case wa => assumption); refine a_p2 (r_int (a_p2b (p_sub (a_p2b ?_)))))
  rw [hl]
  have hne : ¬ ((pre.length : Int) + 1 = 0) := by (first | lia | omega)
  skip
  have hp : pyIdx (Tm.pvs (pre ++ [z])) ((pre.length : Int) + 1 - 1) = some z.pv := by
    rw [show (pre.length : Int) + 1 - 1 = ((pre.length : Nat) : Int) by (first | lia | omega)]
    exact pyIdx_nat (by rw [Tm.pvs_eq]; simp)
  (refine' p_idxL ?wa ?wb ?_; (case wa => assumption); (case wb => with_reducible assumption); refine a_asg (t_var (a_nx (r_seqN (r_seq (r_for (i_range (r_econs (r_prim2 (r_primP rfl ?_))))))))); refine' p_lenL ?wa ?_; (case wa => assumption); refine a_p2 (r_int (a_p2b (p_sub (a_cons1 (r_pures rfl (a_cons2 ?_)))))))
  rw [hl]
  have hR : rangeOf [.int ((pre.length : Int) + 1 - 2), .int (-1), .int (-1)] (rangeL ((pre.length : Int) - 1) (-1) (-1)) := by
    rw [show (pre.length : Int) + 1 - 2 = (pre.length : Int) - 1 by (first | lia | omega)]
    exact .inr ⟨_, _, rfl, decide_eq_true (by (first | lia | omega)), rfl, rfl⟩
  (refine' i_rangeK ?wa ?_; (case wa => with_reducible assumption); refine a_for ?_)
  refine for_rule (fun i lm σ' => σ' = σ ∧ ∃ a b, pre = a ++ b ∧ b.length = i ∧ lm 0 = some (.obj k) ∧ lm 1 = some (conjT b z).pv) ⟨rfl, pre, [], by simp, rfl, rfl, rfl⟩ (fun _ _ _ _ => trivial) ?_ ?_
  · rintro i y lm σ' K hy ⟨rfl, a, b, rfl, rfl, h0, h1⟩ hK
    have hy' := rangeL_at hy
    subst hy'
    rcases List.eq_nil_or_concat a with rfl | ⟨a', t, rfl⟩
    · have := (List.getElem?_eq_some_iff.mp hy).1
      rw [rangeL_len, down_size] at this
      simp at this
    · have hp : pyIdx (Tm.pvs ((a'.concat t ++ b) ++ [z])) (((a'.concat t ++ b).length : Int) - 1 + -1 * (b.length : Int)) = some t.pv := by
        rw [show ((a'.concat t ++ b).length : Int) - 1 + -1 * (b.length : Int) = ((a'.length : Nat) : Int) by simp; (first | lia | omega)]
        refine pyIdx_nat ?_
        rw [Tm.pvs_eq]; simp
      (refine r_seq (r_assign (r_tup (r_econs (r_str (a_cons1 (r_econs (r_int (a_cons1 (r_econs ?_))))))))); refine r_tup (r_econs (r_prim2 ?_)); refine' r_var ?wa ?_; (case wa => assumption); refine a_p2 (r_var rfl (a_p2b ?_)); refine' p_idxL ?wa ?wb ?_; (case wa => assumption); (case wb => with_reducible assumption); refine a_cons1 (r_econs ?_); refine' r_var ?wa ?_; (case wa => assumption); refine a_cons1 (r_pures rfl (a_cons2 (a_cons2 ?_))); refine a_tup ?wa ?_; (case wa => assumption); refine a_cons1 (r_pures rfl (a_cons2 (a_cons2 (a_cons2 ?_)))); refine a_tup ?wa ?_; (case wa => assumption); refine a_asg (t_var (a_nx (r_seqN (r_skip (r_forN ?_))))))
      exact hK _ _ ⟨rfl, a', t :: b, by simp, by simp, h0, rfl⟩
  · rintro lm σ' ⟨rfl, a, b, rfl, hl', h0, h1⟩
    have : a = [] := by
      rw [rangeL_len, down_size] at hl'
      cases a with
      | nil => rfl
      | cons _ _ => simp at hl'; (first | lia | omega)
    subst this
    (refine r_seqN (r_seq (r_ret ?_)); refine' r_var ?wa ?_; (case wa => assumption); refine a_ret (r_seqR (r_retR ?_)))
    exact q

set_option tactic.hygienic true in
theorem right_spine_S (T : TabP P) {F : List Int} {t : Tm} {parts : List Tm} (hs : IsSpine F t parts) (hn : parts.length ≤ 1000) (q : ∀ σ', Fr (fun _ => False) σ σ' → σ'[σ.length]? = some (.list (Tm.pvs parts)) → Q (.obj σ.length) σ') : wpCall P (m + 1) 301 [t.pv, .tup (F.map PV.int)] σ Q := by
  refine enter T.f301 rfl ?_
  unfold b_301
  (refine r_seq (r_assign (r_list (r_pures rfl ?_))); refine a_list ?wa ?_; (case wa => trivial); refine a_asg (t_var (a_nx (r_seqN (r_seq (r_loop ?_))))))
  refine loop_rule (fun c lm σ' => ∃ pre rest t', parts = pre ++ rest ∧ c = rest.length ∧ IsSpine F t' rest ∧ lm 0 = some t'.pv ∧ lm 1 = some (.tup (F.map PV.int)) ∧ lm 2 = some (.obj σ.length) ∧ Fr (fun _ => False) σ σ' ∧ σ'[σ.length]? = some (.list (Tm.pvs pre))) ⟨_, [], parts, t, rfl, rfl, hs, rfl, rfl, rfl, Fr.new _, by simp [Tm.pvs]⟩ ?_
  rintro c lm σ' ⟨pre, rest, t', rfl, rfl, hs', h0, h1, h2, F', hl⟩
  have hlen : (Tm.pvs pre).length < big := by rw [Tm.pvs_len]; simp at hn; unfold big; (first | lia | omega)
  cases hs' with
  | one hno =>
    have fin : Q (.obj σ.length) (σ'.set σ.length (.list (Tm.pvs pre ++ [t'.pv]))) := by
      refine q _ (F'.setNew (Nat.le_refl _)) ?_
      rw [Tm.pvs_app]; exact get_set_eq (by assumption)
    cases t' with
    | v n => simp only [Tm.pv] at h0 fin; (refine r_tand (r_te (r_prim2 (r_prim2 ?_))); refine' r_var ?wa ?_; (case wa => assumption); refine a_p2 (r_int (a_p2b (p_idxT rfl rfl (a_p2 (r_str (a_p2b (p_eq rfl (r_truB ?_)))))))); refine a_andF ?wa ?_; (case wa => decide); refine a_loopF ?wa ?_; (case wa => decide); refine r_seqN (r_seq (r_expr (r_bm ?_))); refine' r_var ?wa ?_; (case wa => assumption); refine a_bm ?wa ?_; (case wa => (refine' bmOk_list ?wz (by intro e; cases e); (case wz => assumption))); refine r_econs ?_; refine' r_var ?wa ?_; (case wa => assumption); refine a_cons1 (r_pures rfl (a_cons2 (a_bm2 ?_))); refine' b_append ?wa ?wb ?_; (case wa => assumption); (case wb => assumption); refine a_exp (r_seqN (r_seq (r_ret ?_))); refine' r_var ?wa ?_; (case wa => assumption); refine a_ret (r_seqR (r_retR ?_))); exact fin
    | a n => simp only [Tm.pv] at h0 fin; (refine r_tand (r_te (r_prim2 (r_prim2 ?_))); refine' r_var ?wa ?_; (case wa => assumption); refine a_p2 (r_int (a_p2b (p_idxT rfl rfl (a_p2 (r_str (a_p2b (p_eq rfl (r_truB ?_)))))))); refine a_andF ?wa ?_; (case wa => decide); refine a_loopF ?wa ?_; (case wa => decide); refine r_seqN (r_seq (r_expr (r_bm ?_))); refine' r_var ?wa ?_; (case wa => assumption); refine a_bm ?wa ?_; (case wa => (refine' bmOk_list ?wz (by intro e; cases e); (case wz => assumption))); refine r_econs ?_; refine' r_var ?wa ?_; (case wa => assumption); refine a_cons1 (r_pures rfl (a_cons2 (a_bm2 ?_))); refine' b_append ?wa ?wb ?_; (case wa => assumption); (case wb => assumption); refine a_exp (r_seqN (r_seq (r_ret ?_))); refine' r_var ?wa ?_; (case wa => assumption); refine a_ret (r_seqR (r_retR ?_))); exact fin
    | i n => simp only [Tm.pv] at h0 fin; (refine r_tand (r_te (r_prim2 (r_prim2 ?_))); refine' r_var ?wa ?_; (case wa => assumption); refine a_p2 (r_int (a_p2b (p_idxT rfl rfl (a_p2 (r_str (a_p2b (p_eq rfl (r_truB ?_)))))))); refine a_andF ?wa ?_; (case wa => decide); refine a_loopF ?wa ?_; (case wa => decide); refine r_seqN (r_seq (r_expr (r_bm ?_))); refine' r_var ?wa ?_; (case wa => assumption); refine a_bm ?wa ?_; (case wa => (refine' bmOk_list ?wz (by intro e; cases e); (case wz => assumption))); refine r_econs ?_; refine' r_var ?wa ?_; (case wa => assumption); refine a_cons1 (r_pures rfl (a_cons2 (a_bm2 ?_))); refine' b_append ?wa ?wb ?_; (case wa => assumption); (case wb => assumption); refine a_exp (r_seqN (r_seq (r_ret ?_))); refine' r_var ?wa ?_; (case wa => assumption); refine a_ret (r_seqR (r_retR ?_))); exact fin
    | s f l =>
      have hf := hno f l rfl
      have hin := inS_ints σ' f F
      simp only [Tm.pv] at h0 fin
      (refine r_tand (r_te (r_prim2 (r_prim2 ?_))); refine' r_var ?wa ?_; (case wa => assumption); refine a_p2 (r_int (a_p2b (p_idxT rfl rfl (a_p2 (r_str (a_p2b (p_eq rfl (r_truB (a_andT rfl ?_))))))))); refine r_te (r_prim2 (r_prim2 ?_)); refine' r_var ?wa ?_; (case wa => assumption); refine a_p2 (r_int (a_p2b (p_idxT rfl rfl (a_p2 ?_)))); refine' r_var ?wa ?_; (case wa => assumption); refine a_p2b ?_; refine' p_inn ?wa ?_; (case wa => with_reducible assumption); refine r_truB ?_; refine a_loopF ?wa ?_; (case wa => (simp only [decide_eq_true_eq, decide_eq_false_iff_not, Bool.not_eq_true, Bool.not_eq_true', Bool.not_eq_false, Bool.not_eq_false', decide_not, Bool.not_not, Bool.and_false, Bool.false_and, Bool.or_false, Bool.false_or, Bool.true_and, Bool.and_true, Bool.false_eq_true, Bool.and_eq_true, Bool.or_eq_true, not_true_eq_false, not_false_eq_true]; assumption)); refine r_seqN (r_seq (r_expr (r_bm ?_))); refine' r_var ?wa ?_; (case wa => assumption); refine a_bm ?wa ?_; (case wa => (refine' bmOk_list ?wz (by intro e; cases e); (case wz => assumption))); refine r_econs ?_; refine' r_var ?wa ?_; (case wa => assumption); refine a_cons1 (r_pures rfl (a_cons2 (a_bm2 ?_))); refine' b_append ?wa ?wb ?_; (case wa => assumption); (case wb => assumption); refine a_exp (r_seqN (r_seq (r_ret ?_))); refine' r_var ?wa ?_; (case wa => assumption); refine a_ret (r_seqR (r_retR ?_)))
      exact fin
  | cons hf hr =>
    rename_i f l r ps
    have hin := inS_ints σ' f F
    have h0 : lm 0 = some (.tup [.str "s", .int f, .tup [l.pv, r.pv]]) := h0
    (refine r_tand (r_te (r_prim2 (r_prim2 ?_))); refine' r_var ?wa ?_; (case wa => assumption); refine a_p2 (r_int (a_p2b (p_idxT rfl rfl (a_p2 (r_str (a_p2b (p_eq rfl (r_truB (a_andT rfl ?_))))))))); refine r_te (r_prim2 (r_prim2 ?_)); refine' r_var ?wa ?_; (case wa => assumption); refine a_p2 (r_int (a_p2b (p_idxT rfl rfl (a_p2 ?_)))); refine' r_var ?wa ?_; (case wa => assumption); refine a_p2b ?_; refine' p_inn ?wa ?_; (case wa => with_reducible assumption); refine r_truB ?_; refine a_loopT ?wa ?_; (case wa => (simp only [decide_eq_true_eq, decide_eq_false_iff_not, Bool.not_eq_true, Bool.not_eq_true', Bool.not_eq_false, Bool.not_eq_false', decide_not, Bool.not_not, Bool.and_false, Bool.false_and, Bool.or_false, Bool.false_or, Bool.true_and, Bool.and_true, Bool.false_eq_true, Bool.and_eq_true, Bool.or_eq_true, not_true_eq_false, not_false_eq_true]; assumption)); refine r_seq (r_expr (r_bm ?_)); refine' r_var ?wa ?_; (case wa => assumption); refine a_bm ?wa ?_; (case wa => (refine' bmOk_list ?wz (by intro e; cases e); (case wz => assumption))); refine r_econs (r_prim2 (r_prim2 ?_)); refine' r_var ?wa ?_; (case wa => assumption); refine a_p2 (r_int (a_p2b (p_idxT rfl rfl (a_p2 (r_int (a_p2b (p_idxT rfl rfl (a_cons1 (r_pures rfl ?_))))))))); refine a_cons2 (a_bm2 ?_); refine' b_append ?wa ?wb ?_; (case wa => assumption); (case wb => assumption); refine a_exp (r_seqN (r_seq (r_assign (r_prim2 (r_prim2 ?_))))); refine' r_var ?wa ?_; (case wa => assumption); refine a_p2 (r_int (a_p2b (p_idxT rfl rfl (a_p2 (r_int (a_p2b (p_idxT rfl rfl (a_asg (t_var ?_))))))))); refine a_nx (r_seqN (r_skip (r_loopN ?_))))
    refine ⟨ps.length, by simp, pre ++ [l], ps, r, by simp, rfl, hr, rfl, h1, h2, F'.setNew (Nat.le_refl _), ?_⟩
    rw [Tm.pvs_app]; exact get_set_eq (by assumption)
end

theorem free_ex (u : List Int) : ∀ (c : Nat) (n : Int), (u.filter fun x => decide (n ≤ x)).length ≤ c → ∃ r, n ≤ r ∧ r ∉ u ∧ ∀ j, n ≤ j → j < r → j ∈ u
  | c, n, h => by
    by_cases hn : n ∈ u
    · cases c with
      | zero =>
        have : n ∈ u.filter fun x => decide (n ≤ x) := List.mem_filter.mpr ⟨hn, by simp⟩
        have := List.length_pos_of_mem this
        (first | lia | omega)
      | succ c =>
        have hlt : (u.filter fun x => decide (n + 1 ≤ x)).length < (u.filter fun x => decide (n ≤ x)).length := by
          have e : u.filter (fun x => decide (n + 1 ≤ x)) = (u.filter fun x => decide (n ≤ x)).filter fun x => decide (n + 1 ≤ x) := by
            rw [List.filter_filter]
            refine List.filter_congr fun x _ => ?_
            rw [Bool.eq_iff_iff]; simp; (first | lia | omega)
          rw [e]
          refine List.length_filter_lt_length_iff_exists.mpr ⟨n, List.mem_filter.mpr ⟨hn, by simp⟩, by simp; (first | lia | omega)⟩
        obtain ⟨r, h1, h2, h3⟩ := free_ex u c (n + 1) (by (first | lia | omega))
        refine ⟨r, by (first | lia | omega), h2, fun j hj hj' => ?_⟩
        by_cases q : j = n
        · rw [q]; exact hn
        · exact h3 j (by (first | lia | omega)) hj'
    · exact ⟨n, Int.le_refl _, hn, fun j h1 h2 => by (first | lia | omega)⟩
noncomputable def free (u : List Int) (n : Int) : Int := Classical.choose (free_ex u _ n (Nat.le_refl _))
theorem free_le (u : List Int) (n : Int) : n ≤ free u n := (Classical.choose_spec (free_ex u _ n (Nat.le_refl _))).1
theorem free_not (u : List Int) (n : Int) : free u n ∉ u := (Classical.choose_spec (free_ex u _ n (Nat.le_refl _))).2.1
theorem free_least (u : List Int) (n : Int) : ∀ j, n ≤ j → j < free u n → j ∈ u := (Classical.choose_spec (free_ex u _ n (Nat.le_refl _))).2.2
theorem free_eq {u : List Int} {n r : Int} (h1 : n ≤ r) (h2 : r ∉ u) (h3 : ∀ j, n ≤ j → j < r → j ∈ u) : r = free u n := by
  rcases Int.lt_trichotomy r (free u n) with h | h | h
  · exact absurd (free_least u n r h1 h) h2
  · exact h
  · exact absurd (h3 _ (free_le u n) h) (free_not u n)

section
variable {P : Pg} {σ : St} {k m : Nat} {S : Sym} {Q : EQ}

theorem terminals_S (T : TabP P) {items : List Tm} (hn : items.length ≤ 1000) {x y : Tm} (q : ∀ σ', Fr (fun _ => False) σ σ' → Q (Tm.s 10 [x, listT items y]).pv σ') : wpCall P (m + 2) 350 [.obj k, (listT items (.a 0)).pv, x.pv, y.pv] σ Q := by
  have hbig2 : (2 : Nat) ≤ big := by decide
  refine enter T.f350 rfl ?_
  unfold b_350
  refine r_seq (r_assign (r_callP rfl ?_))
  refine list_items_S T hn fun σ₁ F1 hl => ?_
  simp only [Tm.pv]
  (refine a_asg (t_tup rfl rfl (a_nx (r_seqN (r_seq (r_site (r_te (r_primP rfl (p_eq rfl (r_truB ?_))))))))); refine a_siteF ?wa ?_; (case wa => decide); refine r_skip (r_seqN (r_seq (r_site (r_te (r_prim2 (r_var rfl (a_p2 (r_callP rfl ?_)))))))))
  refine atom_S T ?_
  simp only [Tm.pv]
  (refine a_p2b (p_ne rfl (r_truB ?_)); refine a_siteF ?wa ?_; (case wa => decide); refine r_skip (r_seqN (r_seq (r_ret (r_call (r_econs (r_int (a_cons1 (r_econs (r_tup ?_))))))))); refine r_econs (r_var rfl (a_cons1 (r_econs (r_callP rfl ?_)))))
  refine list_term_S T hl ?_
  (refine a_cons1 (r_pures rfl (a_cons2 (a_cons2 ?_))); refine a_tup ?wa ?_; (case wa => assumption); refine a_cons1 (r_pures rfl (a_cons2 (a_cons2 (a_call ?_)))))
  refine struct_S T ?_
  refine a_ret (r_seqR (r_retR ?_))
  exact q σ₁ F1

theorem number_S (T : TabP P) {kf : Nat} {n : Int} (h : σ[kf]? = some (.inst 290 [(4, .int n)])) (q : Q (.int n) (σ.set kf (.inst 290 [(4, .int (n + 1))]))) : wpCall P (m + 1) 287 [.obj kf] σ Q := by
  refine enter T.f287 rfl ?_
  unfold b_287
  (refine r_seq (r_assign (r_attr (r_var rfl ?_))); refine' r_attrK ?wa ?wb ?wc ?_; (case wa => assumption); (case wb => rfl); (case wc => exact TabP.s4 (by assumption)); refine a_asg (t_var (a_nx (r_seqN (r_seq (r_assign (r_primP rfl (p_addI (a_asg (t_attr ?_))))))))); refine r_var rfl (a_ta ?_); refine' s_attr ?wa ?wb ?wc ?_; (case wa => assumption); (case wb => exact TabP.s4 (by assumption)); (case wc => exact Nat.le_of_ble_eq_true rfl); refine a_ta2 (a_nx (r_seqN (r_seq (r_ret (r_var rfl (a_ret (r_seqR (r_retR ?_)))))))))
  exact q
theorem freshInit_S (T : TabP P) {kf : Nat} {n : Int} (h : σ[kf]? = some (.inst 290 [])) (q : Q .none (σ.set kf (.inst 290 [(4, .int n)]))) : wpCall P (m + 1) 280 [.obj kf, .int n] σ Q := by
  refine enter T.f280 rfl ?_
  unfold b_280
  (refine r_seq (r_assign (r_var rfl (a_asg (t_attr (r_var rfl (a_ta ?_)))))); refine' s_attr ?wa ?wb ?wc ?_; (case wa => assumption); (case wb => exact TabP.s4 (by assumption)); (case wc => trivial); refine a_ta2 (a_nx (r_seqN (r_skip (r_retN ?_)))))
  exact q
theorem gvInit_S (T : TabP P) {kn : Nat} {a b : PV} (h : σ[kn]? = some (.inst 325 [])) (q : Q .none ((σ.set kn (.inst 325 [(5, a)])).set kn (.inst 325 [(5, a), (6, b)]))) : wpCall P (m + 1) 315 [.obj kn, a, b] σ Q := by
  refine enter T.f315 rfl ?_
  unfold b_315
  (refine r_seq (r_assign (r_var rfl (a_asg (t_attr (r_var rfl (a_ta ?_)))))); refine' s_attr ?wa ?wb ?wc ?_; (case wa => assumption); (case wb => exact TabP.s5 (by assumption)); (case wc => trivial); refine a_ta2 (a_nx (r_seqN (r_seq (r_assign (r_var rfl (a_asg (t_attr (r_var rfl (a_ta ?_))))))))); refine' s_attr ?wa ?wb ?wc ?_; (case wa => (refine get_set_eq (o := ?_) ?_; rotate_left; assumption)); (case wb => exact TabP.s6 (by assumption)); (case wc => exact Nat.le_of_ble_eq_true rfl); refine a_ta2 (a_nx (r_seqN (r_skip (r_retN ?_)))))
  have h2 := get_set_eq (o' := .inst 325 [(5, a)]) h
  skip
  exact q

structure GVAt (σ : St) (kn kf ku : Nat) (u : List Int) (n : Int) : Prop where
  i : σ[kn]? = some (.inst 325 [(5, .obj kf), (6, .obj ku)])
  f : σ[kf]? = some (.inst 290 [(4, .int n)])
  u : σ[ku]? = some (.list (u.map .int))
  nf : kn ≠ kf
  uf : ku ≠ kf
theorem GVAt.frame {σ σ' : St} {kn kf ku : Nat} {u : List Int} {n : Int} (h : GVAt σ kn kf ku u n) {M : Nat → Prop} (F : Fr M σ σ') (h1 : ¬ M kn) (h2 : ¬ M kf) (h3 : ¬ M ku) : GVAt σ' kn kf ku u n :=
  ⟨F.at' _ _ h.i h1, F.at' _ _ h.f h2, F.at' _ _ h.u h3, h.nf, h.uf⟩
theorem GVAt.set {σ : St} {kn kf ku : Nat} {u : List Int} {n n' : Int} (h : GVAt σ kn kf ku u n) : GVAt (σ.set kf (.inst 290 [(4, .int n')])) kn kf ku u n' :=
  ⟨get_set_ne h.nf.symm h.i, get_set_eq h.f, get_set_ne h.uf.symm h.u, h.nf, h.uf⟩

theorem variable_S (T : TabP P) {kn kf ku : Nat} {u : List Int} {n : Int} (h : GVAt σ kn kf ku u n) (q : ∀ σ', GVAt σ' kn kf ku u (free u n + 1) → Fr (fun j => j = kf) σ σ' → Q (Tm.v (free u n)).pv σ') : wpCall P (m + 2) 322 [.obj kn] σ Q := by
  have hi := h.i
  have hf := h.f
  refine enter T.f322 rfl ?_
  unfold b_322
  (refine r_seq (r_assign (r_meth (r_attr (r_var rfl ?_)))); refine' r_attrK ?wa ?wb ?wc ?_; (case wa => assumption); (case wb => rfl); (case wc => exact TabP.s5 (by assumption)); refine' r_methK ?wa ?wb ?wc ?_; (case wa => assumption); (case wb => exact TabP.m14 (by assumption)); (case wc => rfl); refine r_pures rfl (a_meth ?_))
  refine number_S T hf ?_
  refine a_asg (t_var (a_nx (r_seqN (r_seq (r_loop ?_)))))
  refine loop_rule (fun c lm σ' => ∃ r, lm 0 = some (.obj kn) ∧ lm 1 = some (.int r) ∧ n ≤ r ∧ (∀ j, n ≤ j → j < r → j ∈ u) ∧ c = (u.filter fun x => decide (r ≤ x)).length ∧ GVAt σ' kn kf ku u (r + 1) ∧ Fr (fun j => j = kf) σ σ') ⟨_, n, rfl, rfl, Int.le_refl _, fun j h1 h2 => by (first | lia | omega), rfl, h.set, Fr.set rfl⟩ ?_
  rintro c lm σ' ⟨r, h0, h1, hle, hu, rfl, G, F⟩
  have hi := G.i
  have hf := G.f
  have hku := G.u
  have hin : inS σ' (.int r) (.obj ku) = some (decide (r ∈ u)) := by
    exact (inS_list hku).trans (anyL_ints r u)
  by_cases hr : r ∈ u
  · (refine r_te (r_prim2 ?_); refine' r_var ?wa ?_; (case wa => assumption); refine a_p2 (r_attr ?_); refine' r_var ?wa ?_; (case wa => assumption); refine' r_attrK ?wa ?wb ?wc ?_; (case wa => assumption); (case wb => rfl); (case wc => exact TabP.s6 (by assumption)); refine a_p2b ?_; refine' p_inn ?wa ?_; (case wa => with_reducible assumption); refine r_truB ?_; refine a_loopT ?wa ?_; (case wa => (simp only [decide_eq_true_eq, decide_eq_false_iff_not, Bool.not_eq_true, Bool.not_eq_true', Bool.not_eq_false, Bool.not_eq_false', decide_not, Bool.not_not, Bool.and_false, Bool.false_and, Bool.or_false, Bool.false_or, Bool.true_and, Bool.and_true, Bool.false_eq_true, Bool.and_eq_true, Bool.or_eq_true, not_true_eq_false, not_false_eq_true]; assumption)); refine r_seq (r_assign (r_meth (r_attr ?_))); refine' r_var ?wa ?_; (case wa => assumption); refine' r_attrK ?wa ?wb ?wc ?_; (case wa => assumption); (case wb => rfl); (case wc => exact TabP.s5 (by assumption)); refine' r_methK ?wa ?wb ?wc ?_; (case wa => assumption); (case wb => exact TabP.m14 (by assumption)); (case wc => rfl); refine r_pures rfl (a_meth ?_))
    refine number_S T hf ?_
    refine a_asg (t_var (a_nx (r_seqN (r_skip (r_loopN ?_)))))
    refine ⟨_, ?_, r + 1, h0, rfl, by (first | lia | omega), fun j h1 h2 => ?_, rfl, G.set, F.trans (Fr.set rfl)⟩
    · have e : u.filter (fun x => decide (r + 1 ≤ x)) = (u.filter fun x => decide (r ≤ x)).filter fun x => decide (r + 1 ≤ x) := by
        rw [List.filter_filter]
        refine List.filter_congr fun x _ => ?_
        rw [Bool.eq_iff_iff]; simp; (first | lia | omega)
      rw [e]
      exact List.length_filter_lt_length_iff_exists.mpr ⟨r, List.mem_filter.mpr ⟨hr, by simp⟩, by simp; (first | lia | omega)⟩
    · by_cases q : j = r
      · rw [q]; exact hr
      · exact hu j h1 (by (first | lia | omega))
  · have e := free_eq hle hr hu
    subst e
    (refine r_te (r_prim2 ?_); refine' r_var ?wa ?_; (case wa => assumption); refine a_p2 (r_attr ?_); refine' r_var ?wa ?_; (case wa => assumption); refine' r_attrK ?wa ?wb ?wc ?_; (case wa => assumption); (case wb => rfl); (case wc => exact TabP.s6 (by assumption)); refine a_p2b ?_; refine' p_inn ?wa ?_; (case wa => with_reducible assumption); refine r_truB ?_; refine a_loopF ?wa ?_; (case wa => (simp only [decide_eq_true_eq, decide_eq_false_iff_not, Bool.not_eq_true, Bool.not_eq_true', Bool.not_eq_false, Bool.not_eq_false', decide_not, Bool.not_not, Bool.and_false, Bool.false_and, Bool.or_false, Bool.false_or, Bool.true_and, Bool.and_true, Bool.false_eq_true, Bool.and_eq_true, Bool.or_eq_true, not_true_eq_false, not_false_eq_true]; assumption)); refine r_seqN (r_seq (r_ret (r_call (r_econs ?_)))); refine' r_var ?wa ?_; (case wa => assumption); refine a_cons1 (r_pures rfl (a_cons2 (a_call ?_))))
    refine var_S T ?_
    refine a_ret (r_seqR (r_retR ?_))
    exact q σ' G F
end

mutual
noncomputable def Tm.vars : Tm → List Int
  | .v n => [n] | .a _ => [] | .i _ => [] | .s _ args => Tm.varsL args
noncomputable def Tm.varsL : List Tm → List Int
  | [] => [] | t :: r => t.vars ++ Tm.varsL r
end
mutual
noncomputable def Tm.size : Tm → Nat
  | .v _ => 1 | .a _ => 1 | .i _ => 1 | .s _ args => 1 + Tm.sizeL args
noncomputable def Tm.sizeL : List Tm → Nat
  | [] => 0 | t :: r => t.size + Tm.sizeL r
end
theorem Tm.varsL_app : ∀ l m : List Tm, Tm.varsL (l ++ m) = Tm.varsL l ++ Tm.varsL m
  | [], _ => rfl
  | t :: r, m => by rw [List.cons_append, Tm.varsL, Tm.varsL, Tm.varsL_app r m, List.append_assoc]
theorem Tm.sizeL_app : ∀ l m : List Tm, Tm.sizeL (l ++ m) = Tm.sizeL l + Tm.sizeL m
  | [], _ => by simp [Tm.sizeL]
  | t :: r, m => by rw [List.cons_append, Tm.sizeL, Tm.sizeL, Tm.sizeL_app r m, Nat.add_assoc]
theorem Tm.varsL_rev (x : Int) : ∀ l : List Tm, x ∈ Tm.varsL l.reverse ↔ x ∈ Tm.varsL l
  | [] => Iff.rfl
  | t :: r => by
    rw [List.reverse_cons, Tm.varsL_app, Tm.varsL, Tm.varsL, Tm.varsL, List.append_nil, List.mem_append, List.mem_append, Tm.varsL_rev x r, or_comm]
theorem Tm.sizeL_rev : ∀ l : List Tm, Tm.sizeL l.reverse = Tm.sizeL l
  | [] => rfl
  | t :: r => by rw [List.reverse_cons, Tm.sizeL_app, Tm.sizeL_rev r, Tm.sizeL, Tm.sizeL, Tm.sizeL]; (first | lia | omega)
theorem Tm.size_pos (t : Tm) : 0 < t.size := by cases t <;> simp [Tm.size]; (first | lia | omega)
theorem Tm.len_sizeL : ∀ l : List Tm, l.length ≤ Tm.sizeL l
  | [] => Nat.le_refl _
  | t :: r => by have := Tm.len_sizeL r; have := t.size_pos; rw [Tm.sizeL, List.length_cons]; (first | lia | omega)

theorem dget_ints (n : Int) : ∀ l : List Int, (dget (.int n) (l.map fun x => (PV.int x, PV.bool true))).isSome = decide (n ∈ l)
  | [] => rfl
  | x :: l => by
    have ih := dget_ints n l
    unfold dget at ih ⊢
    rw [List.map_cons, List.find?_cons]
    by_cases h : x = n
    · subst h; simp
    · have : decide (PV.int x = PV.int n) = false := by simp [h]
      simp only [this]
      rw [ih, Bool.eq_iff_iff]
      simp [Ne.symm h]
theorem like_ints (n : Int) (l : List Int) : keysLike (.int n) (l.map fun x => (PV.int x, PV.bool true)) = true := by
  unfold keysLike
  rw [Bool.and_eq_true, List.all_eq_true]
  refine ⟨rfl, fun p hp => ?_⟩
  obtain ⟨x, _, rfl⟩ := List.mem_map.mp hp
  rfl

section
variable {P : Pg} {σ : St} {k m : Nat} {S : Sym} {Q : EQ}
theorem variables_of_S (T : TabP P) {t : Tm} (h : σ[k]? = some (.list [t.pv])) (hn : t.size ≤ 800) (q : ∀ σ' U, Fr (fun _ => False) σ σ' → σ'[σ.length + 1]? = some (.list (List.map PV.int U)) → (∀ n ∈ t.vars, n ∈ U) → Q (.obj (σ.length + 1)) σ') : wpCall P (m + 1) 230 [.obj k] σ Q := by
  refine enter T.f230 rfl ?_
  unfold b_230
  (refine r_seq (r_assign (r_dict0 (a_asg (t_var (a_nx (r_seqN (r_seq (r_assign (r_list ?_))))))))); refine r_pures rfl ?_; refine a_list ?wa ?_; (case wa => trivial); refine a_asg (t_var (a_nx (r_seqN (r_seq (r_assign (r_primP rfl ?_)))))); refine' p_rev ?wa ?_; (case wa => (refine get_app (get_app ?_); assumption)); refine a_asg (t_var (a_nx (r_seqN (r_seq (r_loop ?_))))))
  refine loop_rule (fun c lm σ' => ∃ todo seen, lm 1 = some (.obj σ.length) ∧ lm 2 = some (.obj (σ.length + 1)) ∧ lm 3 = some (.obj (σ.length + 2)) ∧ σ'[σ.length]? = some (.dict (seen.map fun x => (PV.int x, PV.bool true))) ∧ σ'[σ.length + 1]? = some (.list (List.map PV.int seen)) ∧
      σ'[σ.length + 2]? = some (.list (Tm.pvs todo)) ∧ Fr (fun _ => False) σ σ' ∧ (∀ n ∈ t.vars, n ∈ seen ∨ n ∈ Tm.varsL todo) ∧ c = Tm.sizeL todo ∧ seen.length + Tm.sizeL todo ≤ 800) ⟨_, [t], [], rfl, ?_, ?_, ?_, ?_, ?_, ?_, ?_, rfl, ?_⟩ ?_
  · show some (PV.obj (σ ++ [AObj.dict []]).length) = _
    simp
  · show some (PV.obj ((σ ++ [AObj.dict []]) ++ [AObj.list []]).length) = _
    simp
  · simp
  · simp
  · simp [Tm.pvs]
  · exact ((Fr.new _).trans (Fr.new _)).trans (Fr.new _)
  · intro n hn; right; simpa [Tm.varsL] using hn
  · simp [Tm.sizeL]; exact hn
  · rintro c lm σ' ⟨todo, seen, h1, h2, h3, e1, e2, e3, F, hv, rfl, hb⟩
    rcases List.eq_nil_or_concat todo with rfl | ⟨todo, x, rfl⟩
    · simp only [Tm.pvs] at e3
      have ht := truthy_list e3
      (refine r_te ?_; refine' r_var ?wa ?_; (case wa => assumption); refine' r_tru ?wa ?_; (case wa => assumption); refine a_loopF ?wa ?_; (case wa => decide); refine r_seqN (r_seq (r_ret ?_)); refine' r_var ?wa ?_; (case wa => assumption); refine a_ret (r_seqR (r_retR ?_)))
      refine q σ' seen F e2 fun n hn => ?_
      rcases hv n hn with h | h
      · exact h
      · simp [Tm.varsL] at h
    · rw [List.concat_eq_append] at *
      have hne : (!(Tm.pvs (todo ++ [x])).isEmpty) = true := by rw [Tm.pvs_eq]; simp
      have hla : (Tm.pvs (todo ++ [x])).getLast? = some x.pv := by rw [Tm.pvs_eq]; simp
      have hdl : (Tm.pvs (todo ++ [x])).dropLast = Tm.pvs todo := by rw [Tm.pvs_eq, Tm.pvs_eq]; simp
      rw [Tm.sizeL_app] at hb
      have hxs : Tm.sizeL [x] = x.size := by simp [Tm.sizeL]
      have ht := truthy_list e3
      (refine r_te ?_; refine' r_var ?wa ?_; (case wa => assumption); refine' r_tru ?wa ?_; (case wa => assumption); refine a_loopT ?wa ?_; (case wa => assumption); refine r_seq (r_assign (r_bm ?_)); refine' r_var ?wa ?_; (case wa => assumption); refine a_bm ?wa ?_; (case wa => (refine' bmOk_list ?wz (by intro e; cases e); (case wz => assumption))); refine r_pures rfl (a_bm2 ?_); refine' b_pop ?wa ?wb ?_; (case wa => assumption); (case wb => with_reducible assumption); refine a_asg (t_var (a_nx (r_seqN (r_seq (r_site (r_te (r_prim2 (r_primP rfl ?_)))))))))
      rw [hdl]
      have gt : (σ'.set (σ.length + 2) (.list (Tm.pvs todo)))[σ.length + 2]? = some (.list (Tm.pvs todo)) := by (refine get_set_eq (o := ?_) ?_; rotate_left; assumption)
      have F1 : Fr (fun _ => False) σ (σ'.set (σ.length + 2) (.list (Tm.pvs todo))) := F.setNew (by (first | lia | omega))
      have gd : (σ'.set (σ.length + 2) (.list (Tm.pvs todo)))[σ.length]? = some (.dict (seen.map fun x => (PV.int x, PV.bool true))) := by (refine get_set_ne (by first | (first | lia | omega) | decide) ?_; assumption)
      have gr : (σ'.set (σ.length + 2) (.list (Tm.pvs todo)))[σ.length + 1]? = some (.list (List.map PV.int seen)) := by (refine get_set_ne (by first | (first | lia | omega) | decide) ?_; assumption)
      generalize (σ'.set (σ.length + 2) (.list (Tm.pvs todo))) = τ at *
      rw [Tm.sizeL_app, hxs]
      have hsz := x.size_pos
      have back : ∀ (lm : LM) (hv' : ∀ n ∈ t.vars, n ∈ seen ∨ n ∈ Tm.varsL todo) (_ : lm 1 = some (.obj σ.length)) (_ : lm 2 = some (.obj (σ.length + 1))) (_ : lm 3 = some (.obj (σ.length + 2))), ∃ m, m < Tm.sizeL todo + x.size ∧ (fun c lm σ' => ∃ todo seen, lm 1 = some (.obj σ.length) ∧ lm 2 = some (.obj (σ.length + 1)) ∧ lm 3 = some (.obj (σ.length + 2)) ∧ σ'[σ.length]? = some (.dict (seen.map fun x => (PV.int x, PV.bool true))) ∧ σ'[σ.length + 1]? = some (.list (List.map PV.int seen)) ∧
          σ'[σ.length + 2]? = some (.list (Tm.pvs todo)) ∧ Fr (fun _ => False) σ σ' ∧ (∀ n ∈ t.vars, n ∈ seen ∨ n ∈ Tm.varsL todo) ∧ c = Tm.sizeL todo ∧ seen.length + Tm.sizeL todo ≤ 800) m lm τ :=
        fun lm hv' a b c => ⟨_, by (first | lia | omega), todo, seen, a, b, c, gd, gr, gt, F1, hv', rfl, by (first | lia | omega)⟩
      have hvx : ∀ n ∈ t.vars, n ∈ seen ∨ n ∈ Tm.varsL todo ∨ n ∈ x.vars := fun n hn => by
        rcases hv n hn with h | h
        · exact .inl h
        · rw [Tm.varsL_app, List.mem_append] at h
          rcases h with h | h
          · exact .inr (.inl h)
          · exact .inr (.inr (by simpa [Tm.varsL] using h))
      cases x with
      | a n =>
        simp only [Tm.pv]
        (refine p_idxT rfl rfl (a_p2 (r_str (a_p2b (p_eq rfl (r_truB ?_))))); refine a_siteF ?wa ?_; (case wa => decide); refine r_seq (r_site (r_te (r_primP rfl (p_eq rfl (r_truB ?_))))); refine a_siteF ?wa ?_; (case wa => decide); refine r_skip (r_seqN (r_skip (r_seqN (r_skip (r_loopN ?_))))))
        refine back _ (fun n hn => (hvx n hn).imp id fun h => h.elim id fun h => by simp [Tm.vars] at h) h1 h2 h3
      | i n =>
        simp only [Tm.pv]
        (refine p_idxT rfl rfl (a_p2 (r_str (a_p2b (p_eq rfl (r_truB ?_))))); refine a_siteF ?wa ?_; (case wa => decide); refine r_seq (r_site (r_te (r_primP rfl (p_eq rfl (r_truB ?_))))); refine a_siteF ?wa ?_; (case wa => decide); refine r_skip (r_seqN (r_skip (r_seqN (r_skip (r_loopN ?_))))))
        refine back _ (fun n hn => (hvx n hn).imp id fun h => h.elim id fun h => by simp [Tm.vars] at h) h1 h2 h3
      | s f args =>
        simp only [Tm.pv]
        have hz : (Tm.pvs todo).length + (Tm.pvs args).length ≤ big := by
          rw [Tm.pvs_len, Tm.pvs_len]
          have := Tm.len_sizeL todo
          have := Tm.len_sizeL args
          have : (Tm.s f args).size = 1 + Tm.sizeL args := rfl
          unfold big; (first | lia | omega)
        (refine p_idxT rfl rfl (a_p2 (r_str (a_p2b (p_eq rfl (r_truB ?_))))); refine a_siteF ?wa ?_; (case wa => decide); refine r_seq (r_site (r_te (r_primP rfl (p_eq rfl (r_truB (a_siteT rfl (r_seq (r_expr (r_bm ?_))))))))); refine' r_var ?wa ?_; (case wa => assumption); refine a_bm ?wa ?_; (case wa => (refine' bmOk_list ?wz (by intro e; cases e); (case wz => assumption))); refine r_pures rfl (a_bm2 ?_); refine' b_extendRev ?wa ?wb ?wc ?_; (case wa => assumption); (case wb => rfl); (case wc => assumption); refine a_exp (r_seqN (r_skip (r_seqN (r_skip (r_seqN (r_skip (r_loopN ?_))))))))
        have : (Tm.s f args).size = 1 + Tm.sizeL args := rfl
        have e : Tm.pvs todo ++ (Tm.pvs args).reverse = Tm.pvs (todo ++ args.reverse) := by simp [Tm.pvs_eq]
        rw [e]
        refine ⟨Tm.sizeL (todo ++ args.reverse), ?_, todo ++ args.reverse, seen, h1, h2, h3, ?_, ?_, ?_, F1.setNew (by (first | lia | omega)), fun n hn => ?_, rfl, ?_⟩
        · rw [Tm.sizeL_app, Tm.sizeL_rev]; (first | lia | omega)
        · (refine get_set_ne (by first | (first | lia | omega) | decide) ?_; assumption)
        · (refine get_set_ne (by first | (first | lia | omega) | decide) ?_; assumption)
        · (refine get_set_eq (o := ?_) ?_; rotate_left; assumption)
        · rw [Tm.varsL_app, List.mem_append, Tm.varsL_rev]
          exact (hvx n hn).imp id fun h => h.imp id fun h => h
        · rw [Tm.sizeL_app, Tm.sizeL_rev]; (first | lia | omega)
      | v n =>
        simp only [Tm.pv]
        have hin : inS τ (.int n) (.obj σ.length) = some (decide (n ∈ seen)) := by
          rw [inS_dict gd (like_ints n seen), dget_ints]
        by_cases hs : n ∈ seen
        · rw [decide_eq_true hs] at hin
          (refine p_idxT rfl rfl (a_p2 (r_str (a_p2b (p_eq rfl (r_truB (a_siteT rfl (r_seq (r_site (r_te ?_))))))))); refine r_prim2 (r_pure rfl (a_p2 ?_)); refine' r_var ?wa ?_; (case wa => assumption); refine a_p2b ?_; refine' p_notIn ?wa ?_; (case wa => with_reducible assumption); refine r_truB ?_; refine a_siteF ?wa ?_; (case wa => decide); refine r_skip (r_seqN (r_skip (r_seqN (r_skip (r_loopN ?_))))))
          refine back _ (fun y hy => (hvx y hy).elim .inl fun h => h.elim .inr fun h => .inl ?_) h1 h2 h3
          have : y = n := by simpa [Tm.vars] using h
          rw [this]; exact hs
        · have hlk := like_ints n seen
          have hlen : (seen.map fun x => (PV.int x, PV.bool true)).length < 1000 := by rw [List.length_map]; (first | lia | omega)
          have hlen2 : (List.map PV.int seen).length < big := by rw [List.length_map]; unfold big; (first | lia | omega)
          rw [decide_eq_false hs] at hin
          (refine p_idxT rfl rfl (a_p2 (r_str (a_p2b (p_eq rfl (r_truB (a_siteT rfl (r_seq (r_site (r_te ?_))))))))); refine r_prim2 (r_pure rfl (a_p2 ?_)); refine' r_var ?wa ?_; (case wa => assumption); refine a_p2b ?_; refine' p_notIn ?wa ?_; (case wa => with_reducible assumption); refine r_truB (a_siteT rfl (r_seq (r_assign (r_bool (a_asg (t_idx ?_)))))); refine' r_var ?wa ?_; (case wa => assumption); refine a_ti (r_pure rfl (a_ti2 ?_)); refine' s_dict ?wa ?wb ?wc ?_; (case wa => assumption); (case wb => assumption); (case wc => assumption); refine a_ta2 (a_nx (r_seqN (r_seq (r_expr (r_bm ?_))))); refine' r_var ?wa ?_; (case wa => assumption); refine a_bm ?wa ?_; (case wa => (refine' bmOk_list ?wz (by intro e; cases e); (case wz => (refine get_set_ne (by first | (first | lia | omega) | decide) ?_; assumption)))); refine r_pures rfl (a_bm2 ?_); refine' b_append ?wa ?wb ?_; (case wa => (refine get_set_ne (by first | (first | lia | omega) | decide) ?_; assumption)); (case wb => assumption); refine a_exp (r_seqN (r_skip (r_seqN (r_skip (r_seqN (r_skip (r_loopN ?_))))))))
          have hg : dget (.int n) (seen.map fun x => (PV.int x, PV.bool true)) = none := by
            have := dget_ints n seen
            rw [decide_eq_false hs] at this
            simpa using this
          rw [dput_new hg]
          have : (Tm.v n).size = 1 := rfl
          refine ⟨Tm.sizeL todo, by (first | lia | omega), todo, seen ++ [n], h1, h2, h3, ?_, ?_, ?_, (F1.setNew (by (first | lia | omega))).setNew (by (first | lia | omega)), fun y hy => ?_, rfl, by simp; (first | lia | omega)⟩
          · rw [List.map_append]; (refine get_set_ne (by first | (first | lia | omega) | decide) ?_; refine get_set_eq (o := ?_) ?_; rotate_left; assumption)
          · rw [List.map_append]; exact get_set_eq (o := .list (List.map PV.int seen)) (by (refine get_set_ne (by first | (first | lia | omega) | decide) ?_; assumption))
          · (refine get_set_ne (by first | (first | lia | omega) | decide) ?_; refine get_set_ne (by first | (first | lia | omega) | decide) ?_; assumption)
          · rw [List.mem_append]
            rcases hvx y hy with h | h | h
            · exact .inl (.inl h)
            · exact .inr h
            · exact .inl (.inr (by simpa [Tm.vars] using h))

theorem variables_S (T : TabP P) {t : Tm} (hn : t.size ≤ 800) (q : ∀ σ' U ku, Fr (fun _ => False) σ σ' → σ.length ≤ ku → σ'[ku]? = some (.list (List.map PV.int U)) → (∀ n ∈ t.vars, n ∈ U) → Q (.obj ku) σ') : wpCall P (m + 2) 223 [t.pv] σ Q := by
  have hbig : (1 : Nat) ≤ big := by decide
  refine enter T.f223 rfl ?_
  unfold b_223
  (refine r_seq (r_ret (r_call (r_econs (r_list (r_pures rfl ?_))))); refine a_list ?wa ?_; (case wa => assumption); refine a_cons1 (r_pures rfl (a_cons2 (a_call ?_))))
  refine variables_of_S T (t := t) get_new hn fun σ' U F h hv => ?_
  refine a_ret (r_seqR (r_retR ?_))
  exact q σ' U _ ((Fr.new _).trans F) (by simp; (first | lia | omega)) h hv
end

inductive Bd where
  | lst (items : List Tm) | nil | cut
  | atom (n : Nat) | cmp (f a : Nat) (args : List Tm) | curly (g : Tm) | var (n : Int)
  | neg (b : Bd) | seq (f : Int) (l r : Bd) | alt (f : Int) (l r : Bd)
namespace Bd
noncomputable def tm : Bd → Tm
  | lst items => listT items (.a 0) | nil => .a 0 | cut => .a 15
  | atom n => .a n | cmp f _ args => .s f args | curly g => .s 9 [g] | var n => .v n
  | neg b => .s 4 [b.tm] | seq f l r => .s f [l.tm, r.tm] | alt f l r => .s f [l.tm, r.tm]
noncomputable def dp : Bd → Nat
  | neg b => b.dp + 1 | seq _ l r => max l.dp r.dp + 1 | alt _ l r => max l.dp r.dp + 1 | _ => 0
noncomputable def nv : Bd → Nat
  | neg b => 1 + b.nv | seq _ l r => 1 + l.nv + r.nv | alt _ l r => l.nv + r.nv | _ => 0
noncomputable def ok (S : Sym) : Bd → Prop
  | lst items => items.length ≤ 1000 ∧ ∃ t r, items = t :: r
  | nil => True | cut => True
  | atom n => n ≠ 0 ∧ n ≠ 15 ∧ n < 40
  | cmp f a args => S.funs[f]? = some ((a : Int), (args.length : Int)) ∧ args.length ≤ 6 ∧ 32 ≤ f ∧ a ≠ 8
  | curly _ => True | var _ => True
  | neg b => b.ok S
  | seq f l r => (f = 1 ∨ f = 3) ∧ l.ok S ∧ r.ok S
  | alt f l r => (f = 2 ∨ ∃ i : Nat, f = i ∧ 32 ≤ i ∧ S.funs[i]? = some (8, 2)) ∧ l.ok S ∧ r.ok S
theorem ok_le {S S' : Sym} (h : S.le S') : ∀ {b : Bd}, b.ok S → b.ok S'
  | lst _, x => x | nil, x => x | cut, x => x | atom _, x => x
  | cmp _ _ _, x => ⟨le_fun h x.1, x.2⟩
  | curly _, x => x | var _, x => x
  | neg b, x => ok_le (b := b) h x
  | seq _ _ _, x => ⟨x.1, ok_le h x.2.1, ok_le h x.2.2⟩
  | alt _ _ _, x => ⟨x.1.imp id fun ⟨i, a, b, c⟩ => ⟨i, a, b, le_fun h c⟩, ok_le h x.2.1, ok_le h x.2.2⟩
end Bd

noncomputable def Sym.fn (S : Sym) (p : Int × Int) : Int := ((S.funs.findIdx? fun q => decide (q = p)).getD 0 : Nat)
noncomputable def Sym.tn (S : Sym) (x : Str) : Int := ((S.texts.findIdx? fun q => decide (q = x)).getD 0 : Nat)
theorem findIdx_of {α : Type} [DecidableEq α] {l : List α} {i : Nat} {x : α} (hn : l.Nodup) (h : l[i]? = some x) : l.findIdx? (fun q => decide (q = x)) = some i := by
  obtain ⟨hi, e⟩ := List.getElem?_eq_some_iff.mp h
  refine List.findIdx?_eq_some_iff_getElem.mpr ⟨hi, by simpa using e, fun j hj => ?_⟩
  simp only [Bool.not_eq_true, decide_eq_false_iff_not]
  intro q
  have : j = i := by
    have := (List.getElem_inj (h₀ := Nat.lt_trans hj hi) (h₁ := hi) hn).mp (q.trans e.symm)
    exact this
  (first | lia | omega)
theorem Sym.fn_eq {S : Sym} (ok : Sok S) {i : Nat} {p : Int × Int} (h : S.funs[i]? = some p) : S.fn p = i := by
  unfold Sym.fn; rw [findIdx_of ok.nf h]; rfl
theorem Sym.tn_eq {S : Sym} (ok : Sok S) {i : Nat} {x : Str} (h : S.texts[i]? = some x) : S.tn x = i := by
  unfold Sym.tn; rw [findIdx_of ok.nt h]; rfl
theorem Sym.fn_le {S S' : Sym} (ok : Sok S) (ok' : Sok S') (h : S.le S') {p : Int × Int} (hp : p ∈ S.funs) : S'.fn p = S.fn p := by
  obtain ⟨i, hi, e⟩ := List.mem_iff_getElem.mp hp
  have e' : S.funs[i]? = some p := by rw [List.getElem?_eq_getElem hi, e]
  rw [Sym.fn_eq ok e', Sym.fn_eq ok' (le_fun h e')]
theorem Sym.tn_le {S S' : Sym} (ok : Sok S) (ok' : Sok S') (h : S.le S') {p : Str} (hp : p ∈ S.texts) : S'.tn p = S.tn p := by
  obtain ⟨i, hi, e⟩ := List.mem_iff_getElem.mp hp
  have e' : S.texts[i]? = some p := by rw [List.getElem?_eq_getElem hi, e]
  rw [Sym.tn_eq ok e', Sym.tn_eq ok' (le_text h e')]

noncomputable def G (S : Sym) (φ : Nat → Int) : Bd → Tm → Tm → Nat → Tm
  | .lst items, h, t, _ => .s 10 [h, listT items t]
  | .nil, h, t, _ => .s 10 [h, t]
  | .cut, h, t, _ => .s 1 [.a 15, .s 10 [h, t]]
  | .atom n, h, t, _ => .s (S.fn (n, 2)) [h, t]
  | .cmp _ a args, h, t, _ => .s (S.fn (a, ((args.length + 2 : Nat) : Int))) (args ++ [h, t])
  | .curly g, h, t, _ => .s 1 [g, .s 10 [h, t]]
  | .var n, h, t, _ => .s (S.fn (S.tn "phrase", 3)) [.v n, h, t]
  | .neg b, h, t, c => .s 1 [.s 4 [G S φ b h (.v (φ c)) (c + 1)], .s 10 [h, t]]
  | .seq f l r, h, t, c => .s f [G S φ l h (.v (φ c)) (c + 1), G S φ r (.v (φ c)) t (c + 1 + l.nv)]
  | .alt _ l r, h, t, c => .s 2 [G S φ l h t c, G S φ r h t (c + l.nv)]
noncomputable def Bd.has (S : Sym) : Bd → Prop
  | .atom n => ((n : Int), 2) ∈ S.funs
  | .cmp _ a args => ((a : Int), ((args.length + 2 : Nat) : Int)) ∈ S.funs
  | .var _ => ("phrase" : Str) ∈ S.texts ∧ (S.tn "phrase", 3) ∈ S.funs
  | .neg b => b.has S
  | .seq _ l r => l.has S ∧ r.has S
  | .alt _ l r => l.has S ∧ r.has S
  | _ => True
theorem le_memF {S S' : Sym} (h : S.le S') {p : Int × Int} (hp : p ∈ S.funs) : p ∈ S'.funs := by
  obtain ⟨_, ⟨l, e⟩⟩ := h; rw [e]; exact List.mem_append_left _ hp
theorem le_memT {S S' : Sym} (h : S.le S') {p : Str} (hp : p ∈ S.texts) : p ∈ S'.texts := by
  obtain ⟨⟨l, e⟩, _⟩ := h; rw [e]; exact List.mem_append_left _ hp
theorem Bd.has_le {S S' : Sym} (ok : Sok S) (ok' : Sok S') (h : S.le S') : ∀ {b : Bd}, b.has S → b.has S'
  | .lst _, x => x | .nil, x => x | .cut, x => x | .curly _, x => x
  | .atom _, x => le_memF h x | .cmp _ _ _, x => le_memF h x
  | .var _, x => ⟨le_memT h x.1, by rw [Sym.tn_le ok ok' h x.1]; exact le_memF h x.2⟩
  | .neg b, x => Bd.has_le (b := b) ok ok' h x
  | .seq _ _ _, x => ⟨Bd.has_le ok ok' h x.1, Bd.has_le ok ok' h x.2⟩
  | .alt _ _ _, x => ⟨Bd.has_le ok ok' h x.1, Bd.has_le ok ok' h x.2⟩
theorem G_le {S S' : Sym} (ok : Sok S) (ok' : Sok S') (h : S.le S') (φ : Nat → Int) : ∀ {b : Bd} {x y : Tm} {c : Nat}, b.has S → G S' φ b x y c = G S φ b x y c
  | .lst _, _, _, _, _ => rfl | .nil, _, _, _, _ => rfl | .cut, _, _, _, _ => rfl | .curly _, _, _, _, _ => rfl
  | .atom _, _, _, _, x => by simp only [G]; rw [Sym.fn_le ok ok' h x]
  | .cmp _ _ _, _, _, _, x => by simp only [G]; rw [Sym.fn_le ok ok' h x]
  | .var _, _, _, _, x => by simp only [G]; rw [Sym.tn_le ok ok' h x.1, Sym.fn_le ok ok' h x.2]
  | .neg b, _, _, _, x => by simp only [G]; rw [G_le (b := b) ok ok' h φ x]
  | .seq _ l r, _, _, _, x => by simp only [G]; rw [G_le (b := l) ok ok' h φ x.1, G_le (b := r) ok ok' h φ x.2]
  | .alt _ l r, _, _, _, x => by simp only [G]; rw [G_le (b := l) ok ok' h φ x.1, G_le (b := r) ok ok' h φ x.2]

noncomputable def Bd.spine : Bd → List Bd
  | .seq f l r => if f = 1 then l :: r.spine else [.seq f l r]
  | b => [b]
noncomputable def gl (S : Sym) (φ : Nat → Int) : List Bd → Tm → Tm → Nat → List Tm
  | [], _, _, _ => []
  | [p], h, t, c => [G S φ p h t c]
  | p :: q :: r, h, t, c => G S φ p h (.v (φ c)) (c + 1) :: gl S φ (q :: r) (.v (φ c)) t (c + 1 + p.nv)
noncomputable def conjL : List Tm → Tm
  | [] => .a 16
  | [g] => g
  | g :: r => .s 1 [g, conjL r]
theorem conjL_snoc (z : Tm) : ∀ pre : List Tm, conjL (pre ++ [z]) = conjT pre z
  | [] => rfl
  | [g] => rfl
  | g :: h :: r => by
    have := conjL_snoc z (h :: r)
    rw [List.cons_append, List.cons_append, conjL, conjT, List.foldr_cons]
    · rw [← List.cons_append, this]; rfl
    · simp
theorem Bd.spine_ne (b : Bd) : ∃ p r, b.spine = p :: r := by
  cases b with
  | seq f l r => unfold Bd.spine; split <;> exact ⟨_, _, rfl⟩
  | _ => exact ⟨_, _, rfl⟩
theorem G_spine (S : Sym) (φ : Nat → Int) : ∀ (b : Bd) (x y : Tm) (c : Nat), conjL (gl S φ b.spine x y c) = G S φ b x y c
  | .seq f l r, x, y, c => by
    unfold Bd.spine
    by_cases hf : f = 1
    · subst hf
      rw [if_pos rfl]
      obtain ⟨p, q, e⟩ := r.spine_ne
      have ih := G_spine S φ r (.v (φ c)) y (c + 1 + l.nv)
      rw [e] at ih ⊢
      obtain ⟨g, rest, eg⟩ : ∃ g rest, gl S φ (p :: q) (.v (φ c)) y (c + 1 + l.nv) = g :: rest := by
        cases q with
        | nil => exact ⟨_, _, rfl⟩
        | cons => exact ⟨_, _, rfl⟩
      simp only [gl, G]
      rw [eg] at ih ⊢
      rw [conjL, ih]
      simp
    · rw [if_neg hf]; rfl
  | .lst _, _, _, _ => rfl | .nil, _, _, _ => rfl | .cut, _, _, _ => rfl | .curly _, _, _, _ => rfl | .atom _, _, _, _ => rfl | .cmp _ _ _, _, _, _ => rfl | .var _, _, _, _ => rfl
  | .neg _, _, _, _ => rfl | .alt _ _ _, _, _, _ => rfl
noncomputable def nvs : List Bd → Nat
  | [] => 0 | [p] => p.nv | p :: q :: r => 1 + p.nv + nvs (q :: r)
theorem nv_spine : ∀ b : Bd, nvs b.spine = b.nv
  | .seq f l r => by
    unfold Bd.spine
    by_cases hf : f = 1
    · rw [if_pos hf]
      obtain ⟨p, q, e⟩ := r.spine_ne
      have ih := nv_spine r
      rw [e] at ih ⊢
      simp only [nvs, Bd.nv]; (first | lia | omega)
    · rw [if_neg hf]; rfl
  | .lst _ => rfl | .nil => rfl | .cut => rfl | .curly _ => rfl | .atom _ => rfl | .cmp _ _ _ => rfl | .var _ => rfl | .neg _ => rfl | .alt _ _ _ => rfl

noncomputable def fixedF : List (Int × Int) := [(1, 2), (7, 2), (9, 2), (10, 2), (11, 1), (12, 2), (12, 1), (13, 1), (14, 2), (2, 1), (20, 2), (21, 2), (3, 1), (3, 2), (4, 2), (6, 2), (22, 2), (26, 1), (27, 3), (28, 1), (15, 0), (16, 0), (17, 0), (18, 0), (19, 1), (19, 2), (19, 3), (19, 4), (19, 5), (19, 6), (19, 7), (19, 8)]
noncomputable def S0 : Sym := ⟨fixedT, fixedF⟩
theorem bar_ge {S : Sym} (h : S0.le S) {i : Nat} (e : S.funs[i]? = some (8, 2)) : 32 ≤ i := by
  rcases Nat.lt_or_ge i 32 with hi | hi
  · obtain ⟨_, ⟨l, e'⟩⟩ := h
    rw [e', List.getElem?_append_left (by exact hi)] at e
    have : ((8 : Int), (2 : Int)) ∈ S0.funs := List.mem_of_getElem? e
    exact absurd this (by decide +kernel)
  · exact hi

noncomputable def nxs (u : List Int) (lo : Int) : Nat → Int
  | 0 => lo
  | c + 1 => free u (nxs u lo c) + 1
noncomputable def φt (u : List Int) (lo : Int) (c : Nat) : Int := free u (nxs u lo c)

noncomputable def MM (k kf : Nat) (j : Nat) : Prop := symM k j ∨ j = kf
noncomputable def TrS (P : Pg) (fa : Nat) (b : Bd) (m : Nat) : Prop := ∀ {σ : St} {k : Nat} {S : Sym} {kn kf ku : Nat} {u : List Int} {lo : Int} {c : Nat} {x y : Tm} {Q : EQ}, SymAt σ k S → Sok S → S0.le S → b.ok S → GVAt σ kn kf ku u (nxs u lo c) → k + 4 < kn → k + 4 < kf → k + 4 < ku →
  (∀ S' σ', S.le S' → b.has S' → SymAt σ' k S' → Sok S' → GVAt σ' kn kf ku u (nxs u lo (c + b.nv)) → Fr (MM k kf) σ σ' → Q (G S' (φt u lo) b x y c).pv σ') → wpCall P m fa [.obj k, b.tm.pv, x.pv, y.pv, .obj kn] σ Q

section
variable {P : Pg} {σ σ' : St} {k m : Nat} {S : Sym} {Q : EQ} {kn kf ku : Nat} {u : List Int} {n : Int}
theorem gv_sym (h : GVAt σ kn kf ku u n) (F : Fr (symM k) σ σ') (h1 : k + 4 < kn) (h2 : k + 4 < kf) (h3 : k + 4 < ku) : GVAt σ' kn kf ku u n :=
  h.frame F (by unfold symM; (first | lia | omega)) (by unfold symM; (first | lia | omega)) (by unfold symM; (first | lia | omega))
theorem gv_no (h : GVAt σ kn kf ku u n) (F : Fr (fun _ => False) σ σ') : GVAt σ' kn kf ku u n := h.frame F id id id
theorem sym_kf (h : SymAt σ k S) (F : Fr (fun j => j = kf) σ σ') (h2 : k + 4 < kf) : SymAt σ' k S := h.frame F fun j _ _ => by (first | lia | omega)
theorem sym_no (h : SymAt σ k S) (F : Fr (fun _ => False) σ σ') : SymAt σ' k S := h.frame F fun _ _ _ => id
theorem fr_sym (F : Fr (symM k) σ σ') : Fr (MM k kf) σ σ' := F.mono fun _ => .inl
theorem fr_kf (F : Fr (fun j => j = kf) σ σ') : Fr (MM k kf) σ σ' := F.mono fun _ => .inr
theorem fr_no {M : Nat → Prop} (F : Fr (fun _ => False) σ σ') : Fr M σ σ' := F.mono fun _ h => h.elim

theorem part_var (T : TabP P) (n : Int) : TrS P 371 (.var n) (m + 3) := by
  intro σ k S kn kf ku u lo c x y Q hS ok h0 hb hg h1 h2 h3 q
  have hbig2 : (2 : Nat) ≤ big := by decide
  have hbig3 : (3 : Nat) ≤ big := by decide
  have ei := hS.i
  refine enter T.f371 rfl ?_
  unfold b_371
  simp only [Bd.tm, Tm.pv]
  refine r_seq (r_assign (r_callP rfl ?_))
  refine struct_S T ?_
  (refine a_asg (t_var (a_nx (r_seqN (r_seq (r_site (r_te (r_primP rfl (p_eq rfl (r_truB ?_))))))))); refine a_siteT rfl (r_seq (r_ret (r_call (r_econs (r_meth (r_var rfl ?_)))))); refine' r_methK ?wa ?wb ?wc ?_; (case wa => assumption); (case wb => exact TabP.m11 (by assumption)); (case wc => rfl); refine r_pures rfl (a_meth ?_))
  refine funcS T hS ok (by decide +kernel) (by (first | lia | omega)) fun a i σ₁ e1 e2 s1 o1 F1 => ?_
  refine a_cons1 (r_pures rfl (a_cons2 (a_call ?_)))
  refine struct_S T ?_
  refine a_ret (r_seqR (r_seqR (r_retR ?_)))
  have ha := Sym.tn_eq (S := (S.addA "phrase").addF a 3) o1 (le_text (Sym.le_addF _ _ _) e1)
  have hi := Sym.fn_eq o1 e2
  have := q _ σ₁ ((S.le_addA _).trans (Sym.le_addF _ a 3)) ⟨List.mem_of_getElem? (le_text (Sym.le_addF _ _ _) e1), by rw [ha]; exact List.mem_of_getElem? e2⟩ s1 o1 (gv_sym hg F1 h1 h2 h3) (fr_sym F1)
  simp only [G] at this
  rw [ha, hi] at this
  exact this
theorem part_nil (T : TabP P) : TrS P 371 .nil (m + 3) := by
  intro σ k S kn kf ku u lo c x y Q hS ok h0 hb hg h1 h2 h3 q
  have hbig2 : (2 : Nat) ≤ big := by decide
  refine enter T.f371 rfl ?_
  unfold b_371
  simp only [Bd.tm, Tm.pv]
  refine r_seq (r_assign (r_callP rfl ?_))
  refine struct_S T ?_
  (refine a_asg (t_var (a_nx (r_seqN (r_seq (r_site (r_te (r_primP rfl (p_eq rfl (r_truB ?_))))))))); refine a_siteF ?wa ?_; (case wa => decide); refine r_skip (r_seqN (r_seq (r_site (r_te (r_primP rfl (p_eq rfl (r_truB ?_))))))); refine a_siteF ?wa ?_; (case wa => decide); refine r_skip (r_seqN (r_seq (r_site (r_te (r_primP rfl (p_eq rfl (r_truB (a_siteT rfl (r_seq ?_))))))))); refine r_site (r_te (r_primP rfl (p_eq rfl (r_truB (a_siteT rfl (r_seq (r_ret (r_var rfl (a_ret ?_))))))))); refine r_seqR (r_seqR (r_seqR (r_retR ?_))))
  exact q S σ S.le_refl trivial hS ok hg Fr.refl
theorem part_cut (T : TabP P) : TrS P 371 .cut (m + 3) := by
  intro σ k S kn kf ku u lo c x y Q hS ok h0 hb hg h1 h2 h3 q
  have hbig2 : (2 : Nat) ≤ big := by decide
  refine enter T.f371 rfl ?_
  unfold b_371
  simp only [Bd.tm, Tm.pv]
  refine r_seq (r_assign (r_callP rfl ?_))
  refine struct_S T ?_
  (refine a_asg (t_var (a_nx (r_seqN (r_seq (r_site (r_te (r_primP rfl (p_eq rfl (r_truB ?_))))))))); refine a_siteF ?wa ?_; (case wa => decide); refine r_skip (r_seqN (r_seq (r_site (r_te (r_primP rfl (p_eq rfl (r_truB ?_))))))); refine a_siteF ?wa ?_; (case wa => decide); refine r_skip (r_seqN (r_seq (r_site (r_te (r_primP rfl (p_eq rfl (r_truB (a_siteT rfl (r_seq ?_))))))))); refine r_site (r_te (r_primP rfl (p_eq rfl (r_truB ?_)))); refine a_siteF ?wa ?_; (case wa => decide); refine r_skip (r_seqN (r_seq (r_site (r_te (r_primP rfl (p_eq rfl (r_truB (a_siteT rfl (r_seq ?_))))))))); refine r_ret (r_call (r_econs (r_list (r_pures rfl ?_)))); refine a_list ?wa ?_; (case wa => assumption); refine a_cons1 (r_pures rfl (a_cons2 (a_call ?_))))
  refine conjunction_S T (pre := [.a 15]) (z := .s 10 [x, y]) (by decide) get_new ?_
  refine a_ret (r_seqR (r_seqR (r_seqR (r_retR ?_))))
  exact q S _ S.le_refl trivial (sym_no hS (Fr.new _)) ok (gv_no hg (Fr.new _)) (Fr.new _)
theorem part_atom (T : TabP P) (n : Nat) : TrS P 371 (.atom n) (m + 4) := by
  intro σ k S kn kf ku u lo c x y Q hS ok h0 hb hg h1 h2 h3 q
  have hbig2 : (2 : Nat) ≤ big := by decide
  obtain ⟨n0, n15, n40⟩ := hb
  have n0' : ¬ (n : Int) = 0 := by (first | lia | omega)
  have n15' : ¬ (n : Int) = 15 := by (first | lia | omega)
  refine enter T.f371 rfl ?_
  unfold b_371
  simp only [Bd.tm, Tm.pv]
  refine r_seq (r_assign (r_callP rfl ?_))
  refine struct_S T ?_
  (refine a_asg (t_var (a_nx (r_seqN (r_seq (r_site (r_te (r_primP rfl (p_eq rfl (r_truB ?_))))))))); refine a_siteF ?wa ?_; (case wa => decide); refine r_skip (r_seqN (r_seq (r_site (r_te (r_primP rfl (p_eq rfl (r_truB ?_))))))); refine a_siteF ?wa ?_; (case wa => decide); refine r_skip (r_seqN (r_seq (r_site (r_te (r_primP rfl (p_eq rfl (r_truB (a_siteT rfl (r_seq ?_))))))))); refine r_site (r_te (r_primP rfl (p_eq rfl (r_truB ?_)))); refine a_siteF ?wa ?_; (case wa => (simp only [decide_eq_true_eq, decide_eq_false_iff_not, Bool.not_eq_true, Bool.not_eq_true', Bool.not_eq_false, Bool.not_eq_false', decide_not, Bool.not_not, Bool.and_false, Bool.false_and, Bool.or_false, Bool.false_or, Bool.true_and, Bool.and_true, Bool.false_eq_true, Bool.and_eq_true, Bool.or_eq_true, not_true_eq_false, not_false_eq_true]; assumption)); refine r_skip (r_seqN (r_seq (r_site (r_te (r_primP rfl (p_eq rfl (r_truB ?_))))))); refine a_siteF ?wa ?_; (case wa => (simp only [decide_eq_true_eq, decide_eq_false_iff_not, Bool.not_eq_true, Bool.not_eq_true', Bool.not_eq_false, Bool.not_eq_false', decide_not, Bool.not_not, Bool.and_false, Bool.false_and, Bool.or_false, Bool.false_or, Bool.true_and, Bool.and_true, Bool.false_eq_true, Bool.and_eq_true, Bool.or_eq_true, not_true_eq_false, not_false_eq_true]; assumption)); refine r_skip (r_seqN (r_seq (r_ret (r_callP rfl ?_)))))
  refine nonterminal_a (m := m) T hS ok n40 fun S' i σ₁ l e s1 o1 F1 => ?_
  refine a_ret (r_seqR (r_seqR (r_retR ?_)))
  have := q S' σ₁ l (List.mem_of_getElem? e) s1 o1 (gv_sym hg F1 h1 h2 h3) (fr_sym F1)
  simp only [G] at this
  rw [Sym.fn_eq o1 e] at this
  exact this
theorem part_curly (T : TabP P) (g : Tm) : TrS P 371 (.curly g) (m + 4) := by
  intro σ k S kn kf ku u lo c x y Q hS ok h0 hb hg h1 h2 h3 q
  have hbig2 : (2 : Nat) ≤ big := by decide
  have ei := hS.i
  refine enter T.f371 rfl ?_
  unfold b_371
  simp only [Bd.tm, Tm.pv, Tm.pvs]
  refine r_seq (r_assign (r_callP rfl ?_))
  refine struct_S T ?_
  (refine a_asg (t_var (a_nx (r_seqN (r_seq (r_site (r_te (r_primP rfl (p_eq rfl (r_truB ?_))))))))); refine a_siteF ?wa ?_; (case wa => decide); refine r_skip (r_seqN (r_seq (r_site (r_te (r_primP rfl (p_eq rfl (r_truB ?_))))))); refine a_siteF ?wa ?_; (case wa => decide); refine r_skip (r_seqN (r_seq (r_site (r_te (r_primP rfl (p_eq rfl (r_truB ?_))))))); refine a_siteF ?wa ?_; (case wa => decide); refine r_skip (r_seqN (r_seq (r_assign (r_pure rfl (a_asg (t_var (a_nx (r_seqN (r_seq ?_))))))))); refine r_assign (r_meth (r_var rfl ?_)); refine' r_methK ?wa ?wb ?wc ?_; (case wa => assumption); (case wb => exact TabP.m10 (by assumption)); (case wc => rfl); refine r_pures rfl (a_meth ?_))
  refine functorS T hS ok (by (first | lia | omega)) fun i σ₁ e1 s1 o1 F1 => ?_
  have hge := bar_ge (h0.trans (S.le_addF 8 2)) e1
  have hi : ¬ ((9 : Int) = (i : Int)) := by (first | lia | omega)
  (refine a_asg (t_var (a_nx (r_seqN (r_seq (r_site (r_te (r_primP rfl (p_eq rfl (r_truB ?_))))))))); refine a_siteF ?wa ?_; (case wa => decide); refine r_skip (r_seqN (r_seq (r_site (r_te (r_primP rfl (p_eq rfl (r_truB ?_))))))); refine a_siteF ?wa ?_; (case wa => decide); refine r_skip (r_seqN (r_seq (r_site (r_tor (r_te (r_primP rfl (p_eq rfl (r_truB ?_)))))))); refine a_orF ?wa ?_; (case wa => decide); refine r_te (r_primP rfl (p_eq rfl (r_truB ?_))); refine a_siteF ?wa ?_; (case wa => (simp only [decide_eq_true_eq, decide_eq_false_iff_not, Bool.not_eq_true, Bool.not_eq_true', Bool.not_eq_false, Bool.not_eq_false', decide_not, Bool.not_not, Bool.and_false, Bool.false_and, Bool.or_false, Bool.false_or, Bool.true_and, Bool.and_true, Bool.false_eq_true, Bool.and_eq_true, Bool.or_eq_true, not_true_eq_false, not_false_eq_true]; assumption)); refine r_skip (r_seqN (r_seq (r_site (r_te (r_primP rfl (p_eq rfl (r_truB ?_))))))); refine a_siteF ?wa ?_; (case wa => decide); refine r_skip (r_seqN (r_seq (r_site (r_te (r_primP rfl (p_eq rfl (r_truB ?_))))))); refine a_siteF ?wa ?_; (case wa => decide); refine r_skip (r_seqN (r_seq (r_site (r_te (r_primP rfl (p_eq rfl (r_truB (a_siteT rfl (r_seq ?_))))))))); refine r_ret (r_call (r_econs (r_list (r_pures rfl ?_)))); refine a_list ?wa ?_; (case wa => assumption); refine a_cons1 (r_pures rfl (a_cons2 (a_call ?_))))
  refine conjunction_S T (pre := [g]) (z := .s 10 [x, y]) (by simp) get_new ?_
  refine a_ret (r_seqR (r_seqR (r_retR ?_)))
  exact q _ _ (S.le_addF 8 2) trivial (sym_no s1 (Fr.new _)) o1 (gv_no (gv_sym hg F1 h1 h2 h3) (Fr.new _)) ((fr_sym F1).trans (Fr.new _))
theorem part_lst (T : TabP P) (items : List Tm) : TrS P 371 (.lst items) (m + 4) := by
  intro σ k S kn kf ku u lo c x y Q hS ok h0 hb hg h1 h2 h3 q
  have hbig2 : (2 : Nat) ≤ big := by decide
  have ei := hS.i
  obtain ⟨hn, t, r, rfl⟩ := hb
  refine enter T.f371 rfl ?_
  unfold b_371
  have e : (Bd.lst (t :: r)).tm.pv = .tup [.str "s", .int 0, .tup [t.pv, (listT r (.a 0)).pv]] := rfl
  rw [e]
  refine r_seq (r_assign (r_callP rfl ?_))
  refine struct_S T ?_
  (refine a_asg (t_var (a_nx (r_seqN (r_seq (r_site (r_te (r_primP rfl (p_eq rfl (r_truB ?_))))))))); refine a_siteF ?wa ?_; (case wa => decide); refine r_skip (r_seqN (r_seq (r_site (r_te (r_primP rfl (p_eq rfl (r_truB ?_))))))); refine a_siteF ?wa ?_; (case wa => decide); refine r_skip (r_seqN (r_seq (r_site (r_te (r_primP rfl (p_eq rfl (r_truB ?_))))))); refine a_siteF ?wa ?_; (case wa => decide); refine r_skip (r_seqN (r_seq (r_assign (r_pure rfl (a_asg (t_var (a_nx (r_seqN (r_seq ?_))))))))); refine r_assign (r_meth (r_var rfl ?_)); refine' r_methK ?wa ?wb ?wc ?_; (case wa => assumption); (case wb => exact TabP.m10 (by assumption)); (case wc => rfl); refine r_pures rfl (a_meth ?_))
  refine functorS T hS ok (by (first | lia | omega)) fun i σ₁ e1 s1 o1 F1 => ?_
  (refine a_asg (t_var (a_nx (r_seqN (r_seq (r_site (r_te (r_primP rfl (p_eq rfl (r_truB ?_))))))))); refine a_siteT rfl (r_seq (r_ret (r_callP rfl ?_))))
  refine terminals_S T (items := t :: r) hn fun σ₂ F2 => ?_
  refine a_ret (r_seqR (r_seqR (r_retR ?_)))
  exact q _ σ₂ (S.le_addF 8 2) trivial (sym_no s1 F2) o1 (gv_no (gv_sym hg F1 h1 h2 h3) F2) ((fr_sym F1).trans (fr_no F2))
theorem part_cmp (T : TabP P) (f a : Nat) (args : List Tm) : TrS P 371 (.cmp f a args) (m + 4) := by
  intro σ k S kn kf ku u lo c x y Q hS ok h0 hb hg h1 h2 h3 q
  have hbig2 : (2 : Nat) ≤ big := by decide
  have ei := hS.i
  obtain ⟨hf, hl, hge, ha⟩ := hb
  have f0 : ¬ (f : Int) = 0 := by (first | lia | omega)
  have f1 : ¬ (f : Int) = 1 := by (first | lia | omega)
  have f2 : ¬ (f : Int) = 2 := by (first | lia | omega)
  have f3 : ¬ (f : Int) = 3 := by (first | lia | omega)
  have f4 : ¬ (f : Int) = 4 := by (first | lia | omega)
  have f9 : ¬ (f : Int) = 9 := by (first | lia | omega)
  refine enter T.f371 rfl ?_
  unfold b_371
  simp only [Bd.tm, Tm.pv]
  refine r_seq (r_assign (r_callP rfl ?_))
  refine struct_S T ?_
  (refine a_asg (t_var (a_nx (r_seqN (r_seq (r_site (r_te (r_primP rfl (p_eq rfl (r_truB ?_))))))))); refine a_siteF ?wa ?_; (case wa => decide); refine r_skip (r_seqN (r_seq (r_site (r_te (r_primP rfl (p_eq rfl (r_truB ?_))))))); refine a_siteF ?wa ?_; (case wa => decide); refine r_skip (r_seqN (r_seq (r_site (r_te (r_primP rfl (p_eq rfl (r_truB ?_))))))); refine a_siteF ?wa ?_; (case wa => decide); refine r_skip (r_seqN (r_seq (r_assign (r_pure rfl (a_asg (t_var (a_nx (r_seqN (r_seq ?_))))))))); refine r_assign (r_meth (r_var rfl ?_)); refine' r_methK ?wa ?wb ?wc ?_; (case wa => assumption); (case wb => exact TabP.m10 (by assumption)); (case wc => rfl); refine r_pures rfl (a_meth ?_))
  refine functorS T hS ok (by (first | lia | omega)) fun i σ₁ e1 s1 o1 F1 => ?_
  have hf' := le_fun (S.le_addF 8 2) hf
  have fi : ¬ ((f : Int) = (i : Int)) := by
    intro q
    have : f = i := by (first | lia | omega)
    subst this
    rw [hf'] at e1
    injection e1 with e1; injection e1 with e1 _
    exact ha (by (first | lia | omega))
  (refine a_asg (t_var (a_nx (r_seqN (r_seq (r_site (r_te (r_primP rfl (p_eq rfl (r_truB ?_))))))))); refine a_siteF ?wa ?_; (case wa => (simp only [decide_eq_true_eq, decide_eq_false_iff_not, Bool.not_eq_true, Bool.not_eq_true', Bool.not_eq_false, Bool.not_eq_false', decide_not, Bool.not_not, Bool.and_false, Bool.false_and, Bool.or_false, Bool.false_or, Bool.true_and, Bool.and_true, Bool.false_eq_true, Bool.and_eq_true, Bool.or_eq_true, not_true_eq_false, not_false_eq_true]; assumption)); refine r_skip (r_seqN (r_seq (r_site (r_te (r_primP rfl (p_eq rfl (r_truB ?_))))))); refine a_siteF ?wa ?_; (case wa => (simp only [decide_eq_true_eq, decide_eq_false_iff_not, Bool.not_eq_true, Bool.not_eq_true', Bool.not_eq_false, Bool.not_eq_false', decide_not, Bool.not_not, Bool.and_false, Bool.false_and, Bool.or_false, Bool.false_or, Bool.true_and, Bool.and_true, Bool.false_eq_true, Bool.and_eq_true, Bool.or_eq_true, not_true_eq_false, not_false_eq_true]; assumption)); refine r_skip (r_seqN (r_seq (r_site (r_tor (r_te (r_primP rfl (p_eq rfl (r_truB ?_)))))))); refine a_orF ?wa ?_; (case wa => (simp only [decide_eq_true_eq, decide_eq_false_iff_not, Bool.not_eq_true, Bool.not_eq_true', Bool.not_eq_false, Bool.not_eq_false', decide_not, Bool.not_not, Bool.and_false, Bool.false_and, Bool.or_false, Bool.false_or, Bool.true_and, Bool.and_true, Bool.false_eq_true, Bool.and_eq_true, Bool.or_eq_true, not_true_eq_false, not_false_eq_true]; assumption)); refine r_te (r_primP rfl (p_eq rfl (r_truB ?_))); refine a_siteF ?wa ?_; (case wa => (simp only [decide_eq_true_eq, decide_eq_false_iff_not, Bool.not_eq_true, Bool.not_eq_true', Bool.not_eq_false, Bool.not_eq_false', decide_not, Bool.not_not, Bool.and_false, Bool.false_and, Bool.or_false, Bool.false_or, Bool.true_and, Bool.and_true, Bool.false_eq_true, Bool.and_eq_true, Bool.or_eq_true, not_true_eq_false, not_false_eq_true]; assumption)); refine r_skip (r_seqN (r_seq (r_site (r_te (r_primP rfl (p_eq rfl (r_truB ?_))))))); refine a_siteF ?wa ?_; (case wa => (simp only [decide_eq_true_eq, decide_eq_false_iff_not, Bool.not_eq_true, Bool.not_eq_true', Bool.not_eq_false, Bool.not_eq_false', decide_not, Bool.not_not, Bool.and_false, Bool.false_and, Bool.or_false, Bool.false_or, Bool.true_and, Bool.and_true, Bool.false_eq_true, Bool.and_eq_true, Bool.or_eq_true, not_true_eq_false, not_false_eq_true]; assumption)); refine r_skip (r_seqN (r_seq (r_site (r_te (r_primP rfl (p_eq rfl (r_truB ?_))))))); refine a_siteF ?wa ?_; (case wa => (simp only [decide_eq_true_eq, decide_eq_false_iff_not, Bool.not_eq_true, Bool.not_eq_true', Bool.not_eq_false, Bool.not_eq_false', decide_not, Bool.not_not, Bool.and_false, Bool.false_and, Bool.or_false, Bool.false_or, Bool.true_and, Bool.and_true, Bool.false_eq_true, Bool.and_eq_true, Bool.or_eq_true, not_true_eq_false, not_false_eq_true]; assumption)); refine r_skip (r_seqN (r_seq (r_site (r_te (r_primP rfl (p_eq rfl (r_truB ?_))))))); refine a_siteF ?wa ?_; (case wa => (simp only [decide_eq_true_eq, decide_eq_false_iff_not, Bool.not_eq_true, Bool.not_eq_true', Bool.not_eq_false, Bool.not_eq_false', decide_not, Bool.not_not, Bool.and_false, Bool.false_and, Bool.or_false, Bool.false_or, Bool.true_and, Bool.and_true, Bool.false_eq_true, Bool.and_eq_true, Bool.or_eq_true, not_true_eq_false, not_false_eq_true]; assumption)); refine r_skip (r_seqN (r_seq (r_ret (r_callP rfl ?_)))))
  refine nonterminal_s (m := m) T s1 o1 hf' hl fun S' j σ₂ l e s2 o2 F2 => ?_
  refine a_ret (r_seqR (r_retR ?_))
  have := q S' σ₂ ((S.le_addF 8 2).trans l) (List.mem_of_getElem? e) s2 o2 (gv_sym (gv_sym hg F1 h1 h2 h3) F2 h1 h2 h3) ((fr_sym F1).trans (fr_sym F2))
  simp only [G] at this
  rw [Sym.fn_eq o2 e] at this
  exact this
end
section
variable {P : Pg} {σ σ' : St} {k m : Nat} {S : Sym} {Q : EQ} {kn kf ku : Nat} {u : List Int} {n : Int}

theorem part_neg (T : TabP P) (b : Bd) (IH : TrS P 357 b (m + 3)) : TrS P 371 (.neg b) (m + 4) := by
  intro σ k S kn kf ku u lo c x y Q hS ok h0 hb hg h1 h2 h3 q
  have hbig1 : (1 : Nat) ≤ big := by decide
  have hbig2 : (2 : Nat) ≤ big := by decide
  have ei := hS.i
  refine enter T.f371 rfl ?_
  unfold b_371
  simp only [Bd.tm, Tm.pv, Tm.pvs]
  refine r_seq (r_assign (r_callP rfl ?_))
  refine struct_S T ?_
  (refine a_asg (t_var (a_nx (r_seqN (r_seq (r_site (r_te (r_primP rfl (p_eq rfl (r_truB ?_))))))))); refine a_siteF ?wa ?_; (case wa => decide); refine r_skip (r_seqN (r_seq (r_site (r_te (r_primP rfl (p_eq rfl (r_truB ?_))))))); refine a_siteF ?wa ?_; (case wa => decide); refine r_skip (r_seqN (r_seq (r_site (r_te (r_primP rfl (p_eq rfl (r_truB ?_))))))); refine a_siteF ?wa ?_; (case wa => decide); refine r_skip (r_seqN (r_seq (r_assign (r_pure rfl (a_asg (t_var (a_nx (r_seqN (r_seq ?_))))))))); refine r_assign (r_meth (r_var rfl ?_)); refine' r_methK ?wa ?wb ?wc ?_; (case wa => assumption); (case wb => exact TabP.m10 (by assumption)); (case wc => rfl); refine r_pures rfl (a_meth ?_))
  refine functorS T hS ok (by (first | lia | omega)) fun i σ₁ e1 s1 o1 F1 => ?_
  have hge := bar_ge (h0.trans (S.le_addF 8 2)) e1
  have hi : ¬ ((4 : Int) = (i : Int)) := by (first | lia | omega)
  have g1 := gv_sym hg F1 h1 h2 h3
  have gi := g1.i
  (refine a_asg (t_var (a_nx (r_seqN (r_seq (r_site (r_te (r_primP rfl (p_eq rfl (r_truB ?_))))))))); refine a_siteF ?wa ?_; (case wa => decide); refine r_skip (r_seqN (r_seq (r_site (r_te (r_primP rfl (p_eq rfl (r_truB ?_))))))); refine a_siteF ?wa ?_; (case wa => decide); refine r_skip (r_seqN (r_seq (r_site (r_tor (r_te (r_primP rfl (p_eq rfl (r_truB ?_)))))))); refine a_orF ?wa ?_; (case wa => decide); refine r_te (r_primP rfl (p_eq rfl (r_truB ?_))); refine a_siteF ?wa ?_; (case wa => (simp only [decide_eq_true_eq, decide_eq_false_iff_not, Bool.not_eq_true, Bool.not_eq_true', Bool.not_eq_false, Bool.not_eq_false', decide_not, Bool.not_not, Bool.and_false, Bool.false_and, Bool.or_false, Bool.false_or, Bool.true_and, Bool.and_true, Bool.false_eq_true, Bool.and_eq_true, Bool.or_eq_true, not_true_eq_false, not_false_eq_true]; assumption)); refine r_skip (r_seqN (r_seq (r_site (r_te (r_primP rfl (p_eq rfl (r_truB ?_))))))); refine a_siteF ?wa ?_; (case wa => decide); refine r_skip (r_seqN (r_seq (r_site (r_te (r_primP rfl (p_eq rfl (r_truB (a_siteT rfl (r_seq ?_))))))))); refine r_assign (r_meth (r_var rfl ?_)); refine' r_methK ?wa ?wb ?wc ?_; (case wa => assumption); (case wb => exact TabP.m15 (by assumption)); (case wc => rfl); refine r_pures rfl (a_meth ?_))
  refine variable_S T g1 fun σ₂ g2 F2 => ?_
  have s2 := sym_kf s1 F2 h2
  (refine a_asg (t_var (a_nx (r_seqN (r_seq (r_ret (r_call (r_econs (r_list (r_econs ?_))))))))); refine r_call (r_econs (r_int (a_cons1 (r_econs (r_tup (r_econs (r_callP rfl ?_))))))))
  refine IH (y := .v (free u (nxs u lo c))) (c := c + 1) s2 o1 (h0.trans (S.le_addF 8 2)) (Bd.ok_le (b := b) (S.le_addF 8 2) hb) g2 h1 h2 h3 fun S' σ₃ l hh s3 o3 g3 F3 => ?_
  (refine a_cons1 (r_pures rfl (a_cons2 ?_)); refine a_tup ?wa ?_; (case wa => assumption); refine a_cons1 (r_pures rfl (a_cons2 (a_cons2 (a_call ?_)))))
  refine struct_S T ?_
  (refine a_cons1 (r_pures rfl (a_cons2 ?_)); refine a_list ?wa ?_; (case wa => assumption); refine a_cons1 (r_pures rfl (a_cons2 (a_call ?_))))
  refine conjunction_S T (pre := [.s 4 [G S' (φt u lo) b x (.v (free u (nxs u lo c))) (c + 1)]]) (z := .s 10 [x, y]) (by simp) get_new ?_
  refine a_ret (r_seqR (r_seqR (r_retR ?_)))
  have e : c + 1 + b.nv = c + (Bd.neg b).nv := by simp [Bd.nv]; (first | lia | omega)
  exact q S' _ ((S.le_addF 8 2).trans l) hh (sym_no s3 (Fr.new _)) o3 (e ▸ gv_no g3 (Fr.new _)) ((((fr_sym F1).trans (fr_kf F2)).trans F3).trans (Fr.new _))

theorem part_arrow (T : TabP P) (a b : Bd) (IA : TrS P 357 a (m + 3)) (IB : TrS P 357 b (m + 3)) : TrS P 371 (.seq 3 a b) (m + 4) := by
  intro σ k S kn kf ku u lo c x y Q hS ok h0 hb hg h1 h2 h3 q
  have hbig1 : (1 : Nat) ≤ big := by decide
  have hbig2 : (2 : Nat) ≤ big := by decide
  have ei := hS.i
  refine enter T.f371 rfl ?_
  unfold b_371
  simp only [Bd.tm, Tm.pv, Tm.pvs]
  refine r_seq (r_assign (r_callP rfl ?_))
  refine struct_S T ?_
  (refine a_asg (t_var (a_nx (r_seqN (r_seq (r_site (r_te (r_primP rfl (p_eq rfl (r_truB ?_))))))))); refine a_siteF ?wa ?_; (case wa => decide); refine r_skip (r_seqN (r_seq (r_site (r_te (r_primP rfl (p_eq rfl (r_truB ?_))))))); refine a_siteF ?wa ?_; (case wa => decide); refine r_skip (r_seqN (r_seq (r_site (r_te (r_primP rfl (p_eq rfl (r_truB ?_))))))); refine a_siteF ?wa ?_; (case wa => decide); refine r_skip (r_seqN (r_seq (r_assign (r_pure rfl (a_asg (t_var (a_nx (r_seqN (r_seq ?_))))))))); refine r_assign (r_meth (r_var rfl ?_)); refine' r_methK ?wa ?wb ?wc ?_; (case wa => assumption); (case wb => exact TabP.m10 (by assumption)); (case wc => rfl); refine r_pures rfl (a_meth ?_))
  refine functorS T hS ok (by (first | lia | omega)) fun i σ₁ e1 s1 o1 F1 => ?_
  have hge := bar_ge (h0.trans (S.le_addF 8 2)) e1
  have hi : ¬ ((3 : Int) = (i : Int)) := by (first | lia | omega)
  have g1 := gv_sym hg F1 h1 h2 h3
  have gi := g1.i
  (refine a_asg (t_var (a_nx (r_seqN (r_seq (r_site (r_te (r_primP rfl (p_eq rfl (r_truB ?_))))))))); refine a_siteF ?wa ?_; (case wa => decide); refine r_skip (r_seqN (r_seq (r_site (r_te (r_primP rfl (p_eq rfl (r_truB ?_))))))); refine a_siteF ?wa ?_; (case wa => decide); refine r_skip (r_seqN (r_seq (r_site (r_tor (r_te (r_primP rfl (p_eq rfl (r_truB ?_)))))))); refine a_orF ?wa ?_; (case wa => decide); refine r_te (r_primP rfl (p_eq rfl (r_truB ?_))); refine a_siteF ?wa ?_; (case wa => (simp only [decide_eq_true_eq, decide_eq_false_iff_not, Bool.not_eq_true, Bool.not_eq_true', Bool.not_eq_false, Bool.not_eq_false', decide_not, Bool.not_not, Bool.and_false, Bool.false_and, Bool.or_false, Bool.false_or, Bool.true_and, Bool.and_true, Bool.false_eq_true, Bool.and_eq_true, Bool.or_eq_true, not_true_eq_false, not_false_eq_true]; assumption)); refine r_skip (r_seqN (r_seq (r_site (r_te (r_primP rfl (p_eq rfl (r_truB (a_siteT rfl (r_seq ?_))))))))); refine r_assign (r_meth (r_var rfl ?_)); refine' r_methK ?wa ?wb ?wc ?_; (case wa => assumption); (case wb => exact TabP.m15 (by assumption)); (case wc => rfl); refine r_pures rfl (a_meth ?_))
  refine variable_S T g1 fun σ₂ g2 F2 => ?_
  have s2 := sym_kf s1 F2 h2
  refine a_asg (t_var (a_nx (r_seqN (r_seq (r_assign (r_callP rfl ?_))))))
  refine IA (y := .v (free u (nxs u lo c))) (c := c + 1) s2 o1 (h0.trans (S.le_addF 8 2)) (Bd.ok_le (b := a) (S.le_addF 8 2) hb.2.1) g2 h1 h2 h3 fun S' σ₃ l hh s3 o3 g3 F3 => ?_
  refine a_asg (t_var (a_nx (r_seqN (r_seq (r_assign (r_callP rfl ?_))))))
  have l' := (S.le_addF 8 2).trans l
  refine IB (x := .v (free u (nxs u lo c))) (c := c + 1 + a.nv) s3 o3 (h0.trans l') (Bd.ok_le (b := b) l' hb.2.2) g3 h1 h2 h3 fun S'' σ₄ l2 hh2 s4 o4 g4 F4 => ?_
  refine a_asg (t_var (a_nx (r_seqN (r_seq (r_ret (r_callP rfl ?_))))))
  refine struct_S T ?_
  refine a_ret (r_seqR (r_seqR (r_retR ?_)))
  have e : c + 1 + a.nv + b.nv = c + (Bd.seq 3 a b).nv := by simp [Bd.nv]; (first | lia | omega)
  have := q S'' σ₄ (l'.trans l2) ⟨Bd.has_le o3 o4 l2 hh, hh2⟩ s4 o4 (e ▸ g4) ((((fr_sym F1).trans (fr_kf F2)).trans F3).trans F4)
  simp only [G] at this
  rw [G_le o3 o4 l2 _ hh] at this
  exact this

theorem part_comma (T : TabP P) (a b : Bd) (IH : TrS P 357 (.seq 1 a b) (m + 3)) : TrS P 371 (.seq 1 a b) (m + 4) := by
  intro σ k S kn kf ku u lo c x y Q hS ok h0 hb hg h1 h2 h3 q
  have hbig2 : (2 : Nat) ≤ big := by decide
  have ei := hS.i
  refine enter T.f371 rfl ?_
  unfold b_371
  simp only [Bd.tm, Tm.pv, Tm.pvs]
  refine r_seq (r_assign (r_callP rfl ?_))
  refine struct_S T ?_
  (refine a_asg (t_var (a_nx (r_seqN (r_seq (r_site (r_te (r_primP rfl (p_eq rfl (r_truB ?_))))))))); refine a_siteF ?wa ?_; (case wa => decide); refine r_skip (r_seqN (r_seq (r_site (r_te (r_primP rfl (p_eq rfl (r_truB ?_))))))); refine a_siteF ?wa ?_; (case wa => decide); refine r_skip (r_seqN (r_seq (r_site (r_te (r_primP rfl (p_eq rfl (r_truB ?_))))))); refine a_siteF ?wa ?_; (case wa => decide); refine r_skip (r_seqN (r_seq (r_assign (r_pure rfl (a_asg (t_var (a_nx (r_seqN (r_seq ?_))))))))); refine r_assign (r_meth (r_var rfl ?_)); refine' r_methK ?wa ?wb ?wc ?_; (case wa => assumption); (case wb => exact TabP.m10 (by assumption)); (case wc => rfl); refine r_pures rfl (a_meth ?_))
  refine functorS T hS ok (by (first | lia | omega)) fun i σ₁ e1 s1 o1 F1 => ?_
  (refine a_asg (t_var (a_nx (r_seqN (r_seq (r_site (r_te (r_primP rfl (p_eq rfl (r_truB ?_))))))))); refine a_siteF ?wa ?_; (case wa => decide); refine r_skip (r_seqN (r_seq (r_site (r_te (r_primP rfl (p_eq rfl (r_truB (a_siteT rfl (r_seq ?_))))))))); refine r_ret (r_callP rfl ?_))
  have g1 := gv_sym hg F1 h1 h2 h3
  refine IH (σ := σ₁) (c := c) s1 o1 (h0.trans (S.le_addF 8 2)) (Bd.ok_le (b := .seq 1 a b) (S.le_addF 8 2) hb) g1 h1 h2 h3 fun S' σ₂ l hh s2 o2 g2 F2 => ?_
  refine a_ret (r_seqR (r_seqR (r_retR ?_)))
  exact q S' σ₂ ((S.le_addF 8 2).trans l) hh s2 o2 g2 ((fr_sym F1).trans F2)

theorem gl_len (S : Sym) (φ : Nat → Int) : ∀ (l : List Bd) (x y : Tm) (c : Nat), (gl S φ l x y c).length = l.length
  | [], _, _, _ => rfl
  | [_], _, _, _ => rfl
  | p :: q :: r, x, y, c => by simp [gl, gl_len S φ (q :: r)]
theorem tms_pvs (l : List Bd) : (l.map Bd.tm).map Tm.pv = Tm.pvs (l.map Bd.tm) := (Tm.pvs_eq _).symm

structure BodyI (S : Sym) (σ : St) (l1 k kn kf ku : Nat) (u : List Int) (lo : Int) (b : Bd) (x y : Tm) (c i : Nat) (lm : LM) (τ : St) (pre suf : List Bd) (gs : List Tm) (h' : Tm) (c' : Nat) (S' : Sym) : Prop where
  e : b.spine = pre ++ suf
  l : pre.length = i
  l0 : lm 0 = some (.obj k)
  l3 : lm 3 = some y.pv
  l4 : lm 4 = some (.obj kn)
  l5 : lm 5 = some (.obj σ.length)
  l6 : lm 6 = some (.obj l1)
  l7 : lm 7 = some h'.pv
  hle : S.le S'
  hh : ∀ p ∈ pre, p.has S'
  hS : SymAt τ k S'
  ok : Sok S'
  hg : GVAt τ kn kf ku u (nxs u lo c')
  F : Fr (MM k kf) σ τ
  hp : τ[σ.length]? = some (.list (Tm.pvs (b.spine.map Bd.tm)))
  hgs : τ[l1]? = some (.list (Tm.pvs gs))
  hgl : ∀ S'', S'.le S'' → Sok S'' → gl S'' (φt u lo) b.spine x y c = gs ++ gl S'' (φt u lo) suf h' y c'
  hn : gs.length = pre.length
  hnv : c' + nvs suf = c + b.nv
theorem body_S (T : TabP P) (b : Bd) (hs : ∀ S, b.ok S → S0.le S → IsSpine [1] b.tm (b.spine.map Bd.tm)) (hlen : b.spine.length ≤ 1000) (hok : ∀ S, b.ok S → ∀ p ∈ b.spine, p.ok S) (IH : ∀ p ∈ b.spine, TrS P 371 p (m + 2)) (hhas : ∀ S, (∀ p ∈ b.spine, p.has S) → b.has S) : TrS P 357 b (m + 3) := by
  intro σ k S kn kf ku u lo c x y Q hS ok h0 hb hg h1 h2 h3 q
  have hbig1 : (1 : Nat) ≤ big := by decide
  have ei := hS.i
  have gi := hg.i
  refine enter T.f357 rfl ?_
  unfold b_357
  refine r_seq (r_assign (r_callP rfl ?_))
  refine right_spine_S T (F := [1]) (hs S hb h0) (by simpa using hlen) fun σ₁ F1 hl => ?_
  (refine a_asg (t_var (a_nx (r_seqN (r_seq (r_assign (r_list (r_pures rfl ?_))))))); refine a_list ?wa ?_; (case wa => trivial); refine a_asg (t_var (a_nx (r_seqN (r_seq (r_assign (r_var rfl (a_asg (t_var (a_nx ?_))))))))); refine r_seqN (r_seq (r_for (i_range (r_econs (r_primP rfl ?_))))); refine' p_lenL ?wa ?_; (case wa => (refine get_app ?_; assumption)); refine a_cons1 (r_pures rfl (a_cons2 ?_)))
  have hR : rangeOf [.int ((Tm.pvs (b.spine.map Bd.tm)).length : Int)] (rangeL 0 (b.spine.length : Int) 1) := by
    have e : ((Tm.pvs (b.spine.map Bd.tm)).length : Int) = (b.spine.length : Int) := by rw [Tm.pvs_len, List.length_map]
    rw [e]
    exact .inl ⟨_, rfl, decide_eq_true (by (first | lia | omega)), rfl⟩
  (refine' i_rangeK ?wa ?_; (case wa => with_reducible assumption); refine a_for ?_)
  have F2 : Fr (fun _ => False) σ (σ₁ ++ [.list []]) := F1.trans (Fr.new _)
  refine for_rule (fun i lm τ => ∃ pre suf gs h' c' S', BodyI S σ σ₁.length k kn kf ku u lo b x y c i lm τ pre suf gs h' c' S')
    ⟨[], b.spine, [], x, c, S, rfl, rfl, rfl, rfl, rfl, rfl, rfl, rfl, S.le_refl, fun _ h => (nomatch h), sym_no hS F2, ok, gv_no hg F2, fr_no F2, get_app hl, get_new, fun _ _ _ => rfl, rfl, by rw [nv_spine]⟩ (fun _ _ _ _ => trivial) ?_ ?_
  · rintro i y' lm τ K hy ⟨pre, suf, gs, h', c', S', e, rfl, l0, l3, l4, l5, l6, l7, hle, hhas', hS', ok', hg', F', hp, hgs, hgl, hgl2, hnv⟩ hK
    have hi := (List.getElem?_eq_some_iff.mp hy).1
    rw [rangeL_len, up_size] at hi
    have hy' := rangeL_at hy
    subst hy'
    cases suf with
    | nil => rw [e] at hi; simp at hi
    | cons p rest =>
      have ei' := hS'.i
      have gi' := hg'.i
      have hpi : pyIdx (Tm.pvs (b.spine.map Bd.tm)) (0 + 1 * (pre.length : Int)) = some p.tm.pv := by
        rw [show (0 : Int) + 1 * (pre.length : Int) = ((pre.length : Nat) : Int) by (first | lia | omega)]
        refine pyIdx_nat ?_
        rw [Tm.pvs_eq, e]; simp
      have hlg : (Tm.pvs gs).length < big := by rw [Tm.pvs_len]; unfold big; (first | lia | omega)
      have hl2 : ((Tm.pvs (b.spine.map Bd.tm)).length : Int) = (pre.length : Int) + 1 + (rest.length : Int) := by rw [Tm.pvs_len, List.length_map, e]; simp; (first | lia | omega)
      have hmem : p ∈ b.spine := by rw [e]; simp
      have pok : p.ok S' := Bd.ok_le hle (hok S hb p hmem)
      have sz1 := (List.getElem?_eq_some_iff.mp hg.f).1
      have sz2 := (List.getElem?_eq_some_iff.mp hS.fd).1
      have sz3 := (List.getElem?_eq_some_iff.mp hg.i).1
      have sz4 := (List.getElem?_eq_some_iff.mp hg.u).1
      have sz5 := F1.len
      have sz6 := (List.getElem?_eq_some_iff.mp hl).1
      have nMg : ¬ MM k kf σ₁.length := fun hm => by unfold MM symM at hm; (first | lia | omega)
      have nMp : ¬ MM k kf σ.length := fun hm => by unfold MM symM at hm; (first | lia | omega)
      have fin : ∀ (S'' : Sym) (τ' : St) (g hn : Tm) (c2 : Nat) (lm' : LM), S'.le S'' → p.has S'' → SymAt τ' k S'' → Sok S'' → GVAt τ' kn kf ku u (nxs u lo c2) → Fr (MM k kf) τ τ' → lm' 0 = some (.obj k) → lm' 3 = some y.pv → lm' 4 = some (.obj kn) → lm' 5 = some (.obj σ.length) → lm' 6 = some (.obj σ₁.length) → lm' 7 = some hn.pv →
          (∀ S3, S''.le S3 → Sok S3 → gl S3 (φt u lo) (p :: rest) h' y c' = g :: gl S3 (φt u lo) rest hn y c2) → c2 + nvs rest = c' + nvs (p :: rest) → K lm' (τ'.set σ₁.length (.list (Tm.pvs gs ++ [g.pv]))) := by
        intro S'' τ' g hn c2 lm' l hh s1 o1 g1 F3 k0 k3 k4 k5 k6 k7 hG hN
        have F4 : Fr (fun j => j = σ₁.length) τ' (τ'.set σ₁.length (.list (Tm.pvs gs ++ [g.pv]))) := Fr.set rfl
        refine hK _ _ ⟨pre ++ [p], rest, gs ++ [g], hn, c2, S'', by rw [e]; simp, by simp, k0, k3, k4, k5, k6, k7, hle.trans l, fun z hz => ?_, s1.frame F4 (fun j _ _ => by (first | lia | omega)), o1, g1.frame F4 (by (first | lia | omega)) (by (first | lia | omega)) (by (first | lia | omega)), ?_, ?_, ?_, fun S3 l3 o3 => ?_, by simp [hgl2], by (first | lia | omega)⟩
        · rcases List.mem_append.mp hz with hz | hz
          · exact Bd.has_le ok' o1 l (hhas' z hz)
          · rw [List.mem_singleton.mp hz]; exact hh
        · exact (F'.trans F3).setNew sz5
        · exact F4.at' _ _ (F3.at' _ _ hp nMp) (by (first | lia | omega))
        · rw [Tm.pvs_app]; exact get_set_eq (F3.at' _ _ hgs nMg)
        · rw [hgl S3 (l.trans l3) o3, hG S3 l3 o3]; simp
      cases rest with
      | nil =>
        have hcond : ¬ ((0 : Int) + 1 * (pre.length : Int) + 1 < ((Tm.pvs (b.spine.map Bd.tm)).length : Int)) := by rw [hl2]; simp
        (refine r_seq (r_assign ?_); refine' r_var ?wa ?_; (case wa => assumption); refine a_asg (t_var (a_nx (r_seqN (r_seq (r_site (r_te (r_prim2 (r_primP rfl (p_addI ?_))))))))); refine a_p2 (r_prim1 ?_); refine' r_var ?wa ?_; (case wa => assumption); refine a_p1 ?_; refine' p_lenL ?wa ?_; (case wa => assumption); refine a_p2b (p_lt (r_truB ?_)); refine a_siteF ?wa ?_; (case wa => (simp only [decide_eq_true_eq, decide_eq_false_iff_not, Bool.not_eq_true, Bool.not_eq_true', Bool.not_eq_false, Bool.not_eq_false', decide_not, Bool.not_not, Bool.and_false, Bool.false_and, Bool.or_false, Bool.false_or, Bool.true_and, Bool.and_true, Bool.false_eq_true, Bool.and_eq_true, Bool.or_eq_true, not_true_eq_false, not_false_eq_true]; assumption)); refine r_skip (r_seqN (r_seq (r_expr (r_bm ?_)))); refine' r_var ?wa ?_; (case wa => assumption); refine a_bm ?wa ?_; (case wa => (refine' bmOk_list ?wz (by intro e; cases e); (case wz => assumption))); refine r_econs (r_call (r_econs ?_)); refine' r_var ?wa ?_; (case wa => assumption); refine a_cons1 (r_econs (r_prim2 ?_)); refine' r_var ?wa ?_; (case wa => assumption); refine a_p2 (r_var rfl (a_p2b ?_)); refine' p_idxL ?wa ?wb ?_; (case wa => assumption); (case wb => with_reducible assumption); refine a_cons1 (r_econs ?_); refine' r_var ?wa ?_; (case wa => assumption); refine a_cons1 (r_econs (r_var rfl (a_cons1 (r_econs ?_)))); refine' r_var ?wa ?_; (case wa => assumption); refine a_cons1 (r_pures rfl (a_cons2 (a_cons2 (a_cons2 (a_cons2 (a_cons2 (a_call ?_))))))))
        refine IH p hmem hS' ok' (h0.trans hle) pok hg' h1 h2 h3 fun S'' τ' l hh s1 o1 g1 F1' => ?_
        have hgs' := F1'.at' _ _ hgs nMg
        (refine a_cons1 (r_pures rfl (a_cons2 (a_bm2 ?_))); refine' b_append ?wa ?wb ?_; (case wa => assumption); (case wb => assumption); refine a_exp (r_seqN (r_seq (r_assign (r_var rfl (a_asg (t_var (a_nx (r_seqN (r_skip ?_))))))))); refine r_forN ?_)
        exact fin S'' τ' _ y (c' + p.nv) _ l hh s1 o1 g1 F1' l0 l3 l4 l5 l6 rfl (fun S3 l3 o3 => by simp only [gl]; rw [G_le o1 o3 l3 _ hh]) (by simp [nvs])
      | cons p2 rest =>
        have hcond : (0 : Int) + 1 * (pre.length : Int) + 1 < ((Tm.pvs (b.spine.map Bd.tm)).length : Int) := by rw [hl2]; simp; (first | lia | omega)
        (refine r_seq (r_assign ?_); refine' r_var ?wa ?_; (case wa => assumption); refine a_asg (t_var (a_nx (r_seqN (r_seq (r_site (r_te (r_prim2 (r_primP rfl (p_addI ?_))))))))); refine a_p2 (r_prim1 ?_); refine' r_var ?wa ?_; (case wa => assumption); refine a_p1 ?_; refine' p_lenL ?wa ?_; (case wa => assumption); refine a_p2b (p_lt (r_truB ?_)); refine a_siteT ?wa ?_; (case wa => (simp only [decide_eq_true_eq, decide_eq_false_iff_not, Bool.not_eq_true, Bool.not_eq_true', Bool.not_eq_false, Bool.not_eq_false', decide_not, Bool.not_not, Bool.and_false, Bool.false_and, Bool.or_false, Bool.false_or, Bool.true_and, Bool.and_true, Bool.false_eq_true, Bool.and_eq_true, Bool.or_eq_true, not_true_eq_false, not_false_eq_true]; assumption)); refine r_seq (r_assign (r_meth ?_)); refine' r_var ?wa ?_; (case wa => assumption); refine' r_methK ?wa ?wb ?wc ?_; (case wa => assumption); (case wb => exact TabP.m15 (by assumption)); (case wc => rfl); refine r_pures rfl (a_meth ?_))
        refine variable_S T hg' fun τ₁ g1 F2' => ?_
        have s1 := sym_kf hS' F2' h2
        have hp1 := F2'.at' _ _ hp (by (first | lia | omega))
        have hgs1 := F2'.at' _ _ hgs (by (first | lia | omega))
        (refine a_asg (t_var (a_nx (r_seqN (r_skip (r_seqN (r_seq (r_expr (r_bm ?_)))))))); refine' r_var ?wa ?_; (case wa => assumption); refine a_bm ?wa ?_; (case wa => (refine' bmOk_list ?wz (by intro e; cases e); (case wz => assumption))); refine r_econs (r_call (r_econs ?_)); refine' r_var ?wa ?_; (case wa => assumption); refine a_cons1 (r_econs (r_prim2 ?_)); refine' r_var ?wa ?_; (case wa => assumption); refine a_p2 (r_var rfl (a_p2b ?_)); refine' p_idxL ?wa ?wb ?_; (case wa => assumption); (case wb => with_reducible assumption); refine a_cons1 (r_econs ?_); refine' r_var ?wa ?_; (case wa => assumption); refine a_cons1 (r_econs (r_var rfl (a_cons1 (r_econs ?_)))); refine' r_var ?wa ?_; (case wa => assumption); refine a_cons1 (r_pures rfl (a_cons2 (a_cons2 (a_cons2 (a_cons2 (a_cons2 (a_call ?_))))))))
        refine IH p hmem (y := .v (free u (nxs u lo c'))) (c := c' + 1) s1 ok' (h0.trans hle) pok g1 h1 h2 h3 fun S'' τ' l hh s2 o1 g2 F1' => ?_
        have hgs' := F1'.at' _ _ (F2'.at' _ _ hgs (by (first | lia | omega))) nMg
        (refine a_cons1 (r_pures rfl (a_cons2 (a_bm2 ?_))); refine' b_append ?wa ?wb ?_; (case wa => assumption); (case wb => assumption); refine a_exp (r_seqN (r_seq (r_assign (r_var rfl (a_asg (t_var (a_nx (r_seqN (r_skip ?_))))))))); refine r_forN ?_)
        exact fin S'' τ' _ (.v (free u (nxs u lo c'))) (c' + 1 + p.nv) _ l hh s2 o1 g2 ((fr_kf F2').trans F1') l0 l3 l4 l5 l6 rfl (fun S3 l3 o3 => by simp only [gl]; rw [G_le o1 o3 l3 _ hh]; rfl) (by simp [nvs]; (first | lia | omega))
  · rintro lm τ ⟨pre, suf, gs, h', c', S', e, hl', l0, l3, l4, l5, l6, l7, hle, hhas', hS', ok', hg', F', hp, hgs, hgl, hgl2, hnv⟩
    have hsuf : suf = [] := by
      rw [rangeL_len, up_size, e] at hl'
      cases suf with
      | nil => rfl
      | cons _ _ => simp at hl'
    subst hsuf
    rw [List.append_nil] at e
    (refine r_seqN (r_seq (r_ret (r_call (r_econs ?_)))); refine' r_var ?wa ?_; (case wa => assumption); refine a_cons1 (r_pures rfl (a_cons2 (a_call ?_))))
    have hG := hgl S' S'.le_refl ok'
    simp only [gl, List.append_nil] at hG
    have hne : gs ≠ [] := by
      intro q
      have := gl_len S' (φt u lo) b.spine x y c
      rw [hG, q] at this
      obtain ⟨p, r, e'⟩ := b.spine_ne
      rw [e'] at this; simp at this
    rcases List.eq_nil_or_concat gs with rfl | ⟨gs', z, rfl⟩
    · exact absurd rfl hne
    · rw [List.concat_eq_append] at *
      have he := congrArg List.length e
      have hlg : gs'.length ≤ 1000 := by simp at hgl2; (first | lia | omega)
      refine conjunction_S T hlg hgs ?_
      refine a_ret (r_seqR (r_retR ?_))
      have hb' := hhas S' (by rw [e]; exact hhas')
      have := q S' τ hle hb' hS' ok' (by simp [nvs] at hnv; rw [← hnv]; exact hg') F'
      rw [← G_spine, hG, conjL_snoc] at this
      exact this
end

noncomputable def Bd.spineA : Bd → List Bd
  | .alt _ l r => l :: r.spineA
  | b => [b]
noncomputable def ga (S : Sym) (φ : Nat → Int) : List Bd → Tm → Tm → Nat → List Tm
  | [], _, _, _ => []
  | p :: r, h, t, c => G S φ p h t c :: ga S φ r h t (c + p.nv)
noncomputable def altT (pre : List Tm) (z : Tm) : Tm := pre.foldr (fun g r => .s 2 [g, r]) z
noncomputable def altL : List Tm → Tm
  | [] => .a 16
  | [g] => g
  | g :: r => .s 2 [g, altL r]
theorem altL_snoc (z : Tm) : ∀ pre : List Tm, altL (pre ++ [z]) = altT pre z
  | [] => rfl
  | [g] => rfl
  | g :: h :: r => by
    have := altL_snoc z (h :: r)
    rw [List.cons_append, List.cons_append, altL, altT, List.foldr_cons]
    · rw [← List.cons_append, this]; rfl
    · simp
theorem Bd.spineA_ne (b : Bd) : ∃ p r, b.spineA = p :: r := by
  cases b <;> exact ⟨_, _, rfl⟩
noncomputable def nva : List Bd → Nat
  | [] => 0 | p :: r => p.nv + nva r
theorem nv_spineA : ∀ b : Bd, nva b.spineA = b.nv
  | .alt f l r => by
    have ih := nv_spineA r
    simp only [Bd.spineA, nva, Bd.nv]; (first | lia | omega)
  | .seq _ _ _ => rfl | .lst _ => rfl | .nil => rfl | .cut => rfl | .curly _ => rfl | .atom _ => rfl | .cmp _ _ _ => rfl | .var _ => rfl | .neg _ => rfl
theorem G_spineA (S : Sym) (φ : Nat → Int) : ∀ (b : Bd) (x y : Tm) (c : Nat), altL (ga S φ b.spineA x y c) = G S φ b x y c
  | .alt f l r, x, y, c => by
    have ih := G_spineA S φ r x y (c + l.nv)
    obtain ⟨p, q, e⟩ := r.spineA_ne
    simp only [Bd.spineA, ga, G]
    rw [e] at ih ⊢
    simp only [ga] at ih ⊢
    rw [altL, ih]
    simp
  | .seq _ _ _, _, _, _ => rfl | .lst _, _, _, _ => rfl | .nil, _, _, _ => rfl | .cut, _, _, _ => rfl | .curly _, _, _, _ => rfl | .atom _, _, _, _ => rfl | .cmp _ _ _, _, _, _ => rfl | .var _, _, _, _ => rfl
  | .neg _, _, _, _ => rfl
theorem ga_len (S : Sym) (φ : Nat → Int) : ∀ (l : List Bd) (x y : Tm) (c : Nat), (ga S φ l x y c).length = l.length
  | [], _, _, _ => rfl
  | p :: r, x, y, c => by simp [ga, ga_len S φ r]

section
variable {P : Pg} {σ σ' : St} {k m : Nat} {S : Sym} {Q : EQ} {kn kf ku : Nat} {u : List Int} {n : Int}

structure ChoI (S : Sym) (σ : St) (k kn kf ku : Nat) (u : List Int) (lo : Int) (b : Bd) (x y : Tm) (c i : Nat) (lm : LM) (τ : St) (pre suf : List Bd) (gs : List Tm) (c' : Nat) (S' : Sym) : Prop where
  e : b.spineA = pre ++ suf
  l : pre.length = i
  l0 : lm 0 = some (.obj k)
  l3 : lm 3 = some x.pv
  l4 : lm 4 = some y.pv
  l5 : lm 5 = some (.obj kn)
  l6 : lm 6 = some (.obj σ.length)
  hle : S.le S'
  hh : ∀ p ∈ pre, p.has S'
  hS : SymAt τ k S'
  ok : Sok S'
  hg : GVAt τ kn kf ku u (nxs u lo c')
  F : Fr (MM k kf) σ τ
  hp : τ[σ.length + 1]? = some (.list (Tm.pvs (b.spineA.map Bd.tm)))
  hgs : τ[σ.length]? = some (.list (Tm.pvs gs))
  hgl : ∀ S'', S'.le S'' → Sok S'' → ga S'' (φt u lo) b.spineA x y c = gs ++ ga S'' (φt u lo) suf x y c'
  hn : gs.length = pre.length
  hnv : c' + nva suf = c + b.nv
theorem choice_S (T : TabP P) (b : Bd) {bar : Int} (hs : IsSpine [2, bar] b.tm (b.spineA.map Bd.tm)) (hlen : b.spineA.length ≤ 1000) (hok : ∀ S, b.ok S → ∀ p ∈ b.spineA, p.ok S) (IH : ∀ p ∈ b.spineA, TrS P 357 p (m + 2)) (hhas : ∀ S, (∀ p ∈ b.spineA, p.has S) → b.has S)
    {lo : Int} {c : Nat} {x y : Tm} (hS : SymAt σ k S) (ok : Sok S) (h0 : S0.le S) (hb : b.ok S) (hg : GVAt σ kn kf ku u (nxs u lo c)) (h1 : k + 4 < kn) (h2 : k + 4 < kf) (h3 : k + 4 < ku)
    (q : ∀ S' σ', S.le S' → b.has S' → SymAt σ' k S' → Sok S' → GVAt σ' kn kf ku u (nxs u lo (c + b.nv)) → Fr (MM k kf) σ σ' → Q (G S' (φt u lo) b x y c).pv σ') : wpCall P (m + 3) 364 [.obj k, b.tm.pv, .tup [.int 2, .int bar], x.pv, y.pv, .obj kn] σ Q := by
  have hbig2 : (2 : Nat) ≤ big := by decide
  refine enter T.f364 rfl ?_
  unfold b_364
  (refine r_seq (r_assign (r_list (r_pures rfl ?_))); refine a_list ?wa ?_; (case wa => trivial); refine a_asg (t_var (a_nx (r_seqN (r_seq (r_for (i_val (r_callP rfl ?_))))))))
  refine right_spine_S T (F := [2, bar]) hs (by simpa using hlen) fun σ₁ F1 hl => ?_
  (refine' i_valL ?wa ?_; (case wa => assumption); refine a_for ?_)
  have ll : (σ ++ [AObj.list []]).length = σ.length + 1 := by simp
  rw [ll] at hl ⊢
  have hg0 : σ₁[σ.length]? = some (.list []) := F1.at' _ _ get_new id
  have F2 : Fr (fun _ => False) σ σ₁ := (Fr.new _).trans F1
  have sz5 := F1.len
  rw [ll] at sz5
  have sz1 := (List.getElem?_eq_some_iff.mp hg.f).1
  have sz2 := (List.getElem?_eq_some_iff.mp hS.fd).1
  have sz3 := (List.getElem?_eq_some_iff.mp hg.i).1
  have sz4 := (List.getElem?_eq_some_iff.mp hg.u).1
  have nMg : ¬ MM k kf σ.length := fun hm => by unfold MM symM at hm; (first | lia | omega)
  have nMp : ¬ MM k kf (σ.length + 1) := fun hm => by unfold MM symM at hm; (first | lia | omega)
  skip
  refine for_rule (fun i lm τ => ∃ pre suf gs c' S', ChoI S σ k kn kf ku u lo b x y c i lm τ pre suf gs c' S')
    ⟨[], b.spineA, [], c, S, rfl, rfl, rfl, rfl, rfl, rfl, rfl, S.le_refl, fun _ h => (nomatch h), sym_no hS F2, ok, gv_no hg F2, fr_no F2, hl, hg0, fun _ _ _ => rfl, rfl, by rw [nv_spineA]⟩ (fun i lm τ h => by
      obtain ⟨pre, suf, gs, c', S', h⟩ := h
      exact h.hp) ?_ ?_
  · rintro i y' lm τ K hy ⟨pre, suf, gs, c', S', e, rfl, l0, l3, l4, l5, l6, hle, hhas', hS', ok', hg', F', hp, hgs, hgl, hgl2, hnv⟩ hK
    cases suf with
    | nil =>
      have hi := (List.getElem?_eq_some_iff.mp hy).1
      rw [Tm.pvs_len, e] at hi; simp at hi
    | cons p rest =>
      have hy' : y' = p.tm.pv := by
        rw [Tm.pvs_eq, e] at hy; simpa using hy.symm
      subst hy'
      have hlg : (Tm.pvs gs).length < big := by
        have := congrArg List.length e
        simp at this
        rw [Tm.pvs_len]; unfold big; (first | lia | omega)
      have hmem : p ∈ b.spineA := by rw [e]; simp
      have pok : p.ok S' := Bd.ok_le hle (hok S hb p hmem)
      (refine r_seq (r_expr (r_bm ?_)); refine' r_var ?wa ?_; (case wa => assumption); refine a_bm ?wa ?_; (case wa => (refine' bmOk_list ?wz (by intro e; cases e); (case wz => assumption))); refine r_econs (r_call (r_econs ?_)); refine' r_var ?wa ?_; (case wa => assumption); refine a_cons1 (r_econs (r_var rfl (a_cons1 (r_econs ?_)))); refine' r_var ?wa ?_; (case wa => assumption); refine a_cons1 (r_econs ?_); refine' r_var ?wa ?_; (case wa => assumption); refine a_cons1 (r_econs ?_); refine' r_var ?wa ?_; (case wa => assumption); refine a_cons1 (r_pures rfl (a_cons2 (a_cons2 (a_cons2 (a_cons2 (a_cons2 (a_call ?_))))))))
      refine IH p hmem hS' ok' (h0.trans hle) pok hg' h1 h2 h3 fun S'' τ' l hh s1 o1 g1 F3 => ?_
      have hgs' := F3.at' _ _ hgs nMg
      (refine a_cons1 (r_pures rfl (a_cons2 (a_bm2 ?_))); refine' b_append ?wa ?wb ?_; (case wa => assumption); (case wb => assumption); refine a_exp (r_seqN (r_skip (r_forN ?_))))
      have F4 : Fr (fun j => j = σ.length) τ' (τ'.set σ.length (.list (Tm.pvs gs ++ [(G S'' (φt u lo) p x y c').pv]))) := Fr.set rfl
      refine hK _ _ ⟨pre ++ [p], rest, gs ++ [G S'' (φt u lo) p x y c'], c' + p.nv, S'', by rw [e]; simp, by simp, l0, l3, l4, l5, l6, hle.trans l, fun z hz => ?_, s1.frame F4 (fun j _ _ => by (first | lia | omega)), o1, g1.frame F4 (by (first | lia | omega)) (by (first | lia | omega)) (by (first | lia | omega)), ?_, ?_, ?_, fun S3 l3 o3 => ?_, by simp [hgl2], by simp [nva] at hnv; (first | lia | omega)⟩
      · rcases List.mem_append.mp hz with hz | hz
        · exact Bd.has_le ok' o1 l (hhas' z hz)
        · rw [List.mem_singleton.mp hz]; exact hh
      · exact (F'.trans F3).setNew (Nat.le_refl _)
      · exact F4.at' _ _ (F3.at' _ _ hp nMp) (by (first | lia | omega))
      · rw [Tm.pvs_app]; exact get_set_eq hgs'
      · rw [hgl S3 (l.trans l3) o3]; simp only [ga]; rw [G_le o1 o3 l3 _ hh]; simp
  · rintro lm τ ⟨pre, suf, gs, c', S', e, hl', l0, l3, l4, l5, l6, hle, hhas', hS', ok', hg', F', hp, hgs, hgl, hgl2, hnv⟩
    have hsuf : suf = [] := by
      rw [Tm.pvs_len, List.length_map, e] at hl'
      cases suf with
      | nil => rfl
      | cons _ _ => simp at hl'
    subst hsuf
    rw [List.append_nil] at e
    have hG := hgl S' S'.le_refl ok'
    simp only [ga, List.append_nil] at hG
    have hne : gs ≠ [] := by
      intro q
      have := ga_len S' (φt u lo) b.spineA x y c
      rw [hG, q] at this
      obtain ⟨p, r, e'⟩ := b.spineA_ne
      rw [e'] at this; simp at this
    rcases List.eq_nil_or_concat gs with rfl | ⟨gs', z, rfl⟩
    · exact absurd rfl hne
    · rw [List.concat_eq_append] at *
      have hla : (Tm.pvs (gs' ++ [z])).getLast? = some z.pv := by rw [Tm.pvs_eq]; simp
      have hdl : (Tm.pvs (gs' ++ [z])).dropLast = Tm.pvs gs' := by rw [Tm.pvs_eq, Tm.pvs_eq]; simp
      (refine r_seqN (r_seq (r_assign (r_bm ?_))); refine' r_var ?wa ?_; (case wa => assumption); refine a_bm ?wa ?_; (case wa => (refine' bmOk_list ?wz (by intro e; cases e); (case wz => assumption))); refine r_pures rfl (a_bm2 ?_); refine' b_pop ?wa ?wb ?_; (case wa => assumption); (case wb => with_reducible assumption); refine a_asg (t_var (a_nx (r_seqN (r_seq (r_loop ?_))))))
      rw [hdl]
      have F5 : Fr (fun j => j = σ.length) τ (τ.set σ.length (.list (Tm.pvs gs'))) := Fr.set rfl
      refine loop_rule (fun n lm τ' => ∃ a b', gs' = a ++ b' ∧ n = a.length ∧ lm 6 = some (.obj σ.length) ∧ lm 8 = some (altT b' z).pv ∧ τ'[σ.length]? = some (.list (Tm.pvs a)) ∧ Fr (fun j => j = σ.length) τ τ') ⟨_, gs', [], by simp, rfl, l6, rfl, get_set_eq hgs, F5⟩ ?_
      rintro n lm' τ' ⟨a, b', rfl, rfl, k6, k8, hga, F6⟩
      have ht := truthy_list hga
      rcases List.eq_nil_or_concat a with rfl | ⟨a', t, rfl⟩
      · simp only [Tm.pvs] at ht hga
        (refine r_te ?_; refine' r_var ?wa ?_; (case wa => assumption); refine' r_tru ?wa ?_; (case wa => assumption); refine a_loopF ?wa ?_; (case wa => decide); refine r_seqN (r_seq (r_ret ?_)); refine' r_var ?wa ?_; (case wa => assumption); refine a_ret (r_seqR (r_retR ?_)))
        have hb' := hhas S' (by rw [e]; exact hhas')
        have := q S' τ' hle hb' (hS'.frame F6 (fun j _ _ => by (first | lia | omega))) ok' ((by simp [nva] at hnv; rw [← hnv]; exact hg'.frame F6 (by (first | lia | omega)) (by (first | lia | omega)) (by (first | lia | omega)))) ⟨Nat.le_trans F'.len F6.len, fun j o ej hj => by
          refine F6.at' _ _ (F'.at' _ _ ej hj) ?_
          have := (List.getElem?_eq_some_iff.mp ej).1; (first | lia | omega)⟩
        rw [← G_spineA, hG, altL_snoc] at this
        exact this
      · rw [List.concat_eq_append] at *
        have hne2 : (!(Tm.pvs (a' ++ [t])).isEmpty) = true := by rw [Tm.pvs_eq]; simp
        have hla2 : (Tm.pvs (a' ++ [t])).getLast? = some t.pv := by rw [Tm.pvs_eq]; simp
        have hdl2 : (Tm.pvs (a' ++ [t])).dropLast = Tm.pvs a' := by rw [Tm.pvs_eq, Tm.pvs_eq]; simp
        (refine r_te ?_; refine' r_var ?wa ?_; (case wa => assumption); refine' r_tru ?wa ?_; (case wa => assumption); refine a_loopT ?wa ?_; (case wa => assumption); refine r_seq (r_assign (r_call (r_econs (r_int (a_cons1 (r_econs (r_tup (r_econs (r_bm ?_))))))))); refine' r_var ?wa ?_; (case wa => assumption); refine a_bm ?wa ?_; (case wa => (refine' bmOk_list ?wz (by intro e; cases e); (case wz => assumption))); refine r_pures rfl (a_bm2 ?_); refine' b_pop ?wa ?wb ?_; (case wa => assumption); (case wb => with_reducible assumption); refine a_cons1 (r_econs ?_); refine' r_var ?wa ?_; (case wa => assumption); refine a_cons1 (r_pures rfl (a_cons2 (a_cons2 ?_))); refine a_tup ?wa ?_; (case wa => assumption); refine a_cons1 (r_pures rfl (a_cons2 (a_cons2 (a_call ?_)))))
        rw [hdl2]
        refine struct_S T ?_
        refine a_asg (t_var (a_nx (r_seqN (r_skip (r_loopN ?_)))))
        exact ⟨a'.length, by simp, a', t :: b', by simp, rfl, k6, rfl, get_set_eq hga, F6.trans (Fr.set rfl)⟩

theorem part_alt (T : TabP P) (f : Int) (a b : Bd) (hs : ∀ S bar, (Bd.alt f a b).ok S → Sok S → S0.le S → S.fn (8, 2) = bar → (8, 2) ∈ S.funs → IsSpine [2, bar] (Bd.alt f a b).tm ((Bd.alt f a b).spineA.map Bd.tm)) (hlen : (Bd.alt f a b).spineA.length ≤ 1000) (hok : ∀ S, (Bd.alt f a b).ok S → ∀ p ∈ (Bd.alt f a b).spineA, p.ok S)
    (IH : ∀ p ∈ (Bd.alt f a b).spineA, TrS P 357 p (m + 2)) (hhas : ∀ S, (∀ p ∈ (Bd.alt f a b).spineA, p.has S) → (Bd.alt f a b).has S) : TrS P 371 (.alt f a b) (m + 4) := by
  intro σ k S kn kf ku u lo c x y Q hS ok h0 hb hg h1 h2 h3 q
  have hbig2 : (2 : Nat) ≤ big := by decide
  have ei := hS.i
  refine enter T.f371 rfl ?_
  unfold b_371
  have e : (Bd.alt f a b).tm.pv = .tup [.str "s", .int f, .tup [a.tm.pv, b.tm.pv]] := rfl
  rw [e]
  refine r_seq (r_assign (r_callP rfl ?_))
  refine struct_S T ?_
  (refine a_asg (t_var (a_nx (r_seqN (r_seq (r_site (r_te (r_primP rfl (p_eq rfl (r_truB ?_))))))))); refine a_siteF ?wa ?_; (case wa => decide); refine r_skip (r_seqN (r_seq (r_site (r_te (r_primP rfl (p_eq rfl (r_truB ?_))))))); refine a_siteF ?wa ?_; (case wa => decide); refine r_skip (r_seqN (r_seq (r_site (r_te (r_primP rfl (p_eq rfl (r_truB ?_))))))); refine a_siteF ?wa ?_; (case wa => decide); refine r_skip (r_seqN (r_seq (r_assign (r_pure rfl (a_asg (t_var (a_nx (r_seqN (r_seq ?_))))))))); refine r_assign (r_meth (r_var rfl ?_)); refine' r_methK ?wa ?wb ?wc ?_; (case wa => assumption); (case wb => exact TabP.m10 (by assumption)); (case wc => rfl); refine r_pures rfl (a_meth ?_))
  refine functorS T hS ok (by (first | lia | omega)) fun i σ₁ e1 s1 o1 F1 => ?_
  have g1 := gv_sym hg F1 h1 h2 h3
  have l := S.le_addF 8 2
  have hb' := Bd.ok_le (b := .alt f a b) l hb
  have hbar := Sym.fn_eq o1 e1
  have hsp := hs _ _ hb' o1 (h0.trans l) hbar (List.mem_of_getElem? e1)
  have hge := bar_ge (h0.trans l) e1
  have fin : wpCall P (m + 3) 364 [.obj k, (Bd.alt f a b).tm.pv, .tup [.int 2, .int (i : Int)], x.pv, y.pv, .obj kn] σ₁ Q :=
    choice_S T _ hsp hlen hok IH hhas s1 o1 (h0.trans l) hb' g1 h1 h2 h3 fun S' σ₂ l2 hh s2 o2 g2 F2 => q S' σ₂ (l.trans l2) hh s2 o2 g2 ((fr_sym F1).trans F2)
  rw [e] at fin
  rcases hb.1 with hf | ⟨j, hf, hj, ej⟩
  · subst hf
    (refine a_asg (t_var (a_nx (r_seqN (r_seq (r_site (r_te (r_primP rfl (p_eq rfl (r_truB ?_))))))))); refine a_siteF ?wa ?_; (case wa => decide); refine r_skip (r_seqN (r_seq (r_site (r_te (r_primP rfl (p_eq rfl (r_truB ?_))))))); refine a_siteF ?wa ?_; (case wa => decide); refine r_skip (r_seqN (r_seq (r_site (r_tor (r_te (r_primP rfl (p_eq rfl (r_truB (a_orT rfl ?_))))))))); refine a_siteT rfl (r_seq (r_ret (r_callP rfl ?_))))
    exact fin
  · have fi : f = (i : Int) := by
      have e2 := le_fun l ej
      have := Sym.fn_eq o1 e2
      rw [hf, ← this, hbar]
    have f0 : ¬ f = 0 := by (first | lia | omega)
    have f1 : ¬ f = 1 := by (first | lia | omega)
    have f2 : ¬ f = 2 := by (first | lia | omega)
    (refine a_asg (t_var (a_nx (r_seqN (r_seq (r_site (r_te (r_primP rfl (p_eq rfl (r_truB ?_))))))))); refine a_siteF ?wa ?_; (case wa => (simp only [decide_eq_true_eq, decide_eq_false_iff_not, Bool.not_eq_true, Bool.not_eq_true', Bool.not_eq_false, Bool.not_eq_false', decide_not, Bool.not_not, Bool.and_false, Bool.false_and, Bool.or_false, Bool.false_or, Bool.true_and, Bool.and_true, Bool.false_eq_true, Bool.and_eq_true, Bool.or_eq_true, not_true_eq_false, not_false_eq_true]; assumption)); refine r_skip (r_seqN (r_seq (r_site (r_te (r_primP rfl (p_eq rfl (r_truB ?_))))))); refine a_siteF ?wa ?_; (case wa => (simp only [decide_eq_true_eq, decide_eq_false_iff_not, Bool.not_eq_true, Bool.not_eq_true', Bool.not_eq_false, Bool.not_eq_false', decide_not, Bool.not_not, Bool.and_false, Bool.false_and, Bool.or_false, Bool.false_or, Bool.true_and, Bool.and_true, Bool.false_eq_true, Bool.and_eq_true, Bool.or_eq_true, not_true_eq_false, not_false_eq_true]; assumption)); refine r_skip (r_seqN (r_seq (r_site (r_tor (r_te (r_primP rfl (p_eq rfl (r_truB ?_)))))))); refine a_orF ?wa ?_; (case wa => (simp only [decide_eq_true_eq, decide_eq_false_iff_not, Bool.not_eq_true, Bool.not_eq_true', Bool.not_eq_false, Bool.not_eq_false', decide_not, Bool.not_not, Bool.and_false, Bool.false_and, Bool.or_false, Bool.false_or, Bool.true_and, Bool.and_true, Bool.false_eq_true, Bool.and_eq_true, Bool.or_eq_true, not_true_eq_false, not_false_eq_true]; assumption)); refine r_te (r_primP rfl (p_eq rfl (r_truB ?_))); refine a_siteT ?wa ?_; (case wa => (simp only [decide_eq_true_eq, decide_eq_false_iff_not, Bool.not_eq_true, Bool.not_eq_true', Bool.not_eq_false, Bool.not_eq_false', decide_not, Bool.not_not, Bool.and_false, Bool.false_and, Bool.or_false, Bool.false_or, Bool.true_and, Bool.and_true, Bool.false_eq_true, Bool.and_eq_true, Bool.or_eq_true, not_true_eq_false, not_false_eq_true]; assumption)); refine r_seq (r_ret (r_callP rfl ?_)))
    exact fin
end

theorem spine_mem : ∀ (b : Bd) (p : Bd), p ∈ b.spine → p = b ∨ p.dp < b.dp
  | .seq f l r, p, h => by
    unfold Bd.spine at h
    split at h
    · rcases List.mem_cons.mp h with rfl | h
      · right; simp only [Bd.dp]; (first | lia | omega)
      · rcases spine_mem r p h with rfl | h
        · right; simp only [Bd.dp]; (first | lia | omega)
        · right; simp only [Bd.dp]; (first | lia | omega)
    · exact .inl (List.mem_singleton.mp h)
  | .lst _, _, h | .nil, _, h | .cut, _, h | .curly _, _, h | .atom _, _, h | .cmp _ _ _, _, h | .var _, _, h | .neg _, _, h | .alt _ _ _, _, h => .inl (List.mem_singleton.mp h)
theorem spine_mem1 (l r p : Bd) (h : p ∈ (Bd.seq 1 l r).spine) : p.dp < (Bd.seq 1 l r).dp := by
  unfold Bd.spine at h
  rw [if_pos rfl] at h
  rcases List.mem_cons.mp h with rfl | h
  · simp only [Bd.dp]; (first | lia | omega)
  · rcases spine_mem r p h with rfl | h <;> (simp only [Bd.dp]; (first | lia | omega))
theorem spine_len : ∀ b : Bd, b.spine.length ≤ b.dp + 1
  | .seq f l r => by
    unfold Bd.spine
    split
    · have := spine_len r; simp only [Bd.dp, List.length_cons]; (first | lia | omega)
    · simp
  | .lst _ | .nil | .cut | .curly _ | .atom _ | .cmp _ _ _ | .var _ | .neg _ | .alt _ _ _ => by simp [Bd.spine]
theorem spine_ok {S : Sym} : ∀ (b : Bd), b.ok S → ∀ p ∈ b.spine, p.ok S
  | .seq f l r, hb, p, h => by
    unfold Bd.spine at h
    split at h
    · rcases List.mem_cons.mp h with rfl | h
      · exact hb.2.1
      · exact spine_ok r hb.2.2 p h
    · rw [List.mem_singleton.mp h]; exact hb
  | .lst _, hb, _, h | .nil, hb, _, h | .cut, hb, _, h | .curly _, hb, _, h | .atom _, hb, _, h | .cmp _ _ _, hb, _, h | .var _, hb, _, h | .neg _, hb, _, h | .alt _ _ _, hb, _, h => by rw [List.mem_singleton.mp h]; exact hb
theorem spine_has {S : Sym} : ∀ (b : Bd), (∀ p ∈ b.spine, p.has S) → b.has S
  | .seq f l r, h => by
    unfold Bd.spine at h
    split at h
    · exact ⟨h l (by simp), spine_has r fun p hp => h p (List.mem_cons_of_mem _ hp)⟩
    · exact h _ (by simp)
  | .lst _, h | .nil, h | .cut, h | .curly _, h | .atom _, h | .cmp _ _ _, h | .var _, h | .neg _, h | .alt _ _ _, h => h _ (by simp [Bd.spine])
theorem spineA_mem : ∀ (b : Bd) (p : Bd), p ∈ b.spineA → p = b ∨ p.dp < b.dp
  | .alt f l r, p, h => by
    unfold Bd.spineA at h
    rcases List.mem_cons.mp h with rfl | h
    · right; simp only [Bd.dp]; (first | lia | omega)
    · rcases spineA_mem r p h with rfl | h
      · right; simp only [Bd.dp]; (first | lia | omega)
      · right; simp only [Bd.dp]; (first | lia | omega)
  | .lst _, _, h | .nil, _, h | .cut, _, h | .curly _, _, h | .atom _, _, h | .cmp _ _ _, _, h | .var _, _, h | .neg _, _, h | .seq _ _ _, _, h => .inl (List.mem_singleton.mp h)
theorem spineA_mem1 (f : Int) (l r p : Bd) (h : p ∈ (Bd.alt f l r).spineA) : p.dp < (Bd.alt f l r).dp := by
  unfold Bd.spineA at h
  rcases List.mem_cons.mp h with rfl | h
  · simp only [Bd.dp]; (first | lia | omega)
  · rcases spineA_mem r p h with rfl | h <;> (simp only [Bd.dp]; (first | lia | omega))
theorem spineA_len : ∀ b : Bd, b.spineA.length ≤ b.dp + 1
  | .alt f l r => by
    have := spineA_len r
    simp only [Bd.spineA, Bd.dp, List.length_cons]; (first | lia | omega)
  | .lst _ | .nil | .cut | .curly _ | .atom _ | .cmp _ _ _ | .var _ | .neg _ | .seq _ _ _ => by simp [Bd.spineA]
theorem spineA_ok {S : Sym} : ∀ (b : Bd), b.ok S → ∀ p ∈ b.spineA, p.ok S
  | .alt f l r, hb, p, h => by
    unfold Bd.spineA at h
    rcases List.mem_cons.mp h with rfl | h
    · exact hb.2.1
    · exact spineA_ok r hb.2.2 p h
  | .lst _, hb, _, h | .nil, hb, _, h | .cut, hb, _, h | .curly _, hb, _, h | .atom _, hb, _, h | .cmp _ _ _, hb, _, h | .var _, hb, _, h | .neg _, hb, _, h | .seq _ _ _, hb, _, h => by rw [List.mem_singleton.mp h]; exact hb
theorem spineA_has {S : Sym} : ∀ (b : Bd), (∀ p ∈ b.spineA, p.has S) → b.has S
  | .alt f l r, h => ⟨h l (by simp [Bd.spineA]), spineA_has r fun p hp => h p (by simp only [Bd.spineA]; exact List.mem_cons_of_mem _ hp)⟩
  | .lst _, h | .nil, h | .cut, h | .curly _, h | .atom _, h | .cmp _ _ _, h | .var _, h | .neg _, h | .seq _ _ _, h => h _ (by simp [Bd.spineA])

theorem lst_s {items : List Tm} {f : Int} {l : List Tm} {t : Tm} {r : List Tm} (h : items = t :: r) (e : (Bd.lst items).tm = .s f l) : f = 0 := by
  subst h
  have : (Bd.lst (t :: r)).tm = .s 0 [t, listT r (.a 0)] := rfl
  rw [this] at e; injection e with e _; exact e.symm
theorem spine_is {S : Sym} (h0 : S0.le S) : ∀ (b : Bd), b.ok S → IsSpine [1] b.tm (b.spine.map Bd.tm)
  | .seq f l r, hb => by
    unfold Bd.spine
    by_cases hf : f = 1
    · subst hf; rw [if_pos rfl]; exact .cons (by simp) (spine_is h0 r hb.2.2)
    · rw [if_neg hf]
      exact .one fun f' l' e => by
        have : f = f' := by injection e
        simp; (first | lia | omega)
  | .lst items, hb => .one fun f l e => by obtain ⟨_, t, r, h⟩ := hb; have := lst_s h e; simp; (first | lia | omega)
  | .nil, _ => .one fun _ _ e => by cases e
  | .cut, _ => .one fun _ _ e => by cases e
  | .atom _, _ => .one fun _ _ e => by cases e
  | .var _, _ => .one fun _ _ e => by cases e
  | .cmp f a args, hb => .one fun f' l e => by
      have : (f : Int) = f' := by injection e
      have := hb.2.2.1; simp; (first | lia | omega)
  | .curly g, _ => .one fun f' l e => by
      have : (9 : Int) = f' := by injection e
      simp; (first | lia | omega)
  | .neg b, _ => .one fun f' l e => by
      have : (4 : Int) = f' := by injection e
      simp; (first | lia | omega)
  | .alt f l r, hb => .one fun f' l' e => by
      have : f = f' := by injection e
      rcases hb.1 with h | ⟨i, h, hi, _⟩ <;> (simp; (first | lia | omega))
theorem spineA_is {S : Sym} (ok : Sok S) (h0 : S0.le S) {bar : Int} (hb8 : S.fn (8, 2) = bar) (hm : ((8 : Int), (2 : Int)) ∈ S.funs) : ∀ (b : Bd), b.ok S → IsSpine [2, bar] b.tm (b.spineA.map Bd.tm)
  | b, hb => by
    have hge : 32 ≤ bar ∧ ∃ i : Nat, bar = i ∧ S.funs[i]? = some (8, 2) := by
      obtain ⟨i, hi, e⟩ := List.mem_iff_getElem.mp hm
      have e' : S.funs[i]? = some (8, 2) := by rw [List.getElem?_eq_getElem hi, e]
      have := bar_ge h0 e'
      rw [← hb8, Sym.fn_eq ok e']
      exact ⟨by (first | lia | omega), i, rfl, e'⟩
    obtain ⟨hge, i, hi, ei⟩ := hge
    cases b with
    | alt f l r =>
      refine .cons ?_ (spineA_is ok h0 hb8 hm r hb.2.2)
      rcases hb.1 with h | ⟨j, h, _, ej⟩
      · simp [h]
      · have := Sym.fn_eq ok ej
        rw [hb8] at this
        simp [h, this]
    | seq f l r =>
      exact .one fun f' l' e => by
        have : f = f' := by injection e
        rcases hb.1 with h | h <;> (simp; (first | lia | omega))
    | lst items => exact .one fun f l e => by obtain ⟨_, t, r, h⟩ := hb; have := lst_s h e; simp; (first | lia | omega)
    | nil => exact .one fun _ _ e => by cases e
    | cut => exact .one fun _ _ e => by cases e
    | atom _ => exact .one fun _ _ e => by cases e
    | var _ => exact .one fun _ _ e => by cases e
    | cmp f a args =>
      exact .one fun f' l e => by
        have h1 : (f : Int) = f' := by injection e
        obtain ⟨hf, _, hf32, ha⟩ := hb
        have : f ≠ i := fun q => by
          subst q; rw [hf] at ei
          injection ei with ei; injection ei with ei _
          exact ha (by (first | lia | omega))
        simp; (first | lia | omega)
    | curly g =>
      exact .one fun f' l e => by
        have : (9 : Int) = f' := by injection e
        simp; (first | lia | omega)
    | neg b =>
      exact .one fun f' l e => by
        have : (4 : Int) = f' := by injection e
        simp; (first | lia | omega)

section
variable {P : Pg}
theorem tr_none {fa : Nat} {b : Bd} {m : Nat} (h : ∀ S, ¬ b.ok S) : TrS P fa b m := by
  intro σ k S kn kf ku u lo c x y Q hS ok h0 hb
  exact absurd hb (h S)
theorem tr_all (T : TabP P) : ∀ (n : Nat) (b : Bd), b.dp = n → b.dp ≤ 500 → (∀ m, 4 * b.dp + 8 ≤ m → TrS P 371 b m) ∧ (∀ m, 4 * b.dp + 9 ≤ m → TrS P 357 b m) := by
  intro n
  induction n using Nat.strongRecOn with
  | ind n ih =>
    intro b hn hd
    have sub : ∀ p : Bd, p.dp < b.dp → (∀ m, 4 * p.dp + 8 ≤ m → TrS P 371 p m) ∧ (∀ m, 4 * p.dp + 9 ≤ m → TrS P 357 p m) := fun p hp => ih p.dp (hn ▸ hp) p rfl (by (first | lia | omega))
    -- from the part to the body, where the spine is the term itself
    have one : b.spine = [b] → (∀ m, 4 * b.dp + 8 ≤ m → TrS P 371 b m) → (∀ m, 4 * b.dp + 8 ≤ m → TrS P 371 b m) ∧ (∀ m, 4 * b.dp + 9 ≤ m → TrS P 357 b m) := fun hs hp => by
      refine ⟨hp, fun m hm => ?_⟩
      obtain ⟨m, rfl⟩ : ∃ m', m = m' + 3 := ⟨m - 3, by (first | lia | omega)⟩
      exact body_S T b (fun S hb h0 => spine_is h0 b hb) (by have := spine_len b; (first | lia | omega)) (fun S hb => spine_ok b hb) (fun p hp' => by
        rw [hs] at hp'
        rw [List.mem_singleton.mp hp']
        exact hp _ (by (first | lia | omega))) (fun S => spine_has b)
    have m4 : ∀ m, 4 * b.dp + 8 ≤ m → ∃ m', m = m' + 4 := fun m h => ⟨m - 4, by (first | lia | omega)⟩
    cases b with
    | lst items => exact one rfl fun m hm => by obtain ⟨m, rfl⟩ := m4 m hm; exact part_lst T items
    | nil => exact one rfl fun m hm => by obtain ⟨m, rfl⟩ := m4 m hm; exact part_nil (m := m + 1) T
    | cut => exact one rfl fun m hm => by obtain ⟨m, rfl⟩ := m4 m hm; exact part_cut (m := m + 1) T
    | atom n => exact one rfl fun m hm => by obtain ⟨m, rfl⟩ := m4 m hm; exact part_atom T n
    | var n => exact one rfl fun m hm => by obtain ⟨m, rfl⟩ := m4 m hm; exact part_var (m := m + 1) T n
    | curly g => exact one rfl fun m hm => by obtain ⟨m, rfl⟩ := m4 m hm; exact part_curly T g
    | cmp f a args => exact one rfl fun m hm => by obtain ⟨m, rfl⟩ := m4 m hm; exact part_cmp T f a args
    | neg b =>
      exact one rfl fun m hm => by
        simp only [Bd.dp] at hm
        obtain ⟨m, rfl⟩ : ∃ m', m = m' + 4 := ⟨m - 4, by (first | lia | omega)⟩
        exact part_neg T b ((sub b (by simp [Bd.dp])).2 _ (by (first | lia | omega)))
    | alt f l r =>
      exact one rfl fun m hm => by
        obtain ⟨m, rfl⟩ := m4 m hm
        refine part_alt (m := m) T f l r (fun S bar hb ok h0 hb8 hm => spineA_is ok h0 hb8 hm _ hb) (by have := spineA_len (.alt f l r); (first | lia | omega)) (fun S hb => spineA_ok _ hb) (fun p hp => ?_) (fun S => spineA_has _)
        have := spineA_mem1 f l r p hp
        have h := (sub p this).2
        exact @h (m + 2) (by (first | lia | omega))
    | seq f l r =>
      by_cases hf : f = 1
      · subst hf
        have body : ∀ m, 4 * (Bd.seq 1 l r).dp + 5 ≤ m → TrS P 357 (.seq 1 l r) m := fun m hm => by
          obtain ⟨m, rfl⟩ : ∃ m', m = m' + 3 := ⟨m - 3, by (first | lia | omega)⟩
          refine body_S (m := m) T _ (fun S hb h0 => spine_is h0 _ hb) (by have := spine_len (.seq 1 l r); (first | lia | omega)) (fun S hb => spine_ok _ hb) (fun p hp => ?_) (fun S => spine_has _)
          have := spine_mem1 l r p hp
          have h := (sub p this).1
          exact @h (m + 2) (by (first | lia | omega))
        refine ⟨fun m hm => ?_, fun m hm => body m (by (first | lia | omega))⟩
        obtain ⟨m, rfl⟩ := m4 m hm
        exact part_comma T l r (body _ (by (first | lia | omega)))
      · refine one (by unfold Bd.spine; rw [if_neg hf]) fun m hm => ?_
        by_cases h3 : f = 3
        · subst h3
          obtain ⟨m, rfl⟩ := m4 m hm
          refine part_arrow T l r ((sub l ?_).2 _ ?_) ((sub r ?_).2 _ ?_) <;> (simp only [Bd.dp] at hm ⊢; (first | lia | omega))
        · exact tr_none fun S (hb : (Bd.seq f l r).ok S) => hb.1.elim hf h3
theorem body_all (T : TabP P) (b : Bd) (hd : b.dp ≤ 500) {m : Nat} (hm : 4 * b.dp + 9 ≤ m) : TrS P 357 b m := (tr_all T b.dp b rfl hd).2 m hm
end

noncomputable def isHead : Bd → Prop
  | .atom _ => True
  | .cmp _ _ _ => True
  | _ => False
noncomputable def headT (hb : Bd) (pushed : Option (List Tm)) : Tm := match pushed with
  | none => hb.tm
  | some items => .s 1 [hb.tm, listT items (.a 0)]
noncomputable def TGr (S : Sym) (φ : Nat → Int) (hb b : Bd) (pushed : Option (List Tm)) : Tm := match pushed with
  | none => .s 5 [G S φ hb (.v (φ 0)) (.v (φ 1)) 0, G S φ b (.v (φ 0)) (.v (φ 1)) 2]
  | some items => .s 5 [G S φ hb (.v (φ 0)) (.v (φ 1)) 0, .s 1 [G S φ b (.v (φ 0)) (.v (φ 2)) 3, .s 10 [.v (φ 1), listT items (.v (φ 2))]]]

section
variable {P : Pg} {σ σ' : St} {k m : Nat} {S : Sym} {Q : EQ} {kn kf ku : Nat} {u : List Int} {n : Int}

theorem pvs2 (g z : Tm) : Tm.pvs ([g] ++ [z]) = [g.pv, z.pv] := by simp only [List.cons_append, List.nil_append, Tm.pvs]
theorem cast_q {Q : EQ} {v v' : PV} {σ : St} (h : Q v σ) (e : v = v') : Q v' σ := e ▸ h
theorem trans_not (T : TabP P) {t : Tm} {pf : PV} (h : ∀ l, t ≠ .s 8 l) (q : Q t.pv σ) : wpCall P (m + 1) 336 [.obj k, t.pv, pf] σ Q := by
  refine enter T.f336 rfl ?_
  unfold b_336
  cases t with
  | v n => simp only [Tm.pv] at q ⊢; (refine r_seq (r_site (r_tor (r_te (r_primP rfl (p_ne rfl (r_truB (a_orT rfl (a_siteT rfl (r_seq ?_))))))))); refine r_ret (r_var rfl (a_ret (r_seqR (r_seqR (r_retR ?_)))))); exact q
  | a n => simp only [Tm.pv] at q ⊢; (refine r_seq (r_site (r_tor (r_te (r_primP rfl (p_ne rfl (r_truB (a_orT rfl (a_siteT rfl (r_seq ?_))))))))); refine r_ret (r_var rfl (a_ret (r_seqR (r_seqR (r_retR ?_)))))); exact q
  | i n => simp only [Tm.pv] at q ⊢; (refine r_seq (r_site (r_tor (r_te (r_primP rfl (p_ne rfl (r_truB (a_orT rfl (a_siteT rfl (r_seq ?_))))))))); refine r_ret (r_var rfl (a_ret (r_seqR (r_seqR (r_retR ?_)))))); exact q
  | s f l =>
    have hf : ¬ f = 8 := fun e => h l (by rw [e])
    have hf' : (!decide (f = 8)) = true := by simp [hf]
    simp only [Tm.pv] at q ⊢
    (refine r_seq (r_site (r_tor (r_te (r_primP rfl (p_ne rfl (r_truB ?_)))))); refine a_orF ?wa ?_; (case wa => decide); refine r_te (r_primP rfl (p_ne rfl (r_truB ?_))); refine a_siteT ?wa ?_; (case wa => assumption); refine r_seq (r_ret (r_var rfl (a_ret (r_seqR (r_seqR (r_retR ?_)))))))
    exact q

set_option tactic.hygienic true in
theorem nonterm_S (T : TabP P) (hb : Bd) (hh : isHead hb) {x y : Tm} (φ : Nat → Int) (c : Nat) (hS : SymAt σ k S) (ok : Sok S) (hok : hb.ok S) (q : ∀ S' σ', S.le S' → hb.has S' → SymAt σ' k S' → Sok S' → Fr (symM k) σ σ' → Q (G S' φ hb x y c).pv σ') : wpCall P (m + 3) 343 [.obj k, hb.tm.pv, x.pv, y.pv] σ Q := by
  cases hb <;> try exact hh.elim
  · rename_i n
    refine nonterminal_a T hS ok hok.2.2 fun S' i σ₁ l e s1 o1 F1 => ?_
    have := q S' σ₁ l (List.mem_of_getElem? e) s1 o1 F1
    simp only [G] at this
    rw [Sym.fn_eq o1 e] at this
    exact this
  · rename_i f a args
    refine nonterminal_s T hS ok hok.1 hok.2.1 fun S' j σ₂ l e s2 o2 F2 => ?_
    have := q S' σ₂ l (List.mem_of_getElem? e) s2 o2 F2
    simp only [G] at this
    rw [Sym.fn_eq o2 e] at this
    exact this

theorem head_tag {hb : Bd} (h : isHead hb) : hb.tm.tag = "a" ∨ hb.tm.tag = "s" := by
  cases hb <;> first | exact h.elim | exact .inl rfl | exact .inr rfl

set_option tactic.hygienic true in
theorem trans_S (T : TabP P) {hb b : Bd} {pushed : Option (List Tm)} {lo : Int} (hS : SymAt σ k S) (ok : Sok S) (h0 : S0.le S) (hh : isHead hb) (hbo : hb.ok S) (bo : b.ok S) (hp : ∀ l, pushed = some l → l.length ≤ 1000) (hd : b.dp ≤ 500) (hsz : (Tm.s 8 [headT hb pushed, b.tm]).size ≤ 800)
    (hf : σ[kf]? = some (.inst 290 [(4, .int lo)])) (hkf : k + 4 < kf) (hm : 4 * b.dp + 9 ≤ m)
    (q : ∀ S' U σ', S.le S' → hb.has S' → b.has S' → SymAt σ' k S' → Sok S' → Fr (MM k kf) σ σ' → (∀ n ∈ (Tm.s 8 [headT hb pushed, b.tm]).vars, n ∈ U) → Q (TGr S' (φt U lo) hb b pushed).pv σ') : wpCall P (m + 1) 336 [.obj k, (Tm.s 8 [headT hb pushed, b.tm]).pv, .obj kf] σ Q := by
  have hbig1 : (1 : Nat) ≤ big := by decide
  have hbig2 : (2 : Nat) ≤ big := by decide
  have hbig3 : (3 : Nat) ≤ big := by decide
  obtain ⟨m, rfl⟩ : ∃ m', m = m' + 4 := ⟨m - 4, by (first | lia | omega)⟩
  refine enter T.f336 rfl ?_
  unfold b_336
  have e : (Tm.s 8 [headT hb pushed, b.tm]).pv = .tup [.str "s", .int 8, .tup [(headT hb pushed).pv, b.tm.pv]] := by simp only [Tm.pv, Tm.pvs]
  have sz1 := (List.getElem?_eq_some_iff.mp hf).1
  have sz2 := (List.getElem?_eq_some_iff.mp hS.fd).1
  rw [e]
  (refine r_seq (r_site (r_tor (r_te (r_primP rfl (p_ne rfl (r_truB ?_)))))); refine a_orF ?wa ?_; (case wa => decide); refine r_te (r_primP rfl (p_ne rfl (r_truB ?_))); refine a_siteF ?wa ?_; (case wa => decide); refine r_skip (r_seqN (r_seq (r_assign (r_new (r_econs (r_var rfl (a_cons1 (r_econs (r_callP rfl ?_))))))))))
  rw [← e]
  refine variables_S (m := m + 2) T hsz fun σ₁ U ku F1 hk hU hv => ?_
  rw [e]
  have sz3 := F1.len
  have sz4 := (List.getElem?_eq_some_iff.mp hU).1
  (refine a_cons1 (r_pures rfl (a_cons2 (a_cons2 ?_))); refine' r_newK ?wa ?_; (case wa => exact TabP.i325 (by assumption)))
  refine gvInit_S T get_new ?_
  have hkn : σ₁.length ≠ kf := by (first | lia | omega)
  have hku : ku ≠ kf := by (first | lia | omega)
  obtain ⟨τ, hτ⟩ : ∃ s : St, s = ((σ₁ ++ [AObj.inst 325 []]).set σ₁.length (.inst 325 [(5, .obj kf)])).set σ₁.length (.inst 325 [(5, .obj kf), (6, .obj ku)]) := ⟨_, rfl⟩
  have F2 : Fr (fun _ => False) σ τ := by rw [hτ]; exact ((F1.trans (Fr.new _)).setNew sz3).setNew sz3
  have g2 : GVAt τ σ₁.length kf ku U lo := by rw [hτ]; exact ⟨get_set_eq (get_set_eq get_new), get_set_ne (by (first | lia | omega)) (get_set_ne (by (first | lia | omega)) (get_app (F1.at' _ _ hf id))), get_set_ne (by (first | lia | omega)) (get_set_ne (by (first | lia | omega)) (get_app hU)), hkn, hku⟩
  have s2 := sym_no hS F2
  rw [← hτ]
  clear hτ
  refine ⟨rfl, ?_⟩
  have gi := g2.i
  have go : ∀ {y : Tm} {c : Nat} {Q' : EQ} {S₁ : Sym} {σ₃ : St} {h' : Tm}, SymAt σ₃ k S₁ → Sok S₁ → S.le S₁ → GVAt σ₃ σ₁.length kf ku U (nxs U lo c) → (∀ S' σ', S₁.le S' → b.has S' → SymAt σ' k S' → Sok S' → GVAt σ' σ₁.length kf ku U (nxs U lo (c + b.nv)) → Fr (MM k kf) σ₃ σ' → Q' (G S' (φt U lo) b h' y c).pv σ') → wpCall P (m + 4) 357 [.obj k, b.tm.pv, h'.pv, y.pv, .obj σ₁.length] σ₃ Q' :=
    fun a1 a2 a3 a4 a5 => body_all T b hd hm a1 a2 (h0.trans a3) (Bd.ok_le a3 bo) a4 (by (first | lia | omega)) hkf (by (first | lia | omega)) a5
  have first : ∀ {Q' : EQ}, (∀ σ₃, SymAt σ₃ k S → GVAt σ₃ σ₁.length kf ku U (nxs U lo 1) → Fr (MM k kf) σ σ₃ → Q' (Tm.v (φt U lo 0)).pv σ₃) → wpCall P (m + 4) 322 [.obj σ₁.length] τ Q' := fun q' =>
    variable_S (m := m + 2) T g2 fun σ₃ g3 F3 => q' σ₃ (sym_kf s2 F3 hkf) g3 ((fr_no F2).trans (fr_kf F3))
  have next : ∀ {Q' : EQ} {S : Sym} {σ₃ : St} {c : Nat}, SymAt σ₃ k S → GVAt σ₃ σ₁.length kf ku U (nxs U lo c) → Fr (MM k kf) σ σ₃ → (∀ σ₄, SymAt σ₄ k S → GVAt σ₄ σ₁.length kf ku U (nxs U lo (c + 1)) → Fr (MM k kf) σ σ₄ → Q' (Tm.v (φt U lo c)).pv σ₄) → wpCall P (m + 4) 322 [.obj σ₁.length] σ₃ Q' := fun a b c q' =>
    variable_S (m := m + 2) T b fun σ₃ g3 F3 => q' σ₃ (sym_kf a F3 hkf) g3 (c.trans (fr_kf F3))
  have ht := head_tag hh
  have nont : ∀ {Q' : EQ} {σ₃ : St} {x y : Tm}, SymAt σ₃ k S → (∀ S' σ', S.le S' → hb.has S' → SymAt σ' k S' → Sok S' → Fr (symM k) σ₃ σ' → Q' (G S' (φt U lo) hb x y 0).pv σ') → wpCall P (m + 4) 343 [.obj k, hb.tm.pv, x.pv, y.pv] σ₃ Q' := fun a q' => nonterm_S (m := m + 1) T hb hh (φt U lo) 0 a ok hbo q'
  cases hb <;> try exact hh.elim
  case' cmp f a args => have hf1 : ¬ ((f : Int) = 1) := by have := hbo.2.2.1; (first | lia | omega)
  all_goals
    cases pushed with
    | none =>
      simp only [headT, Bd.tm] at *
      (first | (refine a_asg (t_var (a_nx (r_seqN (r_seq (r_assign (r_pure rfl (a_asg (t_tup rfl rfl (a_nx ?_))))))))); refine r_seqN (r_seq (r_assign (r_none (a_asg (t_var (a_nx (r_seqN (r_seq (r_site ?_))))))))); refine r_tand (r_te (r_primP rfl (p_eq rfl (r_truB (a_andT rfl (r_te (r_primP rfl (p_eq rfl (r_truB ?_))))))))); refine a_siteF ?wa ?_; (case wa => (simp only [decide_eq_true_eq, decide_eq_false_iff_not, Bool.not_eq_true, Bool.not_eq_true', Bool.not_eq_false, Bool.not_eq_false', decide_not, Bool.not_not, Bool.and_false, Bool.false_and, Bool.or_false, Bool.false_or, Bool.true_and, Bool.and_true, Bool.false_eq_true, Bool.and_eq_true, Bool.or_eq_true, not_true_eq_false, not_false_eq_true]; assumption)); refine r_skip (r_seqN (r_seq (r_site (r_te (r_primP rfl (p_eq rfl (r_truB ?_))))))); refine a_siteF ?wa ?_; (case wa => decide); refine r_skip (r_seqN (r_seq (r_site (r_tnot (r_te (r_callP rfl ?_))))))) | (refine a_asg (t_var (a_nx (r_seqN (r_seq (r_assign (r_pure rfl (a_asg (t_tup rfl rfl (a_nx ?_))))))))); refine r_seqN (r_seq (r_assign (r_none (a_asg (t_var (a_nx (r_seqN (r_seq (r_site ?_))))))))); refine r_tand (r_te (r_primP rfl (p_eq rfl (r_truB ?_)))); refine a_andF ?wa ?_; (case wa => decide); refine a_siteF ?wa ?_; (case wa => decide); refine r_skip (r_seqN (r_seq (r_site (r_te (r_primP rfl (p_eq rfl (r_truB ?_))))))); refine a_siteF ?wa ?_; (case wa => decide); refine r_skip (r_seqN (r_seq (r_site (r_tnot (r_te (r_callP rfl ?_))))))))
      refine is_callable_S T ht ?_
      (refine r_truB (a_not ?_); refine a_siteF ?wa ?_; (case wa => decide); refine r_skip (r_seqN (r_seq (r_assign (r_meth (r_var rfl ?_))))); refine' r_methK ?wa ?wb ?wc ?_; (case wa => assumption); (case wb => exact TabP.m15 (by assumption)); (case wc => rfl); refine r_pures rfl (a_meth ?_))
      refine first fun σ₃ s3 g3 F3 => ?_
      have gi3 := g3.i
      (refine a_asg (t_var (a_nx (r_seqN (r_seq (r_assign (r_meth (r_var rfl ?_))))))); refine' r_methK ?wa ?wb ?wc ?_; (case wa => assumption); (case wb => exact TabP.m15 (by assumption)); (case wc => rfl); refine r_pures rfl (a_meth ?_))
      refine next s3 g3 F3 fun σ₄ s4 g4 F4 => ?_
      refine a_asg (t_var (a_nx (r_seqN (r_seq (r_assign (r_callP rfl ?_))))))
      refine nont (x := .v (φt U lo 0)) (y := .v (φt U lo 1)) s4 fun S₅ σ₅ l5 h5 s5 o5 F5 => ?_
      (refine a_asg (t_var (a_nx (r_seqN (r_seq (r_site (r_te (r_primP rfl (p_is (r_truB ?_))))))))); refine a_siteT ?wa ?_; (case wa => (simp only [decide_eq_true_eq, decide_eq_false_iff_not, Bool.not_eq_true, Bool.not_eq_true', Bool.not_eq_false, Bool.not_eq_false', decide_not, Bool.not_not, Bool.and_false, Bool.false_and, Bool.or_false, Bool.false_or, Bool.true_and, Bool.and_true, Bool.false_eq_true, Bool.and_eq_true, Bool.or_eq_true, not_true_eq_false, not_false_eq_true]; done)); refine r_seq (r_ret (r_call (r_econs (r_int (a_cons1 (r_econs (r_tup (r_econs (r_var rfl ?_))))))))); refine a_cons1 (r_econs (r_callP rfl ?_)))
      refine go (h' := .v (φt U lo 0)) (y := .v (φt U lo 1)) (c := 2) s5 o5 l5 (gv_sym g4 F5 (by (first | lia | omega)) hkf (by (first | lia | omega))) fun S₆ σ₆ l6 h6 s6 o6 g6 F6 => ?_
      (refine a_cons1 (r_pures rfl (a_cons2 (a_cons2 ?_))); refine a_tup ?wa ?_; (case wa => assumption); refine a_cons1 (r_pures rfl (a_cons2 (a_cons2 (a_call ?_)))))
      refine struct_S T ?_
      refine a_ret (r_seqR (r_seqR (r_retR ?_)))
      have := q S₆ U σ₆ (l5.trans l6) (Bd.has_le o5 o6 l6 h5) h6 s6 o6 ((F4.trans (fr_sym F5)).trans F6) hv
      simp only [TGr] at this
      rw [G_le o5 o6 l6 _ h5] at this
      exact this
    | some items =>
      have hpi := hp items rfl
      have hE : ∀ x y : Tm, (Tm.s 1 [x, y]).pv = .tup [.str "s", .int 1, .tup [x.pv, y.pv]] := fun x y => by simp only [Tm.pv, Tm.pvs]
      have hnn : ¬ ((listT items (Tm.a 0)).pv = PV.none) := by cases items <;> (intro h; cases h)
      simp only [headT, Bd.tm] at *
      rw [hE]
      (refine a_asg (t_var (a_nx (r_seqN (r_seq (r_assign (r_pure rfl (a_asg (t_tup rfl rfl (a_nx ?_))))))))); refine r_seqN (r_seq (r_assign (r_none (a_asg (t_var (a_nx (r_seqN (r_seq (r_site ?_))))))))); refine r_tand (r_te (r_primP rfl (p_eq rfl (r_truB (a_andT rfl (r_te (r_primP rfl (p_eq rfl (r_truB ?_))))))))); refine a_siteT rfl (r_seq (r_assign (r_pure rfl (a_asg (t_tup rfl rfl (a_nx (r_seqN (r_skip (r_seqN ?_))))))))); refine r_seq (r_site (r_te (r_primP rfl (p_eq rfl (r_truB ?_))))); refine a_siteF ?wa ?_; (case wa => decide); refine r_skip (r_seqN (r_seq (r_site (r_tnot (r_te (r_callP rfl ?_)))))))
      refine is_callable_S T ht ?_
      (refine r_truB (a_not ?_); refine a_siteF ?wa ?_; (case wa => decide); refine r_skip (r_seqN (r_seq (r_assign (r_meth (r_var rfl ?_))))); refine' r_methK ?wa ?wb ?wc ?_; (case wa => assumption); (case wb => exact TabP.m15 (by assumption)); (case wc => rfl); refine r_pures rfl (a_meth ?_))
      refine first fun σ₃ s3 g3 F3 => ?_
      have gi3 := g3.i
      (refine a_asg (t_var (a_nx (r_seqN (r_seq (r_assign (r_meth (r_var rfl ?_))))))); refine' r_methK ?wa ?wb ?wc ?_; (case wa => assumption); (case wb => exact TabP.m15 (by assumption)); (case wc => rfl); refine r_pures rfl (a_meth ?_))
      refine next s3 g3 F3 fun σ₄ s4 g4 F4 => ?_
      refine a_asg (t_var (a_nx (r_seqN (r_seq (r_assign (r_callP rfl ?_))))))
      refine nont (x := .v (φt U lo 0)) (y := .v (φt U lo 1)) s4 fun S₅ σ₅ l5 h5 s5 o5 F5 => ?_
      have g5 := gv_sym g4 F5 (by (first | lia | omega)) hkf (by (first | lia | omega))
      have gi5 := g5.i
      (refine a_asg (t_var (a_nx (r_seqN (r_seq (r_site (r_te (r_primP rfl (p_is (r_truB ?_))))))))); refine a_siteF ?wa ?_; (case wa => (simp only [decide_eq_true_eq, decide_eq_false_iff_not, Bool.not_eq_true, Bool.not_eq_true', Bool.not_eq_false, Bool.not_eq_false', decide_not, Bool.not_not, Bool.and_false, Bool.false_and, Bool.or_false, Bool.false_or, Bool.true_and, Bool.and_true, Bool.false_eq_true, Bool.and_eq_true, Bool.or_eq_true, not_true_eq_false, not_false_eq_true]; assumption)); refine r_skip (r_seqN (r_seq (r_assign (r_meth (r_var rfl ?_))))); refine' r_methK ?wa ?wb ?wc ?_; (case wa => assumption); (case wb => exact TabP.m15 (by assumption)); (case wc => rfl); refine r_pures rfl (a_meth ?_))
      refine next s5 g5 (F4.trans (fr_sym F5)) fun σ₆ s6 g6 F6 => ?_
      refine a_asg (t_var (a_nx (r_seqN (r_seq (r_assign (r_callP rfl ?_))))))
      refine go (h' := .v (φt U lo 0)) (y := .v (φt U lo 2)) (c := 3) s6 o5 l5 g6 fun S₇ σ₇ l7 h7 s7 o7 g7 F7 => ?_
      refine a_asg (t_var (a_nx (r_seqN (r_seq (r_assign (r_callP rfl ?_))))))
      refine terminals_S T (items := items) (x := .v (φt U lo 1)) (y := .v (φt U lo 2)) hpi fun σ₈ F8 => ?_
      (refine a_asg (t_var (a_nx (r_seqN (r_seq (r_ret (r_call (r_econs (r_int (a_cons1 ?_))))))))); refine r_econs (r_tup (r_econs (r_var rfl (a_cons1 (r_econs (r_call (r_econs (r_list (r_pures rfl ?_))))))))); refine a_list ?wa ?_; (case wa => assumption); refine a_cons1 (r_pures rfl (a_cons2 (a_call ?_))))
      refine conjunction_S T (pre := [G S₇ (φt U lo) b (.v (φt U lo 0)) (.v (φt U lo 2)) 3]) (z := .s 10 [.v (φt U lo 1), listT items (.v (φt U lo 2))]) (by simp) (by rw [pvs2]; exact get_new) ?_
      (refine a_cons1 (r_pures rfl (a_cons2 (a_cons2 ?_))); refine a_tup ?wa ?_; (case wa => assumption); refine a_cons1 (r_pures rfl (a_cons2 (a_cons2 (a_call ?_)))))
      refine struct_S T ?_
      refine a_ret (r_seqR (r_retR ?_))
      refine cast_q (q S₇ U _ (l5.trans l7) (Bd.has_le o5 o7 l7 h5) h7 (sym_no (sym_no s7 F8) (Fr.new _)) o7 (((F6.trans F7).trans (fr_no F8)).trans (Fr.new _)) hv) ?_
      simp only [TGr]
      rw [G_le o5 o7 l7 _ h5]
      simp only [Tm.pv, Tm.pvs, conjT, List.foldr_cons, List.foldr_nil]
end
section
variable {P : Pg} {σ σ' : St} {k m : Nat} {S : Sym} {Q : EQ}
theorem pair_S (T : Tab1 P) {f : Int} {x y : Tm} (q : Q (Tm.s f [x, y]).pv σ) : wpCall P (m + 1) 385 [.int f, x.pv, y.pv] σ Q := by
  have hbig2 : (2 : Nat) ≤ big := by decide
  have hbig3 : (3 : Nat) ≤ big := by decide
  refine enter T.f385 rfl ?_
  unfold b_385
  refine r_seq (r_ret (r_tupP rfl (a_ret (r_seqR (r_retR ?_)))))
  exact q
noncomputable def φo (c : Nat) : Int := 1001 + (c : Int)
theorem new_S (T : Tab1 P) {kc : Nat} {c : Nat} (h : σ[kc]? = some (.list [.int (c : Int)])) (q : Q (Tm.v (φo c)).pv (σ.set kc (.list [.int ((c + 1 : Nat) : Int)]))) : wpCall P (m + 1) 425 [.obj kc] σ Q := by
  have hbig2 : (2 : Nat) ≤ big := by decide
  refine enter T.f425 rfl ?_
  unfold b_425
  have hl : (0 : Int) < (([PV.int (c : Int)] : List PV).length : Int) := by show (0 : Int) < ((1 : Nat) : Int); decide
  have h0 : (0 : Int) ≤ 0 := by decide
  have e : ([PV.int (c : Int)].set (Int.toNat 0) (PV.int ((c : Int) + 1))) = [PV.int ((c + 1 : Nat) : Int)] := rfl
  have h2 : (σ.set kc (.list [.int ((c + 1 : Nat) : Int)]))[kc]? = some (.list [.int ((c + 1 : Nat) : Int)]) := get_set_eq h
  rw [← e] at h2 q
  (refine r_seq (r_augIdx (r_var rfl (r_int ?_))); refine' p_idxL ?wa ?wb ?_; (case wa => assumption); (case wb => rfl); refine r_int (r_addK ?_); refine' s_list ?wa ?wb ?wc ?_; (case wa => assumption); (case wb => assumption); (case wc => assumption); refine r_seqN (r_seq (r_ret (r_tup (r_econs (r_str (a_cons1 (r_econs (r_prim2 (r_int ?_))))))))); refine a_p2 (r_primP rfl ?_); refine' p_idxL ?wa ?wb ?_; (case wa => assumption); (case wb => rfl); refine a_p2b (p_addI (a_cons1 (r_pures rfl (a_cons2 (a_cons2 ?_))))); refine a_tup ?wa ?_; (case wa => assumption); refine a_ret (r_seqR (r_retR ?_)))
  refine cast_q q ?_
  unfold φo
  rw [Tm.pv]
  have e2 : (1001 : Int) + (c : Int) = 1000 + ((c : Int) + 1) := by (first | lia | omega)
  rw [e2]
end
theorem fm_map {α β : Type} {f : α → Option β} {g : α → β} : ∀ {l : List α}, (∀ k ∈ l, f k = some (g k)) → l.filterMap f = l.map g
  | [], _ => rfl
  | x :: l, h => by rw [List.filterMap_cons, h x List.mem_cons_self, List.map_cons, fm_map fun k hk => h k (List.mem_cons_of_mem _ hk)]
theorem slice_rev (xs : List PV) : sliceP xs none none (some (-1)) = xs.reverse := by
  unfold sliceP
  have hb : sliceBounds none none (some (-1)) xs.length = ((xs.length : Int) - 1, -1, -1) := by
    unfold sliceBounds; simp
  rw [hb]
  dsimp only
  have hr : sliceRange ((xs.length : Int) - 1) (-1) (-1) = (List.range xs.length).map fun k => xs.length - 1 - k := by
    unfold sliceRange
    rw [if_neg (by decide)]
    have hc : (if (xs.length : Int) - 1 > -1 then ((xs.length : Int) - 1 - -1 - -1 - 1) / (- -1) else 0).toNat = xs.length := by
      split
      · rw [show -(-1 : Int) = 1 by decide, Int.ediv_one]; (first | lia | omega)
      · (first | lia | omega)
    dsimp only
    rw [hc]
    refine List.map_congr_left fun k hk => ?_
    have := List.mem_range.mp hk
    (first | lia | omega)
  rw [hr]
  rw [fm_map (g := fun k => (xs[k]?).getD .none) (fun k hk => by
    obtain ⟨a, ha, rfl⟩ := List.mem_map.mp hk
    have := List.mem_range.mp ha
    have hlt : xs.length - 1 - a < xs.length := by (first | lia | omega)
    rw [List.getElem?_eq_getElem hlt]; rfl)]
  apply List.ext_getElem?
  intro i
  rw [List.getElem?_map, List.getElem?_map]
  by_cases hi : i < xs.length
  · rw [List.getElem?_reverse hi, List.getElem?_range hi]
    have hlt : xs.length - 1 - i < xs.length := by (first | lia | omega)
    simp [List.getElem?_eq_getElem hlt]
  · rw [List.getElem?_eq_none (by simp; (first | lia | omega)), List.getElem?_eq_none (by simp; (first | lia | omega))]; rfl
section
variable {P : Pg} {σ σ' : St} {k m : Nat} {S : Sym} {Q : EQ}
theorem law_list_S (T : Tab1 P) {k : Nat} {items : List Tm} {e : Tm} (h : σ[k]? = some (.list (Tm.pvs items))) (q : ∀ σ', Fr (fun _ => False) σ σ' → Q (listT items e).pv σ') : wpCall P (m + 2) 392 [.obj k, e.pv] σ Q := by
  refine enter T.f392 rfl ?_
  unfold b_392
  (refine r_seq (r_for (i_val (r_primP rfl ?_))); refine' p_slice ?wa ?wb ?wc ?wd ?we ?_; (case wa => rfl); (case wb => rfl); (case wc => rfl); (case wd => assumption); (case we => decide); refine' i_valL ?wa ?_; (case wa => exact get_new); refine a_for ?_)
  rw [slice_rev (Tm.pvs items)]
  skip
  refine for_rule (fun i lm σ' => σ' = σ ++ [.list (Tm.pvs items).reverse] ∧ ∃ a b, items = a ++ b ∧ b.length = i ∧ lm 1 = some (listT b e).pv) ⟨rfl, items, [], by simp, rfl, rfl⟩ (fun i lm σ' h' => h'.1 ▸ get_new) ?_ ?_
  · rintro i y lm σ' K hy ⟨rfl, a, b, rfl, rfl, h2⟩ hK
    rw [Tm.pvs_eq] at hy
    obtain ⟨a', t, rfl, rfl⟩ := rev_at hy
    (refine r_seq (r_assign (r_call (r_econs (r_int (a_cons1 (r_econs (r_var rfl (a_cons1 (r_econs ?_))))))))); refine' r_var ?wa ?_; (case wa => assumption); refine a_cons1 (r_pures rfl (a_cons2 (a_cons2 (a_cons2 (a_call ?_))))))
    refine pair_S T ?_
    refine a_asg (t_var (a_nx (r_seqN (r_skip (r_forN ?_)))))
    exact hK _ _ ⟨rfl, a', t :: b, by simp, by simp, rfl⟩
  · rintro lm σ' ⟨rfl, a, b, rfl, hl, h2⟩
    have : a = [] := by
      simp [Tm.pvs_len] at hl
      cases a with
      | nil => rfl
      | cons _ _ => simp at hl
    subst this
    (refine r_seqN (r_seq (r_ret ?_)); refine' r_var ?wa ?_; (case wa => assumption); refine a_ret (r_seqR (r_retR ?_)))
    exact q _ (Fr.new _)
end
noncomputable def Bd.isP (S : Sym) : Bd → Prop
  | .cmp _ a _ => S.texts[a]? = some "p"
  | .neg b => b.isP S
  | .seq _ l r => l.isP S ∧ r.isP S
  | .alt _ l r => l.isP S ∧ r.isP S
  | _ => True
theorem Bd.isP_le {S S' : Sym} (h : S.le S') : ∀ {b : Bd}, b.isP S → b.isP S'
  | .lst _, x => x | .nil, x => x | .cut, x => x | .atom _, x => x | .curly _, x => x | .var _, x => x
  | .cmp _ _ _, x => le_text h x
  | .neg b, x => Bd.isP_le (b := b) h x
  | .seq _ _ _, x => ⟨Bd.isP_le h x.1, Bd.isP_le h x.2⟩
  | .alt _ _ _, x => ⟨Bd.isP_le h x.1, Bd.isP_le h x.2⟩
theorem Sym.addA_mem {S : Sym} {x : Str} (h : x ∈ S.texts) : S.addA x = S := by unfold Sym.addA; rw [if_pos h]
section
variable {P : Pg} {σ σ' : St} {k m : Nat} {S : Sym} {Q : EQ}
set_option tactic.hygienic true in
theorem called_S (T : Tab1 P) (hb : Bd) (hh : isHead hb) {x y : Tm} (φ : Nat → Int) (c : Nat) (hS : SymAt σ k S) (ok : Sok S) (hok : hb.ok S) (hp : hb.isP S) (q : ∀ S' σ', S.le S' → hb.has S' → SymAt σ' k S' → Sok S' → Fr (symM k) σ σ' → Q (G S' φ hb x y c).pv σ') : wpCall P (m + 4) 432 [.obj k, hb.tm.pv, x.pv, y.pv] σ Q := by
  have hbig2 : (2 : Nat) ≤ big := by decide
  have hbig3 : (3 : Nat) ≤ big := by decide
  have T' : TabP P := T.toTabP
  have ei := hS.i
  refine enter T.f432 rfl ?_
  unfold b_432
  cases hb <;> try exact hh.elim
  · rename_i n
    have hn := hok.2.2
    simp only [Bd.tm, Tm.pv]
    (refine r_seq (r_site (r_te (r_primP rfl (p_eq rfl (r_truB (a_siteT rfl (r_seq (r_ret (r_tup ?_))))))))); refine r_econs (r_str (a_cons1 (r_econs (r_meth (r_var rfl ?_))))); refine' r_methK ?wa ?wb ?wc ?_; (case wa => assumption); (case wb => exact TabP.m10 (by assumption)); (case wc => rfl); refine r_pures rfl (a_meth ?_))
    refine functorS T' hS ok (a := n) (r := 2) (by (first | lia | omega)) fun i σ₁ e s1 o1 F1 => ?_
    (refine a_cons1 (r_pures rfl (a_cons2 (a_cons2 ?_))); refine a_tup ?wa ?_; (case wa => assumption); refine a_ret (r_seqR (r_seqR (r_retR ?_))))
    refine cast_q (q _ σ₁ (S.le_addF n 2) (List.mem_of_getElem? e) s1 o1 F1) ?_
    simp only [G]
    rw [Sym.fn_eq o1 e]
    simp only [Tm.pv, Tm.pvs]
  · rename_i f a args
    have hk := ok.f _ (List.mem_of_getElem? hok.1)
    have hl := hok.2.1
    have hz : (Tm.pvs args).length + [x.pv, y.pv].length ≤ big := by rw [Tm.pvs_len]; show _ + 2 ≤ big; unfold big; (first | lia | omega)
    simp only [Bd.tm, Tm.pv]
    (refine r_seq (r_site (r_te (r_primP rfl (p_eq rfl (r_truB ?_))))); refine a_siteF ?wa ?_; (case wa => decide); refine r_skip (r_seqN (r_seq (r_ret (r_tup (r_econs (r_str (a_cons1 (r_econs (r_meth ?_))))))))); refine r_var rfl ?_; refine' r_methK ?wa ?wb ?wc ?_; (case wa => assumption); (case wb => exact TabP.m11 (by assumption)); (case wc => rfl); refine r_econs (r_str (a_cons1 (r_econs (r_prim2 (r_primP rfl (p_lenT rfl (a_p2 (r_int (a_p2b ?_))))))))); refine p_addI (a_cons1 (r_pures rfl (a_cons2 (a_cons2 (a_meth ?_))))))
    have e2 : (((Tm.pvs args).length : Nat) : Int) + 2 = ((args.length + 2 : Nat) : Int) := by rw [Tm.pvs_len]; push_cast; rfl
    rw [e2]
    refine funcS T' hS ok (x := "p") (by decide +kernel) (by push_cast; (first | lia | omega)) fun a' i σ₁ h1 e s1 o1 F1 => ?_
    have hpm := Sym.addA_mem (List.mem_of_getElem? hp)
    rw [hpm] at h1 e s1 o1
    have ha : a' = a := by
      have x1 := Sym.tn_eq ok h1
      have x2 := Sym.tn_eq ok hp
      (first | lia | omega)
    subst ha
    (refine a_cons1 (r_econs (r_primP rfl ?_)); refine' p_addT ?wa ?wb ?wc ?_; (case wa => rfl); (case wb => rfl); (case wc => assumption); refine a_cons1 (r_pures rfl (a_cons2 (a_cons2 (a_cons2 ?_)))); refine a_tup ?wa ?_; (case wa => assumption); refine a_ret (r_seqR (r_retR ?_)))
    refine cast_q (q _ σ₁ (S.le_addF _ _) (List.mem_of_getElem? e) s1 o1 F1) ?_
    simp only [G]
    rw [Sym.fn_eq o1 e]
    simp only [Tm.pv, Tm.pvs, Tm.pvs_app]
end
noncomputable def WovS (P : Pg) (b : Bd) (m : Nat) : Prop := ∀ {σ : St} {k : Nat} {S : Sym} {kc c : Nat} {x y : Tm} {Q : EQ}, SymAt σ k S → Sok S → S0.le S → b.ok S → b.isP S → σ[kc]? = some (.list [.int (c : Int)]) → k + 4 < kc →
  (∀ S' σ', S.le S' → b.has S' → SymAt σ' k S' → Sok S' → σ'[kc]? = some (.list [.int ((c + b.nv : Nat) : Int)]) → Fr (MM k kc) σ σ' → Q (G S' φo b x y c).pv σ') → wpCall P m 439 [.obj k, b.tm.pv, x.pv, y.pv, .obj kc] σ Q
section
variable {P : Pg} {σ σ' : St} {k m : Nat} {S : Sym} {Q : EQ}
theorem kc_sym {kc : Nat} {o : AObj} (h : σ[kc]? = some o) (F : Fr (symM k) σ σ') (h1 : k + 4 < kc) : σ'[kc]? = some o := F.at' _ _ h (by unfold symM; (first | lia | omega))

theorem wov_var (T : Tab1 P) (n : Int) : WovS P (.var n) (m + 5) := by
  intro σ k S kc c x y Q hS ok h0 hb hp hc h1 q
  have T' : TabP P := T.toTabP
  have hbig3 : (3 : Nat) ≤ big := by decide
  have ei := hS.i
  refine enter T.f439 rfl ?_
  unfold b_439
  simp only [Bd.tm, Tm.pv]
  refine r_seq (r_assign (r_callP rfl ?_))
  refine pair_S T ?_
  (refine a_asg (t_var (a_nx (r_seqN (r_seq (r_site (r_te (r_primP rfl (p_eq rfl (r_truB ?_))))))))); refine a_siteT rfl (r_seq (r_ret (r_tup (r_econs (r_str (a_cons1 (r_econs (r_meth (r_var rfl ?_))))))))); refine' r_methK ?wa ?wb ?wc ?_; (case wa => assumption); (case wb => exact TabP.m11 (by assumption)); (case wc => rfl); refine r_pures rfl (a_meth ?_))
  refine funcS T' hS ok (by decide +kernel) (by (first | lia | omega)) fun a i σ₁ e1 e2 s1 o1 F1 => ?_
  (refine a_cons1 (r_pures rfl (a_cons2 (a_cons2 ?_))); refine a_tup ?wa ?_; (case wa => assumption); refine a_ret (r_seqR (r_seqR (r_retR ?_))))
  have ha := Sym.tn_eq (S := (S.addA "phrase").addF a 3) o1 (le_text (Sym.le_addF _ _ _) e1)
  have hi := Sym.fn_eq o1 e2
  refine cast_q (q _ σ₁ ((S.le_addA _).trans (Sym.le_addF _ a 3)) ⟨List.mem_of_getElem? (le_text (Sym.le_addF _ _ _) e1), by rw [ha]; exact List.mem_of_getElem? e2⟩ s1 o1 (kc_sym hc F1 h1) (fr_sym F1)) ?_
  simp only [G]
  rw [ha, hi]
  simp only [Tm.pv, Tm.pvs]
theorem wov_nil (T : Tab1 P) : WovS P .nil (m + 5) := by
  intro σ k S kc c x y Q hS ok h0 hb hp hc h1 q
  have hbig2 : (2 : Nat) ≤ big := by decide
  have ei := hS.i
  refine enter T.f439 rfl ?_
  unfold b_439
  simp only [Bd.tm, Tm.pv]
  refine r_seq (r_assign (r_callP rfl ?_))
  refine pair_S T ?_
  (refine a_asg (t_var (a_nx (r_seqN (r_seq (r_site (r_te (r_primP rfl (p_eq rfl (r_truB ?_))))))))); refine a_siteF ?wa ?_; (case wa => decide); refine r_skip (r_seqN (r_seq (r_site (r_te (r_primP rfl (p_eq rfl (r_truB (a_siteT rfl (r_seq ?_))))))))); refine r_ret (r_var rfl (a_ret (r_seqR (r_seqR (r_retR ?_))))))
  exact q S σ S.le_refl trivial hS ok hc Fr.refl
theorem wov_cut (T : Tab1 P) : WovS P .cut (m + 5) := by
  intro σ k S kc c x y Q hS ok h0 hb hp hc h1 q
  have hbig2 : (2 : Nat) ≤ big := by decide
  have ei := hS.i
  refine enter T.f439 rfl ?_
  unfold b_439
  simp only [Bd.tm, Tm.pv]
  refine r_seq (r_assign (r_callP rfl ?_))
  refine pair_S T ?_
  (refine a_asg (t_var (a_nx (r_seqN (r_seq (r_site (r_te (r_primP rfl (p_eq rfl (r_truB ?_))))))))); refine a_siteF ?wa ?_; (case wa => decide); refine r_skip (r_seqN (r_seq (r_site (r_te (r_primP rfl (p_eq rfl (r_truB ?_))))))); refine a_siteF ?wa ?_; (case wa => decide); refine r_skip (r_seqN (r_seq (r_site (r_te (r_primP rfl (p_eq rfl (r_truB (a_siteT rfl (r_seq ?_))))))))); refine r_ret (r_callP rfl ?_))
  refine pair_S T (x := .a 15) (y := .s 10 [x, y]) ?_
  refine a_ret (r_seqR (r_seqR (r_retR ?_)))
  exact q S σ S.le_refl trivial hS ok hc Fr.refl
theorem eq_atom (σ : St) (n m : Int) (h : ¬ n = m) : eqS σ (.tup [.str "a", .int n]) (.tup [.str "a", .int m]) = some false := by
  show some (decide (("a" : Str) = "a") && (decide (n = m) && true)) = some false
  rw [decide_eq_false h]; simp
theorem wov_atom (T : Tab1 P) (n : Nat) : WovS P (.atom n) (m + 5) := by
  intro σ k S kc c x y Q hS ok h0 hb hp hc h1 q
  have hbig2 : (2 : Nat) ≤ big := by decide
  have ei := hS.i
  obtain ⟨n0, n15, n40⟩ := id hb
  have q0 := eq_atom σ n 0 (by (first | lia | omega))
  have q15 := eq_atom σ n 15 (by (first | lia | omega))
  refine enter T.f439 rfl ?_
  unfold b_439
  simp only [Bd.tm, Tm.pv]
  refine r_seq (r_assign (r_callP rfl ?_))
  refine pair_S T ?_
  (refine a_asg (t_var (a_nx (r_seqN (r_seq (r_site (r_te (r_primP rfl (p_eq rfl (r_truB ?_))))))))); refine a_siteF ?wa ?_; (case wa => decide); refine r_skip (r_seqN (r_seq (r_site (r_te (r_primP rfl ?_))))); refine' p_eq ?wa ?_; (case wa => with_reducible assumption); refine r_truB ?_; refine a_siteF ?wa ?_; (case wa => decide); refine r_skip (r_seqN (r_seq (r_site (r_te (r_primP rfl ?_))))); refine' p_eq ?wa ?_; (case wa => with_reducible assumption); refine r_truB ?_; refine a_siteF ?wa ?_; (case wa => decide); refine r_skip (r_seqN (r_seq (r_site (r_te (r_primP rfl (p_eq rfl (r_truB (a_siteT rfl (r_seq ?_))))))))); refine r_ret (r_callP rfl ?_))
  refine called_S (m := m) T (.atom n) trivial φo c hS ok hb hp fun S' σ₁ l hh s1 o1 F1 => ?_
  refine a_ret (r_seqR (r_seqR (r_retR ?_)))
  exact q S' σ₁ l hh s1 o1 (kc_sym hc F1 h1) (fr_sym F1)
end
section
variable {P : Pg} {σ σ' : St} {k m : Nat} {S : Sym} {Q : EQ}
theorem set_c {kc c : Nat} (h : σ[kc]? = some (.list [.int (c : Int)])) : (σ.set kc (.list [.int ((c + 1 : Nat) : Int)]))[kc]? = some (.list [.int ((c + 1 : Nat) : Int)]) := get_set_eq h
theorem wov_lst (T : Tab1 P) (items : List Tm) : WovS P (.lst items) (m + 5) := by
  intro σ k S kc c x y Q hS ok h0 hb hp hc h1 q
  have hbig2 : (2 : Nat) ≤ big := by decide
  have hbig0 : (0 : Nat) ≤ big := by decide
  obtain ⟨hn, t, r, hi⟩ := hb
  refine enter T.f439 rfl ?_
  unfold b_439
  have e : (Bd.lst items).tm.pv = .tup [.str "s", .int 0, .tup [t.pv, (listT r (.a 0)).pv]] := by rw [hi]; rfl
  rw [e]
  refine r_seq (r_assign (r_callP rfl ?_))
  refine pair_S T ?_
  (refine a_asg (t_var (a_nx (r_seqN (r_seq (r_site (r_te (r_primP rfl (p_eq rfl (r_truB ?_))))))))); refine a_siteF ?wa ?_; (case wa => decide); refine r_skip (r_seqN (r_seq (r_site (r_te (r_primP rfl (p_eq rfl (r_truB ?_))))))); refine a_siteF ?wa ?_; (case wa => decide); refine r_skip (r_seqN (r_seq (r_site (r_te (r_primP rfl (p_eq rfl (r_truB ?_))))))); refine a_siteF ?wa ?_; (case wa => decide); refine r_skip (r_seqN (r_seq (r_site (r_te (r_primP rfl (p_eq rfl (r_truB ?_))))))); refine a_siteF ?wa ?_; (case wa => decide); refine r_skip (r_seqN (r_seq (r_assign (r_pure rfl (a_asg (t_var (a_nx (r_seqN (r_seq ?_))))))))); refine r_site (r_te (r_primP rfl (p_eq rfl (r_truB (a_siteT rfl (r_seq (r_assign (r_list (r_pures rfl ?_))))))))); refine a_list ?wa ?_; (case wa => assumption); refine a_asg (t_var (a_nx (r_seqN (r_seq (r_loop ?_))))))
  refine loop_rule (fun n lm σ' => ∃ a b, items = a ++ b ∧ n = b.length ∧ lm 1 = some (listT b (.a 0)).pv ∧ lm 2 = some x.pv ∧ lm 3 = some y.pv ∧ lm 7 = some (.obj σ.length) ∧ Fr (fun _ => False) σ σ' ∧ σ'[σ.length]? = some (.list (Tm.pvs a)) ∧ a.length ≤ 1000)
    ⟨_, [], items, rfl, rfl, by rw [hi]; rfl, rfl, rfl, rfl, Fr.new _, get_new, by simp⟩ ?_
  rintro n lm σ' ⟨a, b, hab, rfl, l1, l2, l3, l7, F, hl, hs⟩
  cases b with
  | nil =>
    have l1 : lm 1 = some (.tup [.str "a", .int 0]) := l1
    rw [List.append_nil] at hab
    rw [← hab] at hl
    (refine r_te (r_prim2 (r_prim2 ?_)); refine' r_var ?wa ?_; (case wa => assumption); refine a_p2 (r_int (a_p2b (p_idxT rfl rfl (a_p2 (r_str (a_p2b (p_eq rfl (r_truB ?_)))))))); refine a_loopF ?wa ?_; (case wa => decide); refine r_seqN (r_seq (r_ret (r_call (r_econs (r_int (a_cons1 (r_econs ?_))))))); refine' r_var ?wa ?_; (case wa => assumption); refine a_cons1 (r_econs (r_call (r_econs ?_))); refine' r_var ?wa ?_; (case wa => assumption); refine a_cons1 (r_econs ?_); refine' r_var ?wa ?_; (case wa => assumption); refine a_cons1 (r_pures rfl (a_cons2 (a_cons2 (a_call ?_)))))
    refine law_list_S (m := m + 2) T hl fun σ₂ F2 => ?_
    refine a_cons1 (r_pures rfl (a_cons2 (a_cons2 (a_cons2 (a_call ?_)))))
    refine pair_S T ?_
    refine a_ret (r_seqR (r_seqR (r_retR ?_)))
    exact q S σ₂ S.le_refl trivial ((sym_no hS (F.trans F2))) ok ((F.trans F2).at' _ _ hc id) (fr_no (F.trans F2))
  | cons t b =>
    have l1 : lm 1 = some (.tup [.str "s", .int 0, .tup [t.pv, (listT b (.a 0)).pv]]) := l1
    have hlen : (Tm.pvs a).length < big := by rw [Tm.pvs_len]; unfold big; (first | lia | omega)
    (refine r_te (r_prim2 (r_prim2 ?_)); refine' r_var ?wa ?_; (case wa => assumption); refine a_p2 (r_int (a_p2b (p_idxT rfl rfl (a_p2 (r_str (a_p2b (p_eq rfl (r_truB (a_loopT rfl ?_))))))))); refine r_seq (r_expr (r_bm ?_)); refine' r_var ?wa ?_; (case wa => assumption); refine a_bm ?wa ?_; (case wa => (refine' bmOk_list ?wz (by intro e; cases e); (case wz => assumption))); refine r_econs (r_prim2 (r_prim2 ?_)); refine' r_var ?wa ?_; (case wa => assumption); refine a_p2 (r_int (a_p2b (p_idxT rfl rfl (a_p2 (r_int (a_p2b (p_idxT rfl rfl (a_cons1 (r_pures rfl ?_))))))))); refine a_cons2 (a_bm2 ?_); refine' b_append ?wa ?wb ?_; (case wa => assumption); (case wb => assumption); refine a_exp (r_seqN (r_seq (r_assign (r_prim2 (r_prim2 ?_))))); refine' r_var ?wa ?_; (case wa => assumption); refine a_p2 (r_int (a_p2b (p_idxT rfl rfl (a_p2 (r_int (a_p2b (p_idxT rfl rfl (a_asg (t_var ?_))))))))); refine a_nx (r_seqN (r_skip (r_loopN ?_))))
    refine ⟨b.length, by simp, a ++ [t], b, by rw [hab]; simp, rfl, rfl, l2, l3, l7, F.setNew (Nat.le_refl _), ?_, ?_⟩
    · rw [Tm.pvs_app]; exact get_set_eq (by assumption)
    · have : items.length ≤ 1000 := hn
      rw [hab] at this
      simp at this ⊢; (first | lia | omega)
theorem wov_curly (T : Tab1 P) (g : Tm) : WovS P (.curly g) (m + 5) := by
  intro σ k S kc c x y Q hS ok h0 hb hp hc h1 q
  have hbig2 : (2 : Nat) ≤ big := by decide
  refine enter T.f439 rfl ?_
  unfold b_439
  simp only [Bd.tm, Tm.pv, Tm.pvs]
  refine r_seq (r_assign (r_callP rfl ?_))
  refine pair_S T ?_
  (refine a_asg (t_var (a_nx (r_seqN (r_seq (r_site (r_te (r_primP rfl (p_eq rfl (r_truB ?_))))))))); refine a_siteF ?wa ?_; (case wa => decide); refine r_skip (r_seqN (r_seq (r_site (r_te (r_primP rfl (p_eq rfl (r_truB ?_))))))); refine a_siteF ?wa ?_; (case wa => decide); refine r_skip (r_seqN (r_seq (r_site (r_te (r_primP rfl (p_eq rfl (r_truB ?_))))))); refine a_siteF ?wa ?_; (case wa => decide); refine r_skip (r_seqN (r_seq (r_site (r_te (r_primP rfl (p_eq rfl (r_truB ?_))))))); refine a_siteF ?wa ?_; (case wa => decide); refine r_skip (r_seqN (r_seq (r_assign (r_pure rfl (a_asg (t_var (a_nx (r_seqN (r_seq ?_))))))))); refine r_site (r_te (r_primP rfl (p_eq rfl (r_truB ?_)))); refine a_siteF ?wa ?_; (case wa => decide); refine r_skip (r_seqN (r_seq (r_site (r_te (r_primP rfl (p_eq rfl (r_truB (a_siteT rfl (r_seq ?_))))))))); refine r_ret (r_callP rfl ?_))
  refine pair_S T (x := g) (y := .s 10 [x, y]) ?_
  refine a_ret (r_seqR (r_seqR (r_retR ?_)))
  exact q S σ S.le_refl trivial hS ok hc Fr.refl
theorem wov_cmp (T : Tab1 P) (f a : Nat) (args : List Tm) : WovS P (.cmp f a args) (m + 5) := by
  intro σ k S kc c x y Q hS ok h0 hb hp hc h1 q
  have hbig2 : (2 : Nat) ≤ big := by decide
  have T' : TabP P := T.toTabP
  have ei := hS.i
  obtain ⟨hf, hl, hge, ha⟩ := id hb
  have f0 : ¬ (f : Int) = 0 := by (first | lia | omega)
  have f1 : ¬ (f : Int) = 1 := by (first | lia | omega)
  have f2 : ¬ (f : Int) = 2 := by (first | lia | omega)
  have f3 : ¬ (f : Int) = 3 := by (first | lia | omega)
  have f4 : ¬ (f : Int) = 4 := by (first | lia | omega)
  have f9 : ¬ (f : Int) = 9 := by (first | lia | omega)
  refine enter T.f439 rfl ?_
  unfold b_439
  have e : (Bd.cmp f a args).tm.pv = .tup [.str "s", .int f, .tup (Tm.pvs args)] := by simp only [Bd.tm, Tm.pv]
  rw [e]
  refine r_seq (r_assign (r_callP rfl ?_))
  refine pair_S T ?_
  (refine a_asg (t_var (a_nx (r_seqN (r_seq (r_site (r_te (r_primP rfl (p_eq rfl (r_truB ?_))))))))); refine a_siteF ?wa ?_; (case wa => decide); refine r_skip (r_seqN (r_seq (r_site (r_te (r_primP rfl (p_eq rfl (r_truB ?_))))))); refine a_siteF ?wa ?_; (case wa => (simp only [decide_eq_true_eq, decide_eq_false_iff_not, Bool.not_eq_true, Bool.not_eq_true', Bool.not_eq_false, Bool.not_eq_false', decide_not, Bool.not_not, Bool.and_false, Bool.false_and, Bool.or_false, Bool.false_or, Bool.true_and, Bool.and_true, Bool.false_eq_true, Bool.and_eq_true, Bool.or_eq_true, not_true_eq_false, not_false_eq_true]; done)); refine r_skip (r_seqN (r_seq (r_site (r_te (r_primP rfl (p_eq rfl (r_truB ?_))))))); refine a_siteF ?wa ?_; (case wa => (simp only [decide_eq_true_eq, decide_eq_false_iff_not, Bool.not_eq_true, Bool.not_eq_true', Bool.not_eq_false, Bool.not_eq_false', decide_not, Bool.not_not, Bool.and_false, Bool.false_and, Bool.or_false, Bool.false_or, Bool.true_and, Bool.and_true, Bool.false_eq_true, Bool.and_eq_true, Bool.or_eq_true, not_true_eq_false, not_false_eq_true]; done)); refine r_skip (r_seqN (r_seq (r_site (r_te (r_primP rfl (p_eq rfl (r_truB ?_))))))); refine a_siteF ?wa ?_; (case wa => decide); refine r_skip (r_seqN (r_seq (r_assign (r_pure rfl (a_asg (t_var (a_nx (r_seqN (r_seq ?_))))))))); refine r_site (r_te (r_primP rfl (p_eq rfl (r_truB ?_)))); refine a_siteF ?wa ?_; (case wa => (simp only [decide_eq_true_eq, decide_eq_false_iff_not, Bool.not_eq_true, Bool.not_eq_true', Bool.not_eq_false, Bool.not_eq_false', decide_not, Bool.not_not, Bool.and_false, Bool.false_and, Bool.or_false, Bool.false_or, Bool.true_and, Bool.and_true, Bool.false_eq_true, Bool.and_eq_true, Bool.or_eq_true, not_true_eq_false, not_false_eq_true]; assumption)); refine r_skip (r_seqN (r_seq (r_site (r_te (r_primP rfl (p_eq rfl (r_truB ?_))))))); refine a_siteF ?wa ?_; (case wa => (simp only [decide_eq_true_eq, decide_eq_false_iff_not, Bool.not_eq_true, Bool.not_eq_true', Bool.not_eq_false, Bool.not_eq_false', decide_not, Bool.not_not, Bool.and_false, Bool.false_and, Bool.or_false, Bool.false_or, Bool.true_and, Bool.and_true, Bool.false_eq_true, Bool.and_eq_true, Bool.or_eq_true, not_true_eq_false, not_false_eq_true]; assumption)); refine r_skip (r_seqN (r_seq (r_site (r_te (r_primP rfl (p_eq rfl (r_truB ?_))))))); refine a_siteF ?wa ?_; (case wa => (simp only [decide_eq_true_eq, decide_eq_false_iff_not, Bool.not_eq_true, Bool.not_eq_true', Bool.not_eq_false, Bool.not_eq_false', decide_not, Bool.not_not, Bool.and_false, Bool.false_and, Bool.or_false, Bool.false_or, Bool.true_and, Bool.and_true, Bool.false_eq_true, Bool.and_eq_true, Bool.or_eq_true, not_true_eq_false, not_false_eq_true]; assumption)); refine r_skip (r_seqN (r_seq (r_site (r_tor (r_te (r_primP rfl (p_eq rfl (r_truB ?_)))))))); refine a_orF ?wa ?_; (case wa => (simp only [decide_eq_true_eq, decide_eq_false_iff_not, Bool.not_eq_true, Bool.not_eq_true', Bool.not_eq_false, Bool.not_eq_false', decide_not, Bool.not_not, Bool.and_false, Bool.false_and, Bool.or_false, Bool.false_or, Bool.true_and, Bool.and_true, Bool.false_eq_true, Bool.and_eq_true, Bool.or_eq_true, not_true_eq_false, not_false_eq_true]; assumption)); refine r_te (r_primP rfl (p_eq rfl (r_truB ?_))); refine a_siteF ?wa ?_; (case wa => (simp only [decide_eq_true_eq, decide_eq_false_iff_not, Bool.not_eq_true, Bool.not_eq_true', Bool.not_eq_false, Bool.not_eq_false', decide_not, Bool.not_not, Bool.and_false, Bool.false_and, Bool.or_false, Bool.false_or, Bool.true_and, Bool.and_true, Bool.false_eq_true, Bool.and_eq_true, Bool.or_eq_true, not_true_eq_false, not_false_eq_true]; assumption)); refine r_skip (r_seqN (r_seq (r_site (r_tor (r_te (r_primP rfl (p_eq rfl (r_truB ?_)))))))); refine a_orF ?wa ?_; (case wa => (simp only [decide_eq_true_eq, decide_eq_false_iff_not, Bool.not_eq_true, Bool.not_eq_true', Bool.not_eq_false, Bool.not_eq_false', decide_not, Bool.not_not, Bool.and_false, Bool.false_and, Bool.or_false, Bool.false_or, Bool.true_and, Bool.and_true, Bool.false_eq_true, Bool.and_eq_true, Bool.or_eq_true, not_true_eq_false, not_false_eq_true]; assumption)); refine r_te (r_prim2 (r_var rfl (a_p2 (r_meth (r_var rfl ?_))))); refine' r_methK ?wa ?wb ?wc ?_; (case wa => assumption); (case wb => exact TabP.m10 (by assumption)); (case wc => rfl); refine r_pures rfl (a_meth ?_))
  refine functorS T.toTabP hS ok (a := 8) (r := 2) (by (first | lia | omega)) fun i σ₁ e1 s1 o1 F1 => ?_
  have hf' := le_fun (S.le_addF 8 2) hf
  have fi : ¬ ((f : Int) = (i : Int)) := by
    intro q
    have : f = i := by (first | lia | omega)
    subst this
    rw [hf'] at e1
    injection e1 with e1; injection e1 with e1 _
    exact ha (by (first | lia | omega))
  (refine a_p2b (p_eq rfl (r_truB ?_)); refine a_siteF ?wa ?_; (case wa => (simp only [decide_eq_true_eq, decide_eq_false_iff_not, Bool.not_eq_true, Bool.not_eq_true', Bool.not_eq_false, Bool.not_eq_false', decide_not, Bool.not_not, Bool.and_false, Bool.false_and, Bool.or_false, Bool.false_or, Bool.true_and, Bool.and_true, Bool.false_eq_true, Bool.and_eq_true, Bool.or_eq_true, not_true_eq_false, not_false_eq_true]; assumption)); refine r_skip (r_seqN (r_seq (r_ret (r_callP rfl ?_)))))
  rw [← e]
  have l := S.le_addF 8 2
  refine called_S (m := m) T (.cmp f a args) trivial φo c s1 o1 (Bd.ok_le (b := .cmp f a args) l hb) (Bd.isP_le (b := .cmp f a args) l hp) fun S' σ₂ l2 hh s2 o2 F2 => ?_
  refine a_ret (r_seqR (r_retR ?_))
  exact q S' σ₂ (l.trans l2) hh s2 o2 (kc_sym (kc_sym hc F1 h1) F2 h1) ((fr_sym F1).trans (fr_sym F2))
theorem wov_neg (T : Tab1 P) (b : Bd) (IH : WovS P b (m + 4)) : WovS P (.neg b) (m + 5) := by
  intro σ k S kc c x y Q hS ok h0 hb hp hc h1 q
  have hbig1 : (1 : Nat) ≤ big := by decide
  have hbig2 : (2 : Nat) ≤ big := by decide
  have hbig3 : (3 : Nat) ≤ big := by decide
  refine enter T.f439 rfl ?_
  unfold b_439
  simp only [Bd.tm, Tm.pv, Tm.pvs]
  refine r_seq (r_assign (r_callP rfl ?_))
  refine pair_S T ?_
  (refine a_asg (t_var (a_nx (r_seqN (r_seq (r_site (r_te (r_primP rfl (p_eq rfl (r_truB ?_))))))))); refine a_siteF ?wa ?_; (case wa => decide); refine r_skip (r_seqN (r_seq (r_site (r_te (r_primP rfl (p_eq rfl (r_truB ?_))))))); refine a_siteF ?wa ?_; (case wa => decide); refine r_skip (r_seqN (r_seq (r_site (r_te (r_primP rfl (p_eq rfl (r_truB ?_))))))); refine a_siteF ?wa ?_; (case wa => decide); refine r_skip (r_seqN (r_seq (r_site (r_te (r_primP rfl (p_eq rfl (r_truB ?_))))))); refine a_siteF ?wa ?_; (case wa => decide); refine r_skip (r_seqN (r_seq (r_assign (r_pure rfl (a_asg (t_var (a_nx (r_seqN (r_seq ?_))))))))); refine r_site (r_te (r_primP rfl (p_eq rfl (r_truB ?_)))); refine a_siteF ?wa ?_; (case wa => decide); refine r_skip (r_seqN (r_seq (r_site (r_te (r_primP rfl (p_eq rfl (r_truB ?_))))))); refine a_siteF ?wa ?_; (case wa => decide); refine r_skip (r_seqN (r_seq (r_site (r_te (r_primP rfl (p_eq rfl (r_truB (a_siteT rfl (r_seq ?_))))))))); refine r_assign (r_call (r_econs (r_var rfl (a_cons1 (r_econs (r_pure rfl (a_cons1 (r_econs (r_var rfl ?_))))))))); refine a_cons1 (r_econs (r_callP rfl ?_)))
  refine new_S T hc ?_
  have F1 : Fr (fun j => j = kc) σ (σ.set kc (.list [.int ((c + 1 : Nat) : Int)])) := Fr.set rfl
  refine a_cons1 (r_pures rfl (a_cons2 (a_cons2 (a_cons2 (a_cons2 (a_call ?_))))))
  refine IH (y := .v (φo c)) (c := c + 1) (sym_kf hS F1 h1) ok h0 hb hp (set_c hc) h1 fun S' σ₂ l hh s2 o2 c2 F2 => ?_
  refine a_asg (t_var (a_nx (r_seqN (r_seq (r_ret (r_callP rfl ?_))))))
  refine pair_S T (x := .s 4 [G S' φo b x (.v (φo c)) (c + 1)]) (y := .s 10 [x, y]) ?_
  refine a_ret (r_seqR (r_seqR (r_retR ?_)))
  have e : c + 1 + b.nv = c + (Bd.neg b).nv := by simp [Bd.nv]; (first | lia | omega)
  exact q S' σ₂ l hh s2 o2 (e ▸ c2) ((fr_kf F1).trans F2)
theorem wov_seq (T : Tab1 P) (f : Int) (a b : Bd) (IA : WovS P a (m + 4)) (IB : WovS P b (m + 4)) : WovS P (.seq f a b) (m + 5) := by
  intro σ k S kc c x y Q hS ok h0 hb hp hc h1 q
  have hbig2 : (2 : Nat) ≤ big := by decide
  have F1 : Fr (fun j => j = kc) σ (σ.set kc (.list [.int ((c + 1 : Nat) : Int)])) := Fr.set rfl
  refine enter T.f439 rfl ?_
  unfold b_439
  simp only [Bd.tm, Tm.pv, Tm.pvs]
  obtain ⟨hf, ha, hb⟩ := hb
  rcases hf with rfl | rfl
  all_goals
    refine r_seq (r_assign (r_callP rfl ?_))
    refine pair_S T ?_
    (first | (refine a_asg (t_var (a_nx (r_seqN (r_seq (r_site (r_te (r_primP rfl (p_eq rfl (r_truB ?_))))))))); refine a_siteF ?wa ?_; (case wa => decide); refine r_skip (r_seqN (r_seq (r_site (r_te (r_primP rfl (p_eq rfl (r_truB ?_))))))); refine a_siteF ?wa ?_; (case wa => decide); refine r_skip (r_seqN (r_seq (r_site (r_te (r_primP rfl (p_eq rfl (r_truB ?_))))))); refine a_siteF ?wa ?_; (case wa => decide); refine r_skip (r_seqN (r_seq (r_site (r_te (r_primP rfl (p_eq rfl (r_truB ?_))))))); refine a_siteF ?wa ?_; (case wa => decide); refine r_skip (r_seqN (r_seq (r_assign (r_pure rfl (a_asg (t_var (a_nx (r_seqN (r_seq ?_))))))))); refine r_site (r_te (r_primP rfl (p_eq rfl (r_truB ?_)))); refine a_siteF ?wa ?_; (case wa => decide); refine r_skip (r_seqN (r_seq (r_site (r_te (r_primP rfl (p_eq rfl (r_truB ?_))))))); refine a_siteF ?wa ?_; (case wa => decide); refine r_skip (r_seqN (r_seq (r_site (r_te (r_primP rfl (p_eq rfl (r_truB ?_))))))); refine a_siteF ?wa ?_; (case wa => decide); refine r_skip (r_seqN (r_seq (r_site (r_tor (r_te (r_primP rfl (p_eq rfl (r_truB (a_orT rfl ?_))))))))); refine a_siteT rfl (r_seq (r_assign (r_callP rfl ?_)))) | (refine a_asg (t_var (a_nx (r_seqN (r_seq (r_site (r_te (r_primP rfl (p_eq rfl (r_truB ?_))))))))); refine a_siteF ?wa ?_; (case wa => decide); refine r_skip (r_seqN (r_seq (r_site (r_te (r_primP rfl (p_eq rfl (r_truB ?_))))))); refine a_siteF ?wa ?_; (case wa => decide); refine r_skip (r_seqN (r_seq (r_site (r_te (r_primP rfl (p_eq rfl (r_truB ?_))))))); refine a_siteF ?wa ?_; (case wa => decide); refine r_skip (r_seqN (r_seq (r_site (r_te (r_primP rfl (p_eq rfl (r_truB ?_))))))); refine a_siteF ?wa ?_; (case wa => decide); refine r_skip (r_seqN (r_seq (r_assign (r_pure rfl (a_asg (t_var (a_nx (r_seqN (r_seq ?_))))))))); refine r_site (r_te (r_primP rfl (p_eq rfl (r_truB ?_)))); refine a_siteF ?wa ?_; (case wa => decide); refine r_skip (r_seqN (r_seq (r_site (r_te (r_primP rfl (p_eq rfl (r_truB ?_))))))); refine a_siteF ?wa ?_; (case wa => decide); refine r_skip (r_seqN (r_seq (r_site (r_te (r_primP rfl (p_eq rfl (r_truB ?_))))))); refine a_siteF ?wa ?_; (case wa => decide); refine r_skip (r_seqN (r_seq (r_site (r_tor (r_te (r_primP rfl (p_eq rfl (r_truB ?_)))))))); refine a_orF ?wa ?_; (case wa => decide); refine r_te (r_primP rfl (p_eq rfl (r_truB (a_siteT rfl (r_seq (r_assign (r_callP rfl ?_)))))))))
    refine new_S T hc ?_
    refine a_asg (t_var (a_nx (r_seqN (r_seq (r_assign (r_callP rfl ?_))))))
    refine IA (y := .v (φo c)) (c := c + 1) (sym_kf hS F1 h1) ok h0 ha hp.1 (set_c hc) h1 fun S' σ₂ l hh s2 o2 c2 F2 => ?_
    (refine a_asg (t_var (a_nx (r_seqN (r_seq (r_ret (r_call (r_econs (r_var rfl (a_cons1 ?_))))))))); refine r_econs (r_var rfl (a_cons1 (r_econs (r_callP rfl ?_)))))
    refine IB (x := .v (φo c)) (c := c + 1 + a.nv) s2 o2 (h0.trans l) (Bd.ok_le l hb) (Bd.isP_le l hp.2) c2 h1 fun S'' σ₃ l2 hh2 s3 o3 c3 F3 => ?_
    refine a_cons1 (r_pures rfl (a_cons2 (a_cons2 (a_cons2 (a_call ?_)))))
    refine pair_S T ?_
    refine a_ret (r_seqR (r_seqR (r_retR ?_)))
    have e : c + 1 + a.nv + b.nv = c + (1 + a.nv + b.nv) := by (first | lia | omega)
    rw [e] at c3
    refine cast_q (q S'' σ₃ (l.trans l2) ⟨Bd.has_le o2 o3 l2 hh, hh2⟩ s3 o3 c3 (((fr_kf F1).trans F2).trans F3)) ?_
    simp only [G]
    rw [G_le o2 o3 l2 _ hh]
theorem wov_alt (T : Tab1 P) (f : Int) (a b : Bd) (IA : WovS P a (m + 4)) (IB : WovS P b (m + 4)) : WovS P (.alt f a b) (m + 5) := by
  intro σ k S kc c x y Q hS ok h0 hb hp hc h1 q
  have hbig2 : (2 : Nat) ≤ big := by decide
  have T' : TabP P := T.toTabP
  have ei := hS.i
  refine enter T.f439 rfl ?_
  unfold b_439
  simp only [Bd.tm, Tm.pv, Tm.pvs]
  obtain ⟨hf, ha, hb⟩ := hb
  have fin : ∀ {S₁ : Sym} {σ₁ : St} {Q' : EQ}, S.le S₁ → SymAt σ₁ k S₁ → Sok S₁ → σ₁[kc]? = some (.list [.int (c : Int)]) → (∀ S' σ' , S₁.le S' → a.has S' → SymAt σ' k S' → Sok S' → σ'[kc]? = some (.list [.int ((c + a.nv : Nat) : Int)]) → Fr (MM k kc) σ₁ σ' → Q' (G S' φo a x y c).pv σ') → wpCall P (m + 4) 439 [.obj k, a.tm.pv, x.pv, y.pv, .obj kc] σ₁ Q' :=
    fun l s o c q' => IA s o (h0.trans l) (Bd.ok_le l ha) (Bd.isP_le l hp.1) c h1 q'
  have fin2 : ∀ {S₁ : Sym} {σ₁ : St} {Q' : EQ}, S.le S₁ → SymAt σ₁ k S₁ → Sok S₁ → σ₁[kc]? = some (.list [.int ((c + a.nv : Nat) : Int)]) → (∀ S' σ' , S₁.le S' → b.has S' → SymAt σ' k S' → Sok S' → σ'[kc]? = some (.list [.int ((c + a.nv + b.nv : Nat) : Int)]) → Fr (MM k kc) σ₁ σ' → Q' (G S' φo b x y (c + a.nv)).pv σ') → wpCall P (m + 4) 439 [.obj k, b.tm.pv, x.pv, y.pv, .obj kc] σ₁ Q' :=
    fun l s o c q' => IB s o (h0.trans l) (Bd.ok_le l hb) (Bd.isP_le l hp.2) c h1 q'
  have e : c + a.nv + b.nv = c + (Bd.alt f a b).nv := by simp [Bd.nv]; (first | lia | omega)
  rcases hf with rfl | ⟨j, rfl, hj, ej⟩
  · refine r_seq (r_assign (r_callP rfl ?_))
    refine pair_S T ?_
    (refine a_asg (t_var (a_nx (r_seqN (r_seq (r_site (r_te (r_primP rfl (p_eq rfl (r_truB ?_))))))))); refine a_siteF ?wa ?_; (case wa => decide); refine r_skip (r_seqN (r_seq (r_site (r_te (r_primP rfl (p_eq rfl (r_truB ?_))))))); refine a_siteF ?wa ?_; (case wa => decide); refine r_skip (r_seqN (r_seq (r_site (r_te (r_primP rfl (p_eq rfl (r_truB ?_))))))); refine a_siteF ?wa ?_; (case wa => decide); refine r_skip (r_seqN (r_seq (r_site (r_te (r_primP rfl (p_eq rfl (r_truB ?_))))))); refine a_siteF ?wa ?_; (case wa => decide); refine r_skip (r_seqN (r_seq (r_assign (r_pure rfl (a_asg (t_var (a_nx (r_seqN (r_seq ?_))))))))); refine r_site (r_te (r_primP rfl (p_eq rfl (r_truB ?_)))); refine a_siteF ?wa ?_; (case wa => decide); refine r_skip (r_seqN (r_seq (r_site (r_te (r_primP rfl (p_eq rfl (r_truB ?_))))))); refine a_siteF ?wa ?_; (case wa => decide); refine r_skip (r_seqN (r_seq (r_site (r_te (r_primP rfl (p_eq rfl (r_truB ?_))))))); refine a_siteF ?wa ?_; (case wa => decide); refine r_skip (r_seqN (r_seq (r_site (r_tor (r_te (r_primP rfl (p_eq rfl (r_truB ?_)))))))); refine a_orF ?wa ?_; (case wa => decide); refine r_te (r_primP rfl (p_eq rfl (r_truB ?_))); refine a_siteF ?wa ?_; (case wa => decide); refine r_skip (r_seqN (r_seq (r_site (r_tor (r_te (r_primP rfl (p_eq rfl (r_truB (a_orT rfl ?_))))))))); refine a_siteT rfl (r_seq (r_assign (r_callP rfl ?_))))
    refine fin S.le_refl hS ok hc fun S' σ₂ l hh s2 o2 c2 F2 => ?_
    (refine a_asg (t_var (a_nx (r_seqN (r_seq (r_ret (r_call (r_econs (r_int (a_cons1 ?_))))))))); refine r_econs (r_var rfl (a_cons1 (r_econs (r_callP rfl ?_)))))
    refine fin2 l s2 o2 c2 fun S'' σ₃ l2 hh2 s3 o3 c3 F3 => ?_
    refine a_cons1 (r_pures rfl (a_cons2 (a_cons2 (a_cons2 (a_call ?_)))))
    refine pair_S T ?_
    refine a_ret (r_seqR (r_seqR (r_retR ?_)))
    refine cast_q (q S'' σ₃ (l.trans l2) ⟨Bd.has_le o2 o3 l2 hh, hh2⟩ s3 o3 (e ▸ c3) (F2.trans F3)) ?_
    simp only [G]
    rw [G_le o2 o3 l2 _ hh]
  · have f0 : ¬ (j : Int) = 0 := by (first | lia | omega)
    have f1 : ¬ (j : Int) = 1 := by (first | lia | omega)
    have f2 : ¬ (j : Int) = 2 := by (first | lia | omega)
    have f3 : ¬ (j : Int) = 3 := by (first | lia | omega)
    have f4 : ¬ (j : Int) = 4 := by (first | lia | omega)
    have f9 : ¬ (j : Int) = 9 := by (first | lia | omega)
    refine r_seq (r_assign (r_callP rfl ?_))
    refine pair_S T ?_
    (refine a_asg (t_var (a_nx (r_seqN (r_seq (r_site (r_te (r_primP rfl (p_eq rfl (r_truB ?_))))))))); refine a_siteF ?wa ?_; (case wa => decide); refine r_skip (r_seqN (r_seq (r_site (r_te (r_primP rfl (p_eq rfl (r_truB ?_))))))); refine a_siteF ?wa ?_; (case wa => (simp only [decide_eq_true_eq, decide_eq_false_iff_not, Bool.not_eq_true, Bool.not_eq_true', Bool.not_eq_false, Bool.not_eq_false', decide_not, Bool.not_not, Bool.and_false, Bool.false_and, Bool.or_false, Bool.false_or, Bool.true_and, Bool.and_true, Bool.false_eq_true, Bool.and_eq_true, Bool.or_eq_true, not_true_eq_false, not_false_eq_true]; done)); refine r_skip (r_seqN (r_seq (r_site (r_te (r_primP rfl (p_eq rfl (r_truB ?_))))))); refine a_siteF ?wa ?_; (case wa => (simp only [decide_eq_true_eq, decide_eq_false_iff_not, Bool.not_eq_true, Bool.not_eq_true', Bool.not_eq_false, Bool.not_eq_false', decide_not, Bool.not_not, Bool.and_false, Bool.false_and, Bool.or_false, Bool.false_or, Bool.true_and, Bool.and_true, Bool.false_eq_true, Bool.and_eq_true, Bool.or_eq_true, not_true_eq_false, not_false_eq_true]; done)); refine r_skip (r_seqN (r_seq (r_site (r_te (r_primP rfl (p_eq rfl (r_truB ?_))))))); refine a_siteF ?wa ?_; (case wa => decide); refine r_skip (r_seqN (r_seq (r_assign (r_pure rfl (a_asg (t_var (a_nx (r_seqN (r_seq ?_))))))))); refine r_site (r_te (r_primP rfl (p_eq rfl (r_truB ?_)))); refine a_siteF ?wa ?_; (case wa => (simp only [decide_eq_true_eq, decide_eq_false_iff_not, Bool.not_eq_true, Bool.not_eq_true', Bool.not_eq_false, Bool.not_eq_false', decide_not, Bool.not_not, Bool.and_false, Bool.false_and, Bool.or_false, Bool.false_or, Bool.true_and, Bool.and_true, Bool.false_eq_true, Bool.and_eq_true, Bool.or_eq_true, not_true_eq_false, not_false_eq_true]; assumption)); refine r_skip (r_seqN (r_seq (r_site (r_te (r_primP rfl (p_eq rfl (r_truB ?_))))))); refine a_siteF ?wa ?_; (case wa => (simp only [decide_eq_true_eq, decide_eq_false_iff_not, Bool.not_eq_true, Bool.not_eq_true', Bool.not_eq_false, Bool.not_eq_false', decide_not, Bool.not_not, Bool.and_false, Bool.false_and, Bool.or_false, Bool.false_or, Bool.true_and, Bool.and_true, Bool.false_eq_true, Bool.and_eq_true, Bool.or_eq_true, not_true_eq_false, not_false_eq_true]; assumption)); refine r_skip (r_seqN (r_seq (r_site (r_te (r_primP rfl (p_eq rfl (r_truB ?_))))))); refine a_siteF ?wa ?_; (case wa => (simp only [decide_eq_true_eq, decide_eq_false_iff_not, Bool.not_eq_true, Bool.not_eq_true', Bool.not_eq_false, Bool.not_eq_false', decide_not, Bool.not_not, Bool.and_false, Bool.false_and, Bool.or_false, Bool.false_or, Bool.true_and, Bool.and_true, Bool.false_eq_true, Bool.and_eq_true, Bool.or_eq_true, not_true_eq_false, not_false_eq_true]; assumption)); refine r_skip (r_seqN (r_seq (r_site (r_tor (r_te (r_primP rfl (p_eq rfl (r_truB ?_)))))))); refine a_orF ?wa ?_; (case wa => (simp only [decide_eq_true_eq, decide_eq_false_iff_not, Bool.not_eq_true, Bool.not_eq_true', Bool.not_eq_false, Bool.not_eq_false', decide_not, Bool.not_not, Bool.and_false, Bool.false_and, Bool.or_false, Bool.false_or, Bool.true_and, Bool.and_true, Bool.false_eq_true, Bool.and_eq_true, Bool.or_eq_true, not_true_eq_false, not_false_eq_true]; assumption)); refine r_te (r_primP rfl (p_eq rfl (r_truB ?_))); refine a_siteF ?wa ?_; (case wa => (simp only [decide_eq_true_eq, decide_eq_false_iff_not, Bool.not_eq_true, Bool.not_eq_true', Bool.not_eq_false, Bool.not_eq_false', decide_not, Bool.not_not, Bool.and_false, Bool.false_and, Bool.or_false, Bool.false_or, Bool.true_and, Bool.and_true, Bool.false_eq_true, Bool.and_eq_true, Bool.or_eq_true, not_true_eq_false, not_false_eq_true]; assumption)); refine r_skip (r_seqN (r_seq (r_site (r_tor (r_te (r_primP rfl (p_eq rfl (r_truB ?_)))))))); refine a_orF ?wa ?_; (case wa => (simp only [decide_eq_true_eq, decide_eq_false_iff_not, Bool.not_eq_true, Bool.not_eq_true', Bool.not_eq_false, Bool.not_eq_false', decide_not, Bool.not_not, Bool.and_false, Bool.false_and, Bool.or_false, Bool.false_or, Bool.true_and, Bool.and_true, Bool.false_eq_true, Bool.and_eq_true, Bool.or_eq_true, not_true_eq_false, not_false_eq_true]; assumption)); refine r_te (r_prim2 (r_var rfl (a_p2 (r_meth (r_var rfl ?_))))); refine' r_methK ?wa ?wb ?wc ?_; (case wa => assumption); (case wb => exact TabP.m10 (by assumption)); (case wc => rfl); refine r_pures rfl (a_meth ?_))
    refine functorS T.toTabP hS ok (a := 8) (r := 2) (by (first | lia | omega)) fun i σ₁ e1 s1 o1 F1 => ?_
    have l0 := S.le_addF 8 2
    have fi : (j : Int) = (i : Int) := by
      have e2 := le_fun l0 ej
      rw [← Sym.fn_eq o1 e2, Sym.fn_eq o1 e1]
    (refine a_p2b (p_eq rfl (r_truB ?_)); refine a_siteT ?wa ?_; (case wa => (simp only [decide_eq_true_eq, decide_eq_false_iff_not, Bool.not_eq_true, Bool.not_eq_true', Bool.not_eq_false, Bool.not_eq_false', decide_not, Bool.not_not, Bool.and_false, Bool.false_and, Bool.or_false, Bool.false_or, Bool.true_and, Bool.and_true, Bool.false_eq_true, Bool.and_eq_true, Bool.or_eq_true, not_true_eq_false, not_false_eq_true]; assumption)); refine r_seq (r_assign (r_callP rfl ?_)))
    refine fin l0 s1 o1 (kc_sym hc F1 h1) fun S' σ₂ l hh s2 o2 c2 F2 => ?_
    (refine a_asg (t_var (a_nx (r_seqN (r_seq (r_ret (r_call (r_econs (r_int (a_cons1 ?_))))))))); refine r_econs (r_var rfl (a_cons1 (r_econs (r_callP rfl ?_)))))
    refine fin2 (l0.trans l) s2 o2 c2 fun S'' σ₃ l2 hh2 s3 o3 c3 F3 => ?_
    refine a_cons1 (r_pures rfl (a_cons2 (a_cons2 (a_cons2 (a_call ?_)))))
    refine pair_S T ?_
    refine a_ret (r_seqR (r_seqR (r_retR ?_)))
    refine cast_q (q S'' σ₃ ((l0.trans l).trans l2) ⟨Bd.has_le o2 o3 l2 hh, hh2⟩ s3 o3 (e ▸ c3) (((fr_sym F1).trans F2).trans F3)) ?_
    simp only [G]
    rw [G_le o2 o3 l2 _ hh]
theorem wov_all (T : Tab1 P) : ∀ (b : Bd) (m : Nat), b.dp + 5 ≤ m → WovS P b m := by
  intro b
  induction b with
  | lst items => intro m hm; obtain ⟨m, rfl⟩ : ∃ m', m = m' + 5 := ⟨m - 5, by (first | lia | omega)⟩; exact wov_lst T items
  | nil => intro m hm; obtain ⟨m, rfl⟩ : ∃ m', m = m' + 5 := ⟨m - 5, by (first | lia | omega)⟩; exact wov_nil T
  | cut => intro m hm; obtain ⟨m, rfl⟩ : ∃ m', m = m' + 5 := ⟨m - 5, by (first | lia | omega)⟩; exact wov_cut T
  | atom n => intro m hm; obtain ⟨m, rfl⟩ : ∃ m', m = m' + 5 := ⟨m - 5, by (first | lia | omega)⟩; exact wov_atom T n
  | cmp f a args => intro m hm; obtain ⟨m, rfl⟩ : ∃ m', m = m' + 5 := ⟨m - 5, by (first | lia | omega)⟩; exact wov_cmp T f a args
  | curly g => intro m hm; obtain ⟨m, rfl⟩ : ∃ m', m = m' + 5 := ⟨m - 5, by (first | lia | omega)⟩; exact wov_curly T g
  | var n => intro m hm; obtain ⟨m, rfl⟩ : ∃ m', m = m' + 5 := ⟨m - 5, by (first | lia | omega)⟩; exact wov_var T n
  | neg b ih =>
    intro m hm
    simp only [Bd.dp] at hm
    obtain ⟨m, rfl⟩ : ∃ m', m = m' + 5 := ⟨m - 5, by (first | lia | omega)⟩
    exact wov_neg T b (ih _ (by (first | lia | omega)))
  | seq f a b ia ib =>
    intro m hm
    simp only [Bd.dp] at hm
    obtain ⟨m, rfl⟩ : ∃ m', m = m' + 5 := ⟨m - 5, by (first | lia | omega)⟩
    exact wov_seq T f a b (ia _ (by (first | lia | omega))) (ib _ (by (first | lia | omega)))
  | alt f a b ia ib =>
    intro m hm
    simp only [Bd.dp] at hm
    obtain ⟨m, rfl⟩ : ∃ m', m = m' + 5 := ⟨m - 5, by (first | lia | omega)⟩
    exact wov_alt T f a b (ia _ (by (first | lia | omega))) (ib _ (by (first | lia | omega)))
end
structure SpAt (σ : St) (ks kl : Nat) (L : List Int) : Prop where
  s : ∃ n : Nat, σ[ks]? = some (.list [.obj kl, .int (n : Int)])
  l : σ[kl]? = some (.list (L.map .int))
  ne : ks ≠ kl
theorem SpAt.frame {σ σ' : St} {ks kl : Nat} {L : List Int} (h : SpAt σ ks kl L) {M : Nat → Prop} (F : Fr M σ σ') (h1 : ¬ M ks) (h2 : ¬ M kl) : SpAt σ' ks kl L :=
  ⟨h.s.imp fun _ e => F.at' _ _ e h1, F.at' _ _ h.l h2, h.ne⟩
section
variable {P : Pg} {σ σ' : St} {k m : Nat} {S : Sym} {Q : EQ}
theorem pull_S (T : Tab1 P) {ks kl : Nat} {L : List Int} {lim : Int} (h : SpAt σ ks kl L) (hlim : 0 < lim) (q : ∀ (r : Int) σ', 0 ≤ r → r < lim → SpAt σ' ks kl L → Fr (fun j => j = ks) σ σ' → Q (.int r) σ') : wpCall P (m + 1) 378 [.obj ks, .int lim] σ Q := by
  obtain ⟨⟨n, hs⟩, hl, hne⟩ := h
  have hl2 : (1 : Int) < (([PV.obj kl, PV.int (n : Int)] : List PV).length : Int) := by show (1 : Int) < ((2 : Nat) : Int); decide
  have h01 : (0 : Int) ≤ 1 := by decide
  have F : Fr (fun j => j = ks) σ (σ.set ks (.list ([PV.obj kl, PV.int (n : Int)].set (Int.toNat 1) (PV.int ((n : Int) + 1))))) := Fr.set rfl
  have hs' : (σ.set ks (.list ([PV.obj kl, PV.int (n : Int)].set (Int.toNat 1) (PV.int ((n : Int) + 1)))))[ks]? = some (.list [.obj kl, .int ((n + 1 : Nat) : Int)]) := get_set_eq hs
  have hl' := F.at' _ _ hl hne.symm
  refine enter T.f378 rfl ?_
  unfold b_378
  (refine r_seq (r_augIdx (r_var rfl (r_int ?_))); refine' p_idxL ?wa ?wb ?_; (case wa => assumption); (case wb => rfl); refine r_int (r_addK ?_); refine' s_list ?wa ?wb ?wc ?_; (case wa => assumption); (case wb => assumption); (case wc => assumption); refine r_seqN (r_seq (r_site (r_te (r_prim2 (r_primP rfl ?_))))); refine' p_idxL ?wa ?wb ?_; (case wa => assumption); (case wb => rfl); refine a_p2 (r_prim1 (r_primP rfl ?_)); refine' p_idxL ?wa ?wb ?_; (case wa => assumption); (case wb => rfl); refine a_p1 ?_; refine' p_lenL ?wa ?_; (case wa => assumption); refine a_p2b (p_gt (r_truB ?_)))
  generalize (σ.set ks (.list ([PV.obj kl, PV.int (n : Int)].set (Int.toNat 1) (PV.int ((n : Int) + 1))))) = τ at *
  skip
  by_cases hc : (((L.map PV.int).length : Nat) : Int) < ((n + 1 : Nat) : Int)
  · (refine a_siteT ?wa ?_; (case wa => (simp only [decide_eq_true_eq, decide_eq_false_iff_not, Bool.not_eq_true, Bool.not_eq_true', Bool.not_eq_false, Bool.not_eq_false', decide_not, Bool.not_not, Bool.and_false, Bool.false_and, Bool.or_false, Bool.false_or, Bool.true_and, Bool.and_true, Bool.false_eq_true, Bool.and_eq_true, Bool.or_eq_true, not_true_eq_false, not_false_eq_true]; assumption)); refine r_seq (r_ret (r_int (a_ret (r_seqR (r_seqR (r_retR ?_)))))))
    exact q 0 τ (Int.le_refl _) hlim ⟨⟨_, hs'⟩, hl', hne⟩ F
  · have hn : n < L.length := by simp at hc; (first | lia | omega)
    have hp : pyIdx (L.map PV.int) (((n + 1 : Nat) : Int) - 1) = some (.int L[n]) := by
      rw [show ((n + 1 : Nat) : Int) - 1 = ((n : Nat) : Int) by (first | lia | omega)]
      exact pyIdx_nat (by rw [List.getElem?_map, List.getElem?_eq_getElem hn]; rfl)
    (refine a_siteF ?wa ?_; (case wa => (simp only [decide_eq_true_eq, decide_eq_false_iff_not, Bool.not_eq_true, Bool.not_eq_true', Bool.not_eq_false, Bool.not_eq_false', decide_not, Bool.not_not, Bool.and_false, Bool.false_and, Bool.or_false, Bool.false_or, Bool.true_and, Bool.and_true, Bool.false_eq_true, Bool.and_eq_true, Bool.or_eq_true, not_true_eq_false, not_false_eq_true]; assumption)); refine r_skip (r_seqN (r_seq (r_ret (r_prim2 (r_prim1 (r_prim2 (r_primP rfl ?_))))))); refine' p_idxL ?wa ?wb ?_; (case wa => assumption); (case wb => rfl); refine a_p2 (r_prim2 (r_primP rfl ?_)); refine' p_idxL ?wa ?wb ?_; (case wa => assumption); (case wb => rfl); refine a_p2 (r_int (a_p2b (p_sub (a_p2b ?_)))); refine' p_idxL ?wa ?wb ?_; (case wa => assumption); (case wb => with_reducible assumption); refine a_p1 (p_abs (a_p2 (r_var rfl (a_p2b ?_)))); refine' p_mod ?wa ?_; (case wa => assumption); refine a_ret (r_seqR (r_retR ?_)))
    exact q _ τ (Int.emod_nonneg _ (by (first | lia | omega))) (Int.emod_lt_of_pos _ hlim) ⟨⟨_, hs'⟩, hl', hne⟩ F

theorem eqv_leaf (σ : St) (x : Str) (n : Int) : eqS σ (.tup [.str x, .int n]) (.tup [.str x, .int n]) = some true := by
  show some (decide (x = x) && (decide (n = n) && true)) = some true
  simp
theorem up_range (n : Nat) (h : n ≤ 1000000) : rangeOf [.int (n : Int)] (rangeL 0 (n : Int) 1) := .inl ⟨_, rfl, decide_eq_true (by (first | lia | omega)), rfl⟩
theorem numbers_S (T : Tab1 P) : ∀ (N : Nat) (t : Tm), t.size ≤ N → ∀ (σ : St) (kf : Nat) (l : List Int) (Q : EQ), σ[kf]? = some (.list (List.map PV.int l)) → l.length + t.size ≤ 1000 → (∀ σ', σ'[kf]? = some (.list (List.map PV.int (l ++ t.vars))) → Fr (fun j => j = kf) σ σ' → Q (.obj kf) σ') → wpCall P (N + 1) 453 [t.pv, .obj kf] σ Q
  | 0, t, h => fun _ _ _ _ => by have := t.size_pos; (first | lia | omega)
  | N + 1, t, h => by
    intro σ kf l Q hk hn q
    refine enter T.f453 rfl ?_
    unfold b_453
    have hlen : (List.map PV.int l).length < big := by rw [List.length_map]; have := t.size_pos; unfold big; (first | lia | omega)
    cases t with
    | v n =>
      simp only [Tm.pv]
      (refine r_seq (r_site (r_te (r_primP rfl (p_eq rfl (r_truB (a_siteT rfl (r_seq (r_expr (r_bm ?_))))))))); refine r_var rfl ?_; refine a_bm ?wa ?_; (case wa => (refine' bmOk_list ?wz (by intro e; cases e); (case wz => assumption))); refine r_pures rfl (a_bm2 ?_); refine' b_append ?wa ?wb ?_; (case wa => assumption); (case wb => assumption); refine a_exp (r_seqN (r_skip (r_seqN (r_seq (r_site (r_te (r_primP rfl (p_eq rfl (r_truB ?_))))))))); refine a_siteF ?wa ?_; (case wa => decide); refine r_skip (r_seqN (r_seq (r_ret (r_var rfl (a_ret (r_seqR (r_retR ?_))))))))
      refine q _ ?_ (Fr.set rfl)
      rw [Tm.vars, List.map_append]
      exact get_set_eq hk
    | a n =>
      simp only [Tm.pv]
      (refine r_seq (r_site (r_te (r_primP rfl (p_eq rfl (r_truB ?_))))); refine a_siteF ?wa ?_; (case wa => decide); refine r_skip (r_seqN (r_seq (r_site (r_te (r_primP rfl (p_eq rfl (r_truB ?_))))))); refine a_siteF ?wa ?_; (case wa => decide); refine r_skip (r_seqN (r_seq (r_ret (r_var rfl (a_ret (r_seqR (r_retR ?_))))))))
      exact q σ (by rw [Tm.vars, List.append_nil]; exact hk) Fr.refl
    | i n =>
      simp only [Tm.pv]
      (refine r_seq (r_site (r_te (r_primP rfl (p_eq rfl (r_truB ?_))))); refine a_siteF ?wa ?_; (case wa => decide); refine r_skip (r_seqN (r_seq (r_site (r_te (r_primP rfl (p_eq rfl (r_truB ?_))))))); refine a_siteF ?wa ?_; (case wa => decide); refine r_skip (r_seqN (r_seq (r_ret (r_var rfl (a_ret (r_seqR (r_retR ?_))))))))
      exact q σ (by rw [Tm.vars, List.append_nil]; exact hk) Fr.refl
    | s f args =>
      simp only [Tm.pv]
      have hsz : (Tm.s f args).size = 1 + Tm.sizeL args := rfl
      (refine r_seq (r_site (r_te (r_primP rfl (p_eq rfl (r_truB ?_))))); refine a_siteF ?wa ?_; (case wa => decide); refine r_skip (r_seqN (r_seq (r_site (r_te (r_primP rfl (p_eq rfl (r_truB (a_siteT rfl (r_seq ?_))))))))); refine r_for (i_val (r_pure rfl (i_valT rfl (a_for ?_)))))
      refine for_rule (fun i lm τ => ∃ pre suf, args = pre ++ suf ∧ pre.length = i ∧ lm 1 = some (.obj kf) ∧ τ[kf]? = some (.list (List.map PV.int (l ++ Tm.varsL pre))) ∧ Fr (fun j => j = kf) σ τ ∧ (l ++ Tm.varsL pre).length + Tm.sizeL suf ≤ 999)
        ⟨[], args, rfl, rfl, rfl, by simp only [Tm.varsL, List.append_nil]; exact hk, Fr.refl, by simp [Tm.varsL]; (first | lia | omega)⟩ (fun _ _ _ _ => trivial) ?_ ?_
      · rintro i y lm τ K hy ⟨pre, suf, e, rfl, l1, hτ, F, hb⟩ hK
        cases suf with
        | nil =>
          have hi := (List.getElem?_eq_some_iff.mp hy).1
          rw [Tm.pvs_len, e] at hi; simp at hi
        | cons p suf =>
          have hy' : y = p.pv := by rw [Tm.pvs_eq, e] at hy; simpa using hy.symm
          subst hy'
          have hp : p.size ≤ N := by
            have : Tm.sizeL args = Tm.sizeL pre + (p.size + Tm.sizeL suf) := by rw [e, Tm.sizeL_app, Tm.sizeL]
            (first | lia | omega)
          rw [Tm.sizeL] at hb
          (refine r_seq (r_expr (r_call (r_econs (r_var rfl (a_cons1 (r_econs ?_)))))); refine' r_var ?wa ?_; (case wa => assumption); refine a_cons1 (r_pures rfl (a_cons2 (a_cons2 (a_call ?_)))))
          refine numbers_S T N p hp _ _ _ _ hτ (by (first | lia | omega)) fun τ' h1 F1 => ?_
          refine a_exp (r_seqN (r_skip (r_forN ?_)))
          have ev : ∀ (p : Tm), p.vars.length ≤ p.size := fun p => vars_len p
          have := ev p
          refine hK _ _ ⟨pre ++ [p], suf, by rw [e]; simp, by simp, l1, ?_, F.trans F1, ?_⟩
          · rw [Tm.varsL_app, Tm.varsL, Tm.varsL, List.append_nil, ← List.append_assoc]; exact h1
          · rw [Tm.varsL_app, Tm.varsL, Tm.varsL, List.append_nil]; simp at hb ⊢; (first | lia | omega)
      · rintro lm τ ⟨pre, suf, e, hl', l1, hτ, F, hb⟩
        have : suf = [] := by
          rw [Tm.pvs_len, e] at hl'
          cases suf with
          | nil => rfl
          | cons _ _ => simp at hl'
        subst this
        rw [List.append_nil] at e
        (refine r_seqN (r_skip (r_seqN (r_seq (r_ret ?_)))); refine' r_var ?wa ?_; (case wa => assumption); refine a_ret (r_seqR (r_retR ?_)))
        refine q τ ?_ F
        rw [Tm.vars, e]; exact hτ
where
  vars_len : ∀ p : Tm, p.vars.length ≤ p.size
    | .v _ => by simp [Tm.vars, Tm.size]
    | .a _ => by simp [Tm.vars, Tm.size]
    | .i _ => by simp [Tm.vars, Tm.size]
    | .s _ args => by simp only [Tm.vars, Tm.size]; have := varsL_len args; (first | lia | omega)
  varsL_len : ∀ l : List Tm, (Tm.varsL l).length ≤ Tm.sizeL l
    | [] => by simp [Tm.varsL, Tm.sizeL]
    | t :: r => by simp only [Tm.varsL, Tm.sizeL, List.length_append]; have := vars_len t; have := varsL_len r; (first | lia | omega)
end
mutual
noncomputable def Tm.ren (ρ : Int → Int) : Tm → Tm
  | .v n => .v (ρ n) | .a n => .a n | .i n => .i n | .s f args => .s f (Tm.renL ρ args)
noncomputable def Tm.renL (ρ : Int → Int) : List Tm → List Tm
  | [] => [] | t :: r => t.ren ρ :: Tm.renL ρ r
end
theorem Tm.renL_app (ρ : Int → Int) : ∀ l m : List Tm, Tm.renL ρ (l ++ m) = Tm.renL ρ l ++ Tm.renL ρ m
  | [], _ => rfl
  | t :: r, m => by rw [List.cons_append, Tm.renL, Tm.renL, Tm.renL_app ρ r m]; rfl
theorem Tm.renL_len (ρ : Int → Int) : ∀ l : List Tm, (Tm.renL ρ l).length = l.length
  | [] => rfl
  | t :: r => by rw [Tm.renL, List.length_cons, List.length_cons, Tm.renL_len ρ r]
mutual
theorem Tm.ren_id {ρ : Int → Int} (h : ∀ n, n < 1000 → ρ n = n) : ∀ t : Tm, (∀ n ∈ t.vars, n < 1000) → t.ren ρ = t
  | .v n, hv => by rw [Tm.ren, h n (hv n (by simp [Tm.vars]))]
  | .a _, _ => rfl
  | .i _, _ => rfl
  | .s f args, hv => by rw [Tm.ren, Tm.renL_id h args (by simpa [Tm.vars] using hv)]
theorem Tm.renL_id {ρ : Int → Int} (h : ∀ n, n < 1000 → ρ n = n) : ∀ l : List Tm, (∀ n ∈ Tm.varsL l, n < 1000) → Tm.renL ρ l = l
  | [], _ => rfl
  | t :: r, hv => by
    rw [Tm.renL, Tm.ren_id h t fun n hn => hv n (by rw [Tm.varsL]; exact List.mem_append_left _ hn), Tm.renL_id h r fun n hn => hv n (by rw [Tm.varsL]; exact List.mem_append_right _ hn)]
end
mutual
noncomputable def Tm.dep : Tm → Nat
  | .v _ => 0 | .a _ => 0 | .i _ => 0 | .s _ args => 1 + Tm.depL args
noncomputable def Tm.depL : List Tm → Nat
  | [] => 0 | t :: r => max t.dep (Tm.depL r)
end
theorem Tm.depL_mem : ∀ {l : List Tm} {p : Tm}, p ∈ l → p.dep ≤ Tm.depL l
  | t :: r, p, h => by
    rw [Tm.depL]
    rcases List.mem_cons.mp h with rfl | h
    · (first | lia | omega)
    · have := Tm.depL_mem h; (first | lia | omega)
theorem Tm.varsL_mem : ∀ {l : List Tm} {p : Tm}, p ∈ l → ∀ n ∈ p.vars, n ∈ Tm.varsL l
  | t :: r, p, h, n, hn => by
    rw [Tm.varsL, List.mem_append]
    rcases List.mem_cons.mp h with rfl | h
    · exact .inl hn
    · exact .inr (Tm.varsL_mem h n hn)
noncomputable def tabd (ρ : Int → Int) (seen : List Int) : List (PV × PV) := seen.map fun x => (PV.int x, PV.int (ρ x))
theorem dget_tab (ρ : Int → Int) (n : Int) : ∀ l : List Int, dget (.int n) (tabd ρ l) = if n ∈ l then some (.int (ρ n)) else none
  | [] => rfl
  | x :: l => by
    have ih := dget_tab ρ n l
    unfold tabd dget at ih ⊢
    rw [List.map_cons, List.find?_cons]
    by_cases h : x = n
    · subst h; simp
    · have : decide (PV.int x = PV.int n) = false := by simp [h]
      simp only [this]
      rw [ih]
      simp [Ne.symm h]
theorem like_tab (ρ : Int → Int) (n : Int) (l : List Int) : keysLike (.int n) (tabd ρ l) = true := by
  unfold keysLike tabd
  rw [Bool.and_eq_true, List.all_eq_true]
  refine ⟨rfl, fun p hp => ?_⟩
  obtain ⟨x, _, rfl⟩ := List.mem_map.mp hp
  rfl
theorem vals_tab (ρ : Int → Int) (n : Int) (l : List Int) : anyL (fun y => eqv eqDepth y (.int n)) ((tabd ρ l).map (·.2)) = some (decide (n ∈ l.map ρ)) := by
  rw [← anyL_ints]
  unfold tabd
  rw [List.map_map, List.map_map]
  rfl
theorem in_tab {σ : St} {kt : Nat} {ρ : Int → Int} {l : List Int} (h : σ[kt]? = some (.dict (tabd ρ l))) (n : Int) : inS σ (.int n) (.obj kt) = some (decide (n ∈ l)) := by
  rw [inS_dict h (like_tab ρ n l), dget_tab]
  by_cases hn : n ∈ l <;> simp [hn]

section
variable {P : Pg}
theorem alike_S (T : Tab1 P) {ρ : Int → Int} {lo : Int} {kt : Nat} (hρ : ∀ n, n < 1000 → ρ n = n) (hinj : ∀ a b, 1001 ≤ a → 1001 ≤ b → ρ a = ρ b → a = b) (hlow : ∀ a, 1001 ≤ a → lo ≤ ρ a) :
    ∀ (N : Nat) (t : Tm), t.dep ≤ N → (∀ n ∈ t.vars, n ≠ 1000) → ∀ (σ : St) (seen : List Int) (Q : EQ), σ[kt]? = some (.dict (tabd ρ seen)) → (∀ x ∈ seen, 1001 ≤ x) → seen.length + t.size ≤ 900 →
      (∀ σ' seen', σ'[kt]? = some (.dict (tabd ρ seen')) → (∀ x ∈ seen', 1001 ≤ x) → seen'.length ≤ seen.length + t.size → Fr (fun j => j = kt) σ σ' → Q (.bool true) σ') → wpCall P (N + 1) 446 [t.pv, (t.ren ρ).pv, .obj kt, .int lo] σ Q :=
  by
    intro N
    induction N using Nat.strongRecOn with
    | ind N ih =>
    intro t h hv σ seen Q hk hge hn q
    have hbig2 : (2 : Nat) ≤ big := by decide
    refine enter T.f446 rfl ?_
    unfold b_446
    cases t with
    | a n =>
      simp only [Tm.ren, Tm.pv]
      have := eqv_leaf σ "a" n
      (refine r_seq (r_site (r_tand (r_te (r_primP rfl (p_eq rfl (r_truB ?_)))))); refine a_andF ?wa ?_; (case wa => decide); refine a_siteF ?wa ?_; (case wa => decide); refine r_skip (r_seqN (r_seq (r_site (r_tor (r_te (r_primP rfl (p_ne rfl (r_truB (a_orT rfl ?_))))))))); refine a_siteT rfl (r_seq (r_ret (r_primP rfl ?_))); refine' p_eq ?wa ?_; (case wa => with_reducible assumption); refine a_ret (r_seqR (r_seqR (r_retR ?_))))
      exact q σ seen hk hge (by (first | lia | omega)) Fr.refl
    | i n =>
      simp only [Tm.ren, Tm.pv]
      have := eqv_leaf σ "i" n
      (refine r_seq (r_site (r_tand (r_te (r_primP rfl (p_eq rfl (r_truB ?_)))))); refine a_andF ?wa ?_; (case wa => decide); refine a_siteF ?wa ?_; (case wa => decide); refine r_skip (r_seqN (r_seq (r_site (r_tor (r_te (r_primP rfl (p_ne rfl (r_truB (a_orT rfl ?_))))))))); refine a_siteT rfl (r_seq (r_ret (r_primP rfl ?_))); refine' p_eq ?wa ?_; (case wa => with_reducible assumption); refine a_ret (r_seqR (r_seqR (r_retR ?_))))
      exact q σ seen hk hge (by (first | lia | omega)) Fr.refl
    | v n =>
      simp only [Tm.ren, Tm.pv]
      have hn0 : n ≠ 1000 := hv n (by simp [Tm.vars])
      by_cases h1000 : 1001 ≤ n
      · by_cases hs : n ∈ seen
        · have hin := in_tab hk n
          rw [decide_eq_true hs] at hin
          have hd := dget_tab ρ n seen
          rw [if_pos hs] at hd
          have hlk := like_tab ρ n seen
          have := eqv_leaf σ "v" (ρ n)
          (refine r_seq (r_site (r_tand (r_te (r_primP rfl (p_eq rfl (r_truB (a_andT rfl (r_te (r_primP rfl ?_))))))))); refine p_ge (r_truB ?_); refine a_siteT ?wa ?_; (case wa => (simp only [decide_eq_true_eq, decide_eq_false_iff_not, Bool.not_eq_true, Bool.not_eq_true', Bool.not_eq_false, Bool.not_eq_false', decide_not, Bool.not_not, Bool.and_false, Bool.false_and, Bool.or_false, Bool.false_or, Bool.true_and, Bool.and_true, Bool.false_eq_true, Bool.and_eq_true, Bool.or_eq_true, not_true_eq_false, not_false_eq_true]; (first | lia | omega))); refine r_seq (r_site (r_te (r_primP rfl ?_))); refine' p_notIn ?wa ?_; (case wa => with_reducible assumption); refine r_truB ?_; refine a_siteF ?wa ?_; (case wa => decide); refine r_skip (r_seqN (r_seq (r_ret (r_prim2 (r_var rfl (a_p2 (r_tup (r_econs (r_str ?_))))))))); refine a_cons1 (r_econs (r_primP rfl ?_)); refine' p_idxD ?wa ?wb ?wc ?_; (case wa => assumption); (case wb => with_reducible assumption); (case wc => assumption); refine a_cons1 (r_pures rfl (a_cons2 (a_cons2 ?_))); refine a_tup ?wa ?_; (case wa => assumption); refine a_p2b ?_; refine' p_eq ?wa ?_; (case wa => with_reducible assumption); refine a_ret (r_seqR (r_seqR (r_retR ?_))))
          exact q σ seen hk hge (by (first | lia | omega)) Fr.refl
        · have hin := in_tab hk n
          rw [decide_eq_false hs] at hin
          have hd := dget_tab ρ n seen
          rw [if_neg hs] at hd
          have hlk := like_tab ρ n seen
          have hlk0 := like_tab ρ 0 seen
          have hlo : ¬ ρ n < lo := by have := hlow n h1000; (first | lia | omega)
          have hv := vals_tab ρ (ρ n) seen
          have hnv : ¬ ρ n ∈ seen.map ρ := by
            intro hm
            obtain ⟨y, hy, e⟩ := List.mem_map.mp hm
            exact hs (hinj y n (hge y hy) h1000 e ▸ hy)
          rw [decide_eq_false hnv] at hv
          have hlen : (tabd ρ seen).length < 1000 := by unfold tabd; rw [List.length_map]; (first | lia | omega)
          have hput : dput (.int n) (.int (ρ n)) (tabd ρ seen) = tabd ρ (seen ++ [n]) := by rw [dput_new hd]; unfold tabd; simp
          have hk' : (σ.set kt (.dict (dput (.int n) (.int (ρ n)) (tabd ρ seen))))[kt]? = some (.dict (tabd ρ (seen ++ [n]))) := by rw [← hput]; exact get_set_eq hk
          have F : Fr (fun j => j = kt) σ (σ.set kt (.dict (dput (.int n) (.int (ρ n)) (tabd ρ seen)))) := Fr.set rfl
          have hd' := dget_tab ρ n (seen ++ [n])
          rw [if_pos (by simp)] at hd'
          have hlk' := like_tab ρ n (seen ++ [n])
          have := eqv_leaf (σ.set kt (.dict (dput (.int n) (.int (ρ n)) (tabd ρ seen)))) "v" (ρ n)
          (refine r_seq (r_site (r_tand (r_te (r_primP rfl (p_eq rfl (r_truB (a_andT rfl (r_te (r_primP rfl ?_))))))))); refine p_ge (r_truB ?_); refine a_siteT ?wa ?_; (case wa => (simp only [decide_eq_true_eq, decide_eq_false_iff_not, Bool.not_eq_true, Bool.not_eq_true', Bool.not_eq_false, Bool.not_eq_false', decide_not, Bool.not_not, Bool.and_false, Bool.false_and, Bool.or_false, Bool.false_or, Bool.true_and, Bool.and_true, Bool.false_eq_true, Bool.and_eq_true, Bool.or_eq_true, not_true_eq_false, not_false_eq_true]; (first | lia | omega))); refine r_seq (r_site (r_te (r_primP rfl ?_))); refine' p_notIn ?wa ?_; (case wa => with_reducible assumption); refine r_truB (a_siteT rfl (r_seq (r_site (r_tor (r_te (r_primP rfl (p_ne rfl (r_truB ?_)))))))); refine a_orF ?wa ?_; (case wa => decide); refine r_tor (r_te (r_primP rfl (p_lt (r_truB ?_)))); refine a_orF ?wa ?_; (case wa => (simp only [decide_eq_true_eq, decide_eq_false_iff_not, Bool.not_eq_true, Bool.not_eq_true', Bool.not_eq_false, Bool.not_eq_false', decide_not, Bool.not_not, Bool.and_false, Bool.false_and, Bool.or_false, Bool.false_or, Bool.true_and, Bool.and_true, Bool.false_eq_true, Bool.and_eq_true, Bool.or_eq_true, not_true_eq_false, not_false_eq_true]; assumption)); refine r_te (r_primP rfl ?_); refine' p_inVals ?wa ?wb ?wc ?_; (case wa => assumption); (case wb => with_reducible assumption); (case wc => assumption); refine r_truB ?_; refine a_siteF ?wa ?_; (case wa => decide); refine r_skip (r_seqN (r_seq (r_assign (r_pure rfl (a_asg (t_idx (r_var rfl (a_ti (r_pure rfl ?_))))))))); refine a_ti2 ?_; refine' s_dict ?wa ?wb ?wc ?_; (case wa => assumption); (case wb => assumption); (case wc => assumption); refine a_ta2 (a_nx (r_seqN (r_skip (r_seqN (r_seq (r_ret (r_prim2 (r_var rfl (a_p2 ?_))))))))); refine r_tup (r_econs (r_str (a_cons1 (r_econs (r_primP rfl ?_))))); refine' p_idxD ?wa ?wb ?wc ?_; (case wa => assumption); (case wb => with_reducible assumption); (case wc => assumption); refine a_cons1 (r_pures rfl (a_cons2 (a_cons2 ?_))); refine a_tup ?wa ?_; (case wa => assumption); refine a_p2b ?_; refine' p_eq ?wa ?_; (case wa => with_reducible assumption); refine a_ret (r_seqR (r_seqR (r_retR ?_))))
          refine q _ (seen ++ [n]) hk' (fun x hx => ?_) (by simp [Tm.size]) F
          rcases List.mem_append.mp hx with hx | hx
          · exact hge x hx
          · rw [List.mem_singleton.mp hx]; exact h1000
      · rw [hρ n (by (first | lia | omega))]
        have := eqv_leaf σ "v" n
        (refine r_seq (r_site (r_tand (r_te (r_primP rfl (p_eq rfl (r_truB (a_andT rfl (r_te (r_primP rfl ?_))))))))); refine p_ge (r_truB ?_); refine a_siteF ?wa ?_; (case wa => (simp only [decide_eq_true_eq, decide_eq_false_iff_not, Bool.not_eq_true, Bool.not_eq_true', Bool.not_eq_false, Bool.not_eq_false', decide_not, Bool.not_not, Bool.and_false, Bool.false_and, Bool.or_false, Bool.false_or, Bool.true_and, Bool.and_true, Bool.false_eq_true, Bool.and_eq_true, Bool.or_eq_true, not_true_eq_false, not_false_eq_true]; (first | lia | omega))); refine r_skip (r_seqN (r_seq (r_site (r_tor (r_te (r_primP rfl (p_ne rfl (r_truB (a_orT rfl ?_))))))))); refine a_siteT rfl (r_seq (r_ret (r_primP rfl ?_))); refine' p_eq ?wa ?_; (case wa => with_reducible assumption); refine a_ret (r_seqR (r_seqR (r_retR ?_))))
        exact q σ seen hk hge (by (first | lia | omega)) Fr.refl
    | s f args =>
      simp only [Tm.ren, Tm.pv]
      obtain ⟨N, rfl⟩ : ∃ N', N = N' + 1 := ⟨N - 1, by rw [Tm.dep] at h; (first | lia | omega)⟩
      rw [Tm.dep] at h
      rw [Tm.vars] at hv
      have hsz : (Tm.s f args).size = 1 + Tm.sizeL args := rfl
      have hll : ((Tm.pvs (Tm.renL ρ args)).length : Int) = ((Tm.pvs args).length : Int) := by rw [Tm.pvs_len, Tm.pvs_len, Tm.renL_len]
      have hargs := Tm.len_sizeL args
      have hR : rangeOf [.int ((Tm.pvs (Tm.renL ρ args)).length : Int)] (rangeL 0 (args.length : Int) 1) := by
        rw [hll, Tm.pvs_len]; exact up_range _ (by (first | lia | omega))
      (refine r_seq (r_site (r_tand (r_te (r_primP rfl (p_eq rfl (r_truB ?_)))))); refine a_andF ?wa ?_; (case wa => decide); refine a_siteF ?wa ?_; (case wa => decide); refine r_skip (r_seqN (r_seq (r_site (r_tor (r_te (r_primP rfl (p_ne rfl (r_truB ?_)))))))); refine a_orF ?wa ?_; (case wa => decide); refine r_te (r_primP rfl (p_ne rfl (r_truB ?_))); refine a_siteF ?wa ?_; (case wa => decide); refine r_skip (r_seqN (r_seq (r_site (r_tor (r_te (r_primP rfl (p_ne rfl (r_truB ?_)))))))); refine a_orF ?wa ?_; (case wa => (simp only [decide_eq_true_eq, decide_eq_false_iff_not, Bool.not_eq_true, Bool.not_eq_true', Bool.not_eq_false, Bool.not_eq_false', decide_not, Bool.not_not, Bool.and_false, Bool.false_and, Bool.or_false, Bool.false_or, Bool.true_and, Bool.and_true, Bool.false_eq_true, Bool.and_eq_true, Bool.or_eq_true, not_true_eq_false, not_false_eq_true]; done)); refine r_te (r_prim2 (r_primP rfl (p_lenT rfl (a_p2 (r_primP rfl (p_lenT rfl (a_p2b (p_ne rfl (r_truB ?_))))))))); refine a_siteF ?wa ?_; (case wa => (simp only [decide_eq_true_eq, decide_eq_false_iff_not, Bool.not_eq_true, Bool.not_eq_true', Bool.not_eq_false, Bool.not_eq_false', decide_not, Bool.not_not, Bool.and_false, Bool.false_and, Bool.or_false, Bool.false_or, Bool.true_and, Bool.and_true, Bool.false_eq_true, Bool.and_eq_true, Bool.or_eq_true, not_true_eq_false, not_false_eq_true]; (first | lia | omega))); refine r_skip (r_seqN (r_seq (r_for (i_range (r_econs (r_primP rfl (p_lenT rfl (a_cons1 (r_pures rfl ?_))))))))); refine a_cons2 ?_; refine' i_rangeK ?wa ?_; (case wa => with_reducible assumption); refine a_for ?_)
      refine for_rule (fun i lm τ => ∃ pre suf seen', args = pre ++ suf ∧ pre.length = i ∧ lm 0 = some (.tup [.str "s", .int f, .tup (Tm.pvs args)]) ∧ lm 1 = some (.tup [.str "s", .int f, .tup (Tm.pvs (Tm.renL ρ args))]) ∧ lm 2 = some (.obj kt) ∧ lm 3 = some (.int lo) ∧
          τ[kt]? = some (.dict (tabd ρ seen')) ∧ (∀ x ∈ seen', 1001 ≤ x) ∧ seen'.length + Tm.sizeL suf ≤ seen.length + Tm.sizeL args ∧ Fr (fun j => j = kt) σ τ)
        ⟨[], args, seen, rfl, rfl, rfl, rfl, rfl, rfl, hk, hge, Nat.le_refl _, Fr.refl⟩ (fun _ _ _ _ => trivial) ?_ ?_
      · rintro i y lm τ K hy ⟨pre, suf, seen', e, rfl, l0, l1, l2, l3, hτ, hge', hb, F⟩ hK
        have hi := (List.getElem?_eq_some_iff.mp hy).1
        rw [rangeL_len, up_size] at hi
        have hy' := rangeL_at hy
        subst hy'
        cases suf with
        | nil => rw [e] at hi; simp at hi
        | cons p suf =>
          have hp : p.dep ≤ N := by
            have := Tm.depL_mem (l := args) (p := p) (by rw [e]; simp)
            (first | lia | omega)
          have hpv : ∀ n ∈ p.vars, n ≠ 1000 := fun n hn => hv n (Tm.varsL_mem (l := args) (p := p) (by rw [e]; simp) n hn)
          have hi1 : pyIdx (Tm.pvs args) (0 + 1 * (pre.length : Int)) = some p.pv := by
            rw [show (0 : Int) + 1 * (pre.length : Int) = ((pre.length : Nat) : Int) by (first | lia | omega)]
            refine pyIdx_nat ?_
            rw [Tm.pvs_eq, e]; simp
          have hi2 : pyIdx (Tm.pvs (Tm.renL ρ args)) (0 + 1 * (pre.length : Int)) = some (p.ren ρ).pv := by
            rw [show (0 : Int) + 1 * (pre.length : Int) = (((Tm.renL ρ pre).length : Nat) : Int) by rw [Tm.renL_len]; (first | lia | omega)]
            refine pyIdx_nat ?_
            rw [Tm.pvs_eq, e, Tm.renL_app, Tm.renL]; simp
          rw [Tm.sizeL] at hb
          (refine r_seq (r_site (r_tnot (r_te (r_call (r_econs (r_prim2 (r_prim2 ?_))))))); refine' r_var ?wa ?_; (case wa => assumption); refine a_p2 (r_int (a_p2b (p_idxT rfl rfl (a_p2 (r_var rfl (a_p2b ?_)))))); refine' p_idxT ?wa ?wb ?_; (case wa => rfl); (case wb => with_reducible assumption); refine a_cons1 (r_econs (r_prim2 (r_prim2 ?_))); refine' r_var ?wa ?_; (case wa => assumption); refine a_p2 (r_int (a_p2b (p_idxT rfl rfl (a_p2 (r_var rfl (a_p2b ?_)))))); refine' p_idxT ?wa ?wb ?_; (case wa => rfl); (case wb => with_reducible assumption); refine a_cons1 (r_econs ?_); refine' r_var ?wa ?_; (case wa => assumption); refine a_cons1 (r_econs ?_); refine' r_var ?wa ?_; (case wa => assumption); refine a_cons1 (r_pures rfl (a_cons2 (a_cons2 (a_cons2 (a_cons2 (a_call ?_)))))))
          refine ih N (by (first | lia | omega)) p hp hpv τ seen' _ hτ hge' (by (first | lia | omega)) fun τ' seen2 h2 hge2 hb2 F2 => ?_
          (refine r_truB (a_not ?_); refine a_siteF ?wa ?_; (case wa => decide); refine r_skip (r_seqN (r_skip (r_forN ?_))))
          exact hK _ _ ⟨pre ++ [p], suf, seen2, by rw [e]; simp, by simp, l0, l1, l2, l3, h2, hge2, by (first | lia | omega), F.trans F2⟩
      · rintro lm τ ⟨pre, suf, seen', e, hl', l0, l1, l2, l3, hτ, hge', hb, F⟩
        have : suf = [] := by
          rw [rangeL_len, up_size, e] at hl'
          cases suf with
          | nil => rfl
          | cons _ _ => simp at hl'
        subst this
        refine r_seqN (r_seq (r_ret (r_bool (a_ret (r_seqR (r_retR ?_))))))
        refine q τ seen' hτ hge' (by simp [Tm.sizeL] at hb; (first | lia | omega)) F
end
theorem eqL_cons {f : PV → PV → Option Bool} {x y : PV} {xs ys : List PV} (h : f x y = some true) (h2 : eqL f xs ys = some true) : eqL f (x :: xs) (y :: ys) = some true := by
  unfold eqL; rw [h, h2]; rfl
mutual
theorem eqv_refl : ∀ (t : Tm) (n : Nat), 2 * t.dep + 2 ≤ n → eqv n t.pv t.pv = some true
  | .v i, n, h => by obtain ⟨n, rfl⟩ : ∃ m, n = m + 2 := ⟨n - 2, by (first | lia | omega)⟩; simp [Tm.pv, eqv, eqL]
  | .a i, n, h => by obtain ⟨n, rfl⟩ : ∃ m, n = m + 2 := ⟨n - 2, by (first | lia | omega)⟩; simp [Tm.pv, eqv, eqL]
  | .i i, n, h => by obtain ⟨n, rfl⟩ : ∃ m, n = m + 2 := ⟨n - 2, by (first | lia | omega)⟩; simp [Tm.pv, eqv, eqL]
  | .s f args, n, h => by
    obtain ⟨n, rfl⟩ : ∃ m, n = m + 2 := ⟨n - 2, by (first | lia | omega)⟩
    rw [Tm.dep] at h
    have ih := eqL_refl args n (by (first | lia | omega))
    simp only [Tm.pv]
    unfold eqv
    refine eqL_cons (by simp [eqv]) (eqL_cons (by simp [eqv]) (eqL_cons ?_ rfl))
    unfold eqv
    exact ih
theorem eqL_refl : ∀ (l : List Tm) (n : Nat), 2 * Tm.depL l + 2 ≤ n → eqL (eqv n) (Tm.pvs l) (Tm.pvs l) = some true
  | [], _, _ => rfl
  | t :: r, n, h => by
    rw [Tm.depL] at h
    rw [Tm.pvs]
    exact eqL_cons (eqv_refl t n (by (first | lia | omega))) (eqL_refl r n (by (first | lia | omega)))
end
theorem eqS_refl (σ : St) (t : Tm) (h : t.dep ≤ 29) : eqS σ t.pv t.pv = some true := by
  have := eqv_refl t eqDepth (by unfold eqDepth; (first | lia | omega))
  cases t <;> exact this

structure W1 (σ : St) (k ks kl : Nat) (S : Sym) (L : List Int) : Prop where
  s : SymAt σ k S
  o : Sok S
  z : S0.le S
  p : SpAt σ ks kl L
  hs : ks < k
  hl : kl < k
section
variable {P : Pg} {σ σ' : St} {k m ks kl : Nat} {S : Sym} {L : List Int} {Q : EQ}
theorem W1.pull (h : W1 σ k ks kl S L) (F : Fr (fun j => j = ks) σ σ') (p : SpAt σ' ks kl L) : W1 σ' k ks kl S L :=
  ⟨h.s.frame F (fun j _ _ => by have := h.hs; (first | lia | omega)), h.o, h.z, p, h.hs, h.hl⟩
theorem W1.sym {S' : Sym} (h : W1 σ k ks kl S L) (F : Fr (symM k) σ σ') (s : SymAt σ' k S') (o : Sok S') (l : S.le S') : W1 σ' k ks kl S' L :=
  ⟨s, o, h.z.trans l, h.p.frame F (by have := h.hs; unfold symM; (first | lia | omega)) (by have := h.hl; unfold symM; (first | lia | omega)), h.hs, h.hl⟩
theorem W1.no (h : W1 σ k ks kl S L) (F : Fr (fun _ => False) σ σ') : W1 σ' k ks kl S L :=
  ⟨sym_no h.s F, h.o, h.z, h.p.frame F id id, h.hs, h.hl⟩
theorem W1.fr (h : W1 σ k ks kl S L) {j : Nat} (F : Fr (fun i => i = j) σ σ') (hj : k + 4 < j) : W1 σ' k ks kl S L :=
  ⟨h.s.frame F (fun i _ _ => by (first | lia | omega)), h.o, h.z, h.p.frame F (by have := h.hs; (first | lia | omega)) (by have := h.hl; (first | lia | omega)), h.hs, h.hl⟩
theorem W1.len (h : W1 σ k ks kl S L) : k + 4 < σ.length := (List.getElem?_eq_some_iff.mp h.s.fd).1
theorem pullW (T : Tab1 P) {lim : Int} (h : W1 σ k ks kl S L) (hlim : 0 < lim) (q : ∀ (r : Int) σ', 0 ≤ r → r < lim → W1 σ' k ks kl S L → Fr (MM k ks) σ σ' → Q (.int r) σ') : wpCall P (m + 1) 378 [.obj ks, .int lim] σ Q :=
  pull_S T h.p hlim fun r σ' h0 h1 p F => q r σ' h0 h1 (h.pull F p) (fr_kf F)
theorem atomW (T : Tab1 P) {x : Str} (h : W1 σ k ks kl S L) (hx : x ∈ AL) (q : ∀ (i : Nat) S' σ', S.le S' → S'.texts[i]? = some x → W1 σ' k ks kl S' L → Fr (MM k ks) σ σ' → Q (.int (i : Int)) σ') : wpCall P (m + 1) 88 [.obj k, .str x] σ Q :=
  atomS T.toTabP h.s h.o hx fun i σ' e s o F => q i _ σ' (S.le_addA x) e (h.sym F s o (S.le_addA x)) (fr_sym F)
theorem funcW (T : Tab1 P) {x : Str} {r : Int} (h : W1 σ k ks kl S L) (hx : x ∈ AL) (hr : 0 ≤ r ∧ r ≤ 8) (q : ∀ (a i : Nat) S' σ', S.le S' → S'.texts[a]? = some x → S'.funs[i]? = some ((a : Int), r) → W1 σ' k ks kl S' L → Fr (MM k ks) σ σ' → Q (.int (i : Int)) σ') : wpCall P (m + 2) 109 [.obj k, .str x, .int r] σ Q :=
  funcS T.toTabP h.s h.o hx hr fun a i σ' e1 e2 s o F => q a i _ σ' ((S.le_addA x).trans (Sym.le_addF _ _ _)) (le_text (Sym.le_addF _ _ _) e1) e2 (h.sym F s o ((S.le_addA x).trans (Sym.le_addF _ _ _))) (fr_sym F)
theorem functorW (T : Tab1 P) {a r : Int} (h : W1 σ k ks kl S L) (hk : 0 ≤ a ∧ a < 40 ∧ 0 ≤ r ∧ r ≤ 8) (q : ∀ (i : Nat) S' σ', S.le S' → S'.funs[i]? = some (a, r) → W1 σ' k ks kl S' L → Fr (MM k ks) σ σ' → Q (.int (i : Int)) σ') : wpCall P (m + 1) 102 [.obj k, .int a, .int r] σ Q :=
  functorS T.toTabP h.s h.o hk fun i σ' e s o F => q i _ σ' (S.le_addF a r) e (h.sym F s o (S.le_addF a r)) (fr_sym F)
theorem text_ge (h : S0.le S) {i : Nat} {x : Str} (e : S.texts[i]? = some x) (hx : x ∉ fixedT) : 29 ≤ i := by
  rcases Nat.lt_or_ge i 29 with hi | hi
  · obtain ⟨⟨l, e'⟩, _⟩ := h
    rw [e', List.getElem?_append_left (by exact hi)] at e
    exact absurd (List.mem_of_getElem? e) hx
  · exact hi
theorem func_ge (h : S0.le S) {i : Nat} {a r : Int} (e : S.funs[i]? = some (a, r)) (ha : 29 ≤ a) : 32 ≤ i := by
  rcases Nat.lt_or_ge i 32 with hi | hi
  · obtain ⟨_, ⟨l, e'⟩⟩ := h
    rw [e', List.getElem?_append_left (by exact hi)] at e
    have hm : (a, r) ∈ S0.funs := List.mem_of_getElem? e
    have : ∀ p ∈ S0.funs, p.1 < 29 := by decide +kernel
    have := this _ hm
    simp at this
    (first | lia | omega)
  · exact hi

noncomputable def ItOk (its : List Tm) : Prop := (∀ n ∈ Tm.varsL its, n < 1000) ∧ Tm.sizeL its = its.length ∧ Tm.depL its = 0
theorem ItOk.snoc {its : List Tm} {t : Tm} (h : ItOk its) (h1 : ∀ n ∈ t.vars, n < 1000) (h2 : t.size = 1) (h3 : t.dep = 0) : ItOk (its ++ [t]) := by
  refine ⟨fun n hn => ?_, ?_, ?_⟩
  · rw [Tm.varsL_app, List.mem_append] at hn
    rcases hn with hn | hn
    · exact h.1 n hn
    · exact h1 n (by simpa [Tm.varsL] using hn)
  · rw [Tm.sizeL_app, h.2.1, Tm.sizeL, h2]; simp [Tm.sizeL]
  · have := h.2.2
    have depL_app : ∀ l m : List Tm, Tm.depL l = 0 → Tm.depL m = 0 → Tm.depL (l ++ m) = 0 := by
      intro l m hl hm
      induction l with
      | nil => exact hm
      | cons x r ih =>
        rw [Tm.depL] at hl
        rw [List.cons_append, Tm.depL, ih (by (first | lia | omega))]; (first | lia | omega)
    exact depL_app _ _ h.2.2 (by simp [Tm.depL, h3])
theorem items_S (T : Tab1 P) (h : W1 σ k ks kl S L) (q : ∀ S' σ' its ko, S.le S' → W1 σ' k ks kl S' L → Fr (MM k ks) σ σ' → σ.length ≤ ko → σ'[ko]? = some (.list (Tm.pvs its)) → ItOk its → its ≠ [] → its.length ≤ 2 → Q (.obj ko) σ') : wpCall P (m + 2) 399 [.obj ks, .obj k] σ Q := by
  have T' : TabP P := T.toTabP
  have hbig0 : (0 : Nat) ≤ big := by decide
  have hbig2 : (2 : Nat) ≤ big := by decide
  have hbig3 : (3 : Nat) ≤ big := by decide
  refine enter T.f399 rfl ?_
  unfold b_399
  (refine r_seq (r_assign (r_list (r_pures rfl ?_))); refine a_list ?wa ?_; (case wa => assumption); refine a_asg (t_var (a_nx (r_seqN (r_seq (r_for (i_range (r_econs (r_prim2 (r_int ?_))))))))); refine a_p2 (r_callP rfl ?_))
  refine pullW T (h.no (Fr.new _)) (by (first | lia | omega)) fun r σ₁ r0 r1 h1 F1 => ?_
  obtain ⟨n, rfl⟩ : ∃ n : Nat, r = n := ⟨r.toNat, by (first | lia | omega)⟩
  have hR : rangeOf [.int (1 + (n : Int))] (rangeL 0 ((n + 1 : Nat) : Int) 1) := by
    rw [show (1 : Int) + (n : Int) = ((n + 1 : Nat) : Int) by (first | lia | omega)]; exact up_range _ (by (first | lia | omega))
  (refine a_p2b (p_addI (a_cons1 (r_pures rfl (a_cons2 ?_)))); refine' i_rangeK ?wa ?_; (case wa => with_reducible assumption); refine a_for ?_)
  have hlen0 := h.len
  have nM : ¬ MM k ks σ.length := fun hm => by have := h.hs; unfold MM symM at hm; (first | lia | omega)
  have hko := F1.at' _ _ get_new nM
  refine for_rule (fun i lm τ => ∃ its S', its.length = i ∧ lm 0 = some (.obj ks) ∧ lm 1 = some (.obj k) ∧ lm 2 = some (.obj σ.length) ∧ S.le S' ∧ W1 τ k ks kl S' L ∧ Fr (MM k ks) σ τ ∧ τ[σ.length]? = some (.list (Tm.pvs its)) ∧ ItOk its)
    ⟨[], S, rfl, rfl, rfl, rfl, S.le_refl, h1, (Fr.new _).trans F1, hko, ⟨fun _ h => (nomatch h), rfl, rfl⟩⟩ (fun _ _ _ _ => trivial) ?_ ?_
  · rintro i y lm τ K hy ⟨its, S', rfl, l0, l1, l2, hle, hW, F, hτ, hit⟩ hK
    have hi := (List.getElem?_eq_some_iff.mp hy).1
    rw [rangeL_len, up_size] at hi
    have hlen : (Tm.pvs its).length < big := by rw [Tm.pvs_len]; unfold big; (first | lia | omega)
    have ei := hW.s.i
    (refine r_seq (r_expr (r_bm ?_)); refine' r_var ?wa ?_; (case wa => assumption); refine a_bm ?wa ?_; (case wa => (refine' bmOk_list ?wz (by intro e; cases e); (case wz => assumption))); refine r_econs (r_prim2 (r_list (r_econs (r_tup (r_econs (r_str (a_cons1 (r_econs (r_meth ?_))))))))); refine' r_var ?wa ?_; (case wa => assumption); refine' r_methK ?wa ?wb ?wc ?_; (case wa => assumption); (case wb => exact TabP.m8 (by assumption)); (case wc => rfl); refine r_pures rfl (a_meth ?_))
    refine atomW T hW (by decide +kernel) fun a S₂ σ₂ hle2 e2 h2 F2 => ?_
    (refine a_cons1 (r_pures rfl (a_cons2 (a_cons2 ?_))); refine a_tup ?wa ?_; (case wa => assumption); refine a_cons1 (r_pures rfl (a_cons2 ?_)); refine a_list ?wa ?_; (case wa => assumption); refine a_p2 (r_call (r_econs ?_)); refine' r_var ?wa ?_; (case wa => assumption); refine a_cons1 (r_pures rfl (a_cons2 (a_call ?_))))
    refine pullW T (h2.no (Fr.new _)) (by (first | lia | omega)) fun r σ₃ r0 r1 h3 F3 => ?_
    have hlen2 := h2.len
    have nM2 : ¬ MM k ks σ₂.length := fun hm => by have := h.hs; unfold MM symM at hm; (first | lia | omega)
    have hlit := F3.at' _ _ get_new nM2
    have hτ3 : σ₃[σ.length]? = some (.list (Tm.pvs its)) := F3.at' _ _ (get_app (F2.at' _ _ hτ nM)) nM
    have FF : Fr (MM k ks) σ σ₃ := ((F.trans F2).trans (Fr.new _)).trans F3
    have fin : ∀ (t : Tm) (lm' : LM), lm' 0 = some (.obj ks) → lm' 1 = some (.obj k) → lm' 2 = some (.obj σ.length) → (∀ n ∈ t.vars, n < 1000) → t.size = 1 → t.dep = 0 → K lm' (σ₃.set σ.length (.list (Tm.pvs its ++ [t.pv]))) := fun t lm' a b c v1 v2 v3 => by
      have F4 : Fr (fun j => j = σ.length) σ₃ (σ₃.set σ.length (.list (Tm.pvs its ++ [t.pv]))) := Fr.set rfl
      refine hK _ _ ⟨its ++ [t], S₂, by simp, a, b, c, hle.trans hle2, h3.fr F4 (by (first | lia | omega)), FF.setNew (Nat.le_refl _), ?_, hit.snoc v1 v2 v3⟩
      rw [Tm.pvs_app]; exact get_set_eq hτ3
    have hr : r = 0 ∨ r = 1 ∨ r = 2 := by (first | lia | omega)
    rcases hr with rfl | rfl | rfl
    · (refine a_p2b ?_; refine' p_idxL ?wa ?wb ?_; (case wa => assumption); (case wb => rfl); refine a_cons1 (r_pures rfl (a_cons2 (a_bm2 ?_))); refine' b_append ?wa ?wb ?_; (case wa => assumption); (case wb => assumption); refine a_exp (r_seqN (r_skip (r_forN ?_))))
      exact fin (.a a) _ l0 l1 l2 (fun _ h => (nomatch h)) rfl rfl
    · (refine a_p2b ?_; refine' p_idxL ?wa ?wb ?_; (case wa => assumption); (case wb => rfl); refine a_cons1 (r_pures rfl (a_cons2 (a_bm2 ?_))); refine' b_append ?wa ?wb ?_; (case wa => assumption); (case wb => assumption); refine a_exp (r_seqN (r_skip (r_forN ?_))))
      exact fin (.v 1) _ l0 l1 l2 (fun n h => by simp [Tm.vars] at h; (first | lia | omega)) rfl rfl
    · (refine a_p2b ?_; refine' p_idxL ?wa ?wb ?_; (case wa => assumption); (case wb => rfl); refine a_cons1 (r_pures rfl (a_cons2 (a_bm2 ?_))); refine' b_append ?wa ?wb ?_; (case wa => assumption); (case wb => assumption); refine a_exp (r_seqN (r_skip (r_forN ?_))))
      exact fin (.i 44) _ l0 l1 l2 (fun _ h => (nomatch h)) rfl rfl
  · rintro lm τ ⟨its, S', hl, l0, l1, l2, hle, hW, F, hτ, hit⟩
    rw [rangeL_len, up_size] at hl
    (refine r_seqN (r_seq (r_ret ?_)); refine' r_var ?wa ?_; (case wa => assumption); refine a_ret (r_seqR (r_retR ?_)))
    exact q S' τ its _ hle hW F (Nat.le_refl _) hτ hit (fun e => by rw [e] at hl; simp at hl) (by (first | lia | omega))
end
structure ThOk (S : Sym) (b : Bd) : Prop where
  head : isHead b
  ok : b.ok S
  p : b.isP S
  v : ∀ n ∈ b.tm.vars, n < 1000
  dp : b.dp = 0
  size : b.tm.size ≤ 3
  dep : b.tm.dep ≤ 1
theorem thOk_atom {S : Sym} {i : Nat} (h : 29 ≤ i) (h2 : i < 40) : ThOk S (.atom i) :=
  ⟨trivial, ⟨by (first | lia | omega), by (first | lia | omega), h2⟩, trivial, fun _ h => (nomatch h), rfl, by simp [Bd.tm, Tm.size], by simp [Bd.tm, Tm.dep]⟩
theorem thOk_cmp {S : Sym} {f a : Nat} {args : List Tm} (hf : S.funs[f]? = some ((a : Int), (args.length : Int))) (hp : S.texts[a]? = some "p") (h29 : 29 ≤ a) (h32 : 32 ≤ f) (hl : args.length ≤ 2) (hv : ∀ n ∈ Tm.varsL args, n < 1000) (hs : Tm.sizeL args = args.length) (hd : Tm.depL args = 0) : ThOk S (.cmp f a args) :=
  ⟨trivial, ⟨hf, by (first | lia | omega), h32, by (first | lia | omega)⟩, hp, by simp only [Bd.tm, Tm.vars]; exact hv, rfl, by simp only [Bd.tm, Tm.size]; (first | lia | omega), by simp only [Bd.tm, Tm.dep]; (first | lia | omega)⟩
section
variable {P : Pg} {σ σ' : St} {k m ks kl : Nat} {S : Sym} {L : List Int} {Q : EQ}
theorem thing_S (T : Tab1 P) (h : W1 σ k ks kl S L) (q : ∀ S' σ' b, S.le S' → W1 σ' k ks kl S' L → Fr (MM k ks) σ σ' → ThOk S' b → Q b.tm.pv σ') : wpCall P (m + 3) 404 [.obj ks, .obj k] σ Q := by
  have T' : TabP P := T.toTabP
  have hbig0 : (0 : Nat) < big := by decide
  have hbig1 : (1 : Nat) < big := by decide
  have hbig2 : (2 : Nat) ≤ big := by decide
  have hbig3 : (3 : Nat) ≤ big := by decide
  refine enter T.f404 rfl ?_
  unfold b_404
  refine r_seq (r_assign (r_callP rfl ?_))
  refine pullW T h (by (first | lia | omega)) fun r σ₁ r0 r1 h1 F1 => ?_
  have ei := h1.s.i
  have hr : r = 0 ∨ r = 1 ∨ r = 2 := by (first | lia | omega)
  rcases hr with rfl | rfl | rfl
  · (refine a_asg (t_var (a_nx (r_seqN (r_seq (r_site (r_te (r_primP rfl (p_eq rfl (r_truB ?_))))))))); refine a_siteT rfl (r_seq (r_ret (r_tup (r_econs (r_str (a_cons1 (r_econs (r_meth (r_var rfl ?_))))))))); refine' r_methK ?wa ?wb ?wc ?_; (case wa => assumption); (case wb => exact TabP.m8 (by assumption)); (case wc => rfl); refine r_pures rfl (a_meth ?_))
    refine atomW T h1 (by decide +kernel) fun a S₂ σ₂ hle2 e2 h2 F2 => ?_
    (refine a_cons1 (r_pures rfl (a_cons2 (a_cons2 ?_))); refine a_tup ?wa ?_; (case wa => assumption); refine a_ret (r_seqR (r_seqR (r_retR ?_))))
    have hb := h2.o.bt
    have := (List.getElem?_eq_some_iff.mp e2).1
    exact q S₂ σ₂ (.atom a) hle2 h2 (F1.trans F2) (thOk_atom (text_ge h2.z e2 (by decide +kernel)) (by (first | lia | omega)))
  · have hR : rangeOf [.int 1] [.int 0] := .inl ⟨_, rfl, rfl, rfl⟩
    (refine a_asg (t_var (a_nx (r_seqN (r_seq (r_site (r_te (r_primP rfl (p_eq rfl (r_truB ?_))))))))); refine a_siteF ?wa ?_; (case wa => decide); refine r_skip (r_seqN (r_seq (r_ret (r_tup (r_econs (r_str (a_cons1 (r_econs (r_meth ?_))))))))); refine r_var rfl ?_; refine' r_methK ?wa ?wb ?wc ?_; (case wa => assumption); (case wb => exact TabP.m11 (by assumption)); (case wc => rfl); refine r_pures rfl (a_meth ?_))
    refine funcW T h1 (by decide +kernel) (by (first | lia | omega)) fun a i S₂ σ₂ hle2 e2 e3 h2 F2 => ?_
    (refine a_cons1 (r_econs (r_prim1 (r_comp (i_range (r_pures rfl ?_))))); refine' i_rangeK ?wa ?_; (case wa => with_reducible assumption); refine c_cons ?wa ?_; (case wa => trivial); refine r_tt (of_ite_pos rfl (r_tup (r_econs (r_str (a_cons1 (r_econs (r_callP rfl ?_))))))))
    refine pullW T h2 (by (first | lia | omega)) fun r σ₃ r0 r1 h3 F3 => ?_
    (refine a_cons1 (r_pures rfl (a_cons2 (a_cons2 ?_))); refine a_tup ?wa ?_; (case wa => assumption); refine And.intro ?wa ?_; (case wa => assumption); refine c_nil ?wa ?_; (case wa => trivial); refine a_p1 ?_; refine' p_tupL ?wa ?_; (case wa => exact get_new); refine a_cons1 (r_pures rfl (a_cons2 (a_cons2 (a_cons2 ?_)))); refine a_tup ?wa ?_; (case wa => assumption); refine a_ret (r_seqR (r_retR ?_)))
    have h29 := text_ge h2.z e2 (by decide +kernel)
    refine cast_q (q S₂ _ (.cmp i a [.v r]) hle2 (h3.no (Fr.new _)) (((F1.trans F2).trans F3).trans (Fr.new _)) (thOk_cmp e3 e2 h29 (func_ge h2.z e3 (by (first | lia | omega))) (by simp) (fun n h => by simp [Tm.varsL, Tm.vars] at h; (first | lia | omega)) rfl rfl)) ?_
    simp only [Bd.tm, Tm.pv, Tm.pvs, List.nil_append]
  · have hR : rangeOf [.int 2] [.int 0, .int 1] := .inl ⟨_, rfl, rfl, rfl⟩
    (refine a_asg (t_var (a_nx (r_seqN (r_seq (r_site (r_te (r_primP rfl (p_eq rfl (r_truB ?_))))))))); refine a_siteF ?wa ?_; (case wa => decide); refine r_skip (r_seqN (r_seq (r_ret (r_tup (r_econs (r_str (a_cons1 (r_econs (r_meth ?_))))))))); refine r_var rfl ?_; refine' r_methK ?wa ?wb ?wc ?_; (case wa => assumption); (case wb => exact TabP.m11 (by assumption)); (case wc => rfl); refine r_pures rfl (a_meth ?_))
    refine funcW T h1 (by decide +kernel) (by (first | lia | omega)) fun a i S₂ σ₂ hle2 e2 e3 h2 F2 => ?_
    (refine a_cons1 (r_econs (r_prim1 (r_comp (i_range (r_pures rfl ?_))))); refine' i_rangeK ?wa ?_; (case wa => with_reducible assumption); refine c_cons ?wa ?_; (case wa => trivial); refine r_tt (of_ite_pos rfl (r_tup (r_econs (r_str (a_cons1 (r_econs (r_callP rfl ?_))))))))
    refine pullW T h2 (by (first | lia | omega)) fun r σ₃ r0 r1 h3 F3 => ?_
    (refine a_cons1 (r_pures rfl (a_cons2 (a_cons2 ?_))); refine a_tup ?wa ?_; (case wa => assumption); refine And.intro ?wa ?_; (case wa => assumption); refine c_cons ?wa ?_; (case wa => trivial); refine r_tt (of_ite_pos rfl (r_tup (r_econs (r_str (a_cons1 (r_econs (r_callP rfl ?_))))))))
    refine pullW T h3 (by (first | lia | omega)) fun r' σ₄ r0' r1' h4 F4 => ?_
    (refine a_cons1 (r_pures rfl (a_cons2 (a_cons2 ?_))); refine a_tup ?wa ?_; (case wa => assumption); refine And.intro ?wa ?_; (case wa => assumption); refine c_nil ?wa ?_; (case wa => trivial); refine a_p1 ?_; refine' p_tupL ?wa ?_; (case wa => exact get_new); refine a_cons1 (r_pures rfl (a_cons2 (a_cons2 (a_cons2 ?_)))); refine a_tup ?wa ?_; (case wa => assumption); refine a_ret (r_seqR (r_retR ?_)))
    have h29 := text_ge h2.z e2 (by decide +kernel)
    refine cast_q (q S₂ _ (.cmp i a [.v r, .v r']) hle2 (h4.no (Fr.new _)) ((((F1.trans F2).trans F3).trans F4).trans (Fr.new _)) (thOk_cmp e3 e2 h29 (func_ge h2.z e3 (by (first | lia | omega))) (by simp) (fun n h => by simp [Tm.varsL, Tm.vars] at h; (first | lia | omega)) rfl rfl)) ?_
    simp only [Bd.tm, Tm.pv, Tm.pvs, List.nil_append, List.cons_append]
theorem goal_S (T : Tab1 P) (h : W1 σ k ks kl S L) (q : ∀ S' σ' (g : Tm), S.le S' → W1 σ' k ks kl S' L → Fr (MM k ks) σ σ' → (∀ n ∈ g.vars, n < 1000) → g.size ≤ 7 → g.dep ≤ 3 → Q g.pv σ') : wpCall P (m + 3) 411 [.obj ks, .obj k] σ Q := by
  have T' : TabP P := T.toTabP
  have hbig1 : (1 : Nat) ≤ big := by decide
  have hbig2 : (2 : Nat) ≤ big := by decide
  have hbig3 : (3 : Nat) ≤ big := by decide
  have ei := h.s.i
  refine enter T.f411 rfl ?_
  unfold b_411
  (refine r_seq (r_assign (r_tup (r_econs (r_str (a_cons1 (r_econs (r_meth (r_var rfl ?_)))))))); refine' r_methK ?wa ?wb ?wc ?_; (case wa => assumption); (case wb => exact TabP.m11 (by assumption)); (case wc => rfl); refine r_pures rfl (a_meth ?_))
  refine funcW T h (by decide +kernel) (by (first | lia | omega)) fun a i S₂ σ₂ hle2 e2 e3 h2 F2 => ?_
  (refine a_cons1 (r_pures rfl (a_cons2 (a_cons2 ?_))); refine a_tup ?wa ?_; (case wa => assumption); refine a_asg (t_var (a_nx (r_seqN (r_seq (r_site (r_te (r_prim2 (r_callP rfl ?_)))))))))
  refine pullW T h2 (by (first | lia | omega)) fun r σ₃ r0 r1 h3 F3 => ?_
  have hr : r = 0 ∨ r = 1 := by (first | lia | omega)
  rcases hr with rfl | rfl
  · (refine a_p2 (r_int (a_p2b (p_eq rfl (r_truB ?_)))); refine a_siteF ?wa ?_; (case wa => decide); refine r_skip (r_seqN (r_seq (r_ret (r_var rfl (a_ret (r_seqR (r_retR ?_))))))))
    exact q S₂ σ₃ (.s i [.v 2]) hle2 h3 (F2.trans F3) (fun n h => by simp [Tm.varsL, Tm.vars] at h; (first | lia | omega)) (by simp [Tm.size, Tm.sizeL]) (by simp [Tm.dep, Tm.depL])
  · (refine a_p2 (r_int (a_p2b (p_eq rfl (r_truB (a_siteT rfl (r_seq (r_ret (r_call (r_econs ?_))))))))); refine r_int (a_cons1 (r_econs (r_callP rfl ?_))))
    refine pair_S T (x := .s i [.v 2]) (y := .v 0) ?_
    refine a_cons1 (r_pures rfl (a_cons2 (a_cons2 (a_call ?_))))
    refine pair_S T (x := .s 1 [.s i [.v 2], .v 0]) (y := .s i [.v 2]) ?_
    refine a_ret (r_seqR (r_seqR (r_retR ?_)))
    exact q S₂ σ₃ _ hle2 h3 (F2.trans F3) (fun n h => by simp [Tm.varsL, Tm.vars] at h; (first | lia | omega)) (by simp [Tm.size, Tm.sizeL]) (by simp [Tm.dep, Tm.depL])

noncomputable def szB : Nat → Nat
  | 0 => 8
  | d + 1 => 2 * szB d + 1
theorem szB_ge : ∀ d, 8 ≤ szB d
  | 0 => Nat.le_refl _
  | d + 1 => by have := szB_ge d; rw [szB]; (first | lia | omega)
structure BdOk (S : Sym) (d : Nat) (b : Bd) : Prop where
  ok : b.ok S
  p : b.isP S
  v : ∀ n ∈ b.tm.vars, n < 1000
  dp : b.dp ≤ d
  size : b.tm.size ≤ szB d
  dep : b.tm.dep ≤ d + 4
theorem BdOk.le {S S' : Sym} {d : Nat} {b : Bd} (h : BdOk S d b) (l : S.le S') : BdOk S' d b := ⟨Bd.ok_le l h.ok, Bd.isP_le l h.p, h.v, h.dp, h.size, h.dep⟩
theorem BdOk.th {S : Sym} {d : Nat} {b : Bd} (h : ThOk S b) : BdOk S d b := ⟨h.ok, h.p, h.v, by rw [h.dp]; (first | lia | omega), by have := h.size; have := szB_ge d; (first | lia | omega), by have := h.dep; (first | lia | omega)⟩
theorem BdOk.neg {S : Sym} {d : Nat} {b : Bd} (h : BdOk S d b) : BdOk S (d + 1) (.neg b) :=
  ⟨h.ok, h.p, by simpa [Bd.tm, Tm.vars, Tm.varsL] using h.v, by have := h.dp; simp only [Bd.dp]; (first | lia | omega), by have := h.size; simp only [Bd.tm, Tm.size, Tm.sizeL, szB]; (first | lia | omega), by have := h.dep; simp only [Bd.tm, Tm.dep, Tm.depL]; (first | lia | omega)⟩
theorem BdOk.seq {S : Sym} {d : Nat} {f : Int} {a b : Bd} (hf : f = 1 ∨ f = 3) (ha : BdOk S d a) (hb : BdOk S d b) : BdOk S (d + 1) (.seq f a b) := by
  refine ⟨⟨hf, ha.ok, hb.ok⟩, ⟨ha.p, hb.p⟩, fun n hn => ?_, ?_, ?_, ?_⟩
  · have : n ∈ a.tm.vars ∨ n ∈ b.tm.vars := by simpa [Bd.tm, Tm.vars, Tm.varsL] using hn
    exact this.elim (ha.v n) (hb.v n)
  · have := ha.dp; have := hb.dp; simp only [Bd.dp]; (first | lia | omega)
  · have := ha.size; have := hb.size; simp only [Bd.tm, Tm.size, Tm.sizeL, szB]; (first | lia | omega)
  · have := ha.dep; have := hb.dep; simp only [Bd.tm, Tm.dep, Tm.depL]; (first | lia | omega)
theorem BdOk.alt {S : Sym} {d : Nat} {f : Int} {a b : Bd} (hf : f = 2 ∨ ∃ i : Nat, f = i ∧ 32 ≤ i ∧ S.funs[i]? = some (8, 2)) (ha : BdOk S d a) (hb : BdOk S d b) : BdOk S (d + 1) (.alt f a b) := by
  refine ⟨⟨hf, ha.ok, hb.ok⟩, ⟨ha.p, hb.p⟩, fun n hn => ?_, ?_, ?_, ?_⟩
  · have : n ∈ a.tm.vars ∨ n ∈ b.tm.vars := by simpa [Bd.tm, Tm.vars, Tm.varsL] using hn
    exact this.elim (ha.v n) (hb.v n)
  · have := ha.dp; have := hb.dp; simp only [Bd.dp]; (first | lia | omega)
  · have := ha.size; have := hb.size; simp only [Bd.tm, Tm.size, Tm.sizeL, szB]; (first | lia | omega)
  · have := ha.dep; have := hb.dep; simp only [Bd.tm, Tm.dep, Tm.depL]; (first | lia | omega)
theorem listT_vars (z : Tm) : ∀ its : List Tm, (listT its z).vars = Tm.varsL its ++ z.vars
  | [] => rfl
  | t :: r => by
    have := listT_vars z r
    unfold listT at this ⊢
    rw [List.foldr_cons]
    simp only [Tm.vars, Tm.varsL]
    rw [this]; simp
theorem listT_size (z : Tm) : ∀ its : List Tm, (listT its z).size = its.length + Tm.sizeL its + z.size
  | [] => by simp [listT, Tm.sizeL]
  | t :: r => by
    have := listT_size z r
    unfold listT at this ⊢
    rw [List.foldr_cons]
    simp only [Tm.size, Tm.sizeL, List.length_cons]
    rw [this]; (first | lia | omega)
theorem listT_dep (z : Tm) : ∀ its : List Tm, Tm.depL its = 0 → (listT its z).dep ≤ its.length + z.dep
  | [], _ => by simp [listT]
  | t :: r, h => by
    rw [Tm.depL] at h
    have := listT_dep z r (by (first | lia | omega))
    unfold listT at this ⊢
    rw [List.foldr_cons]
    simp only [Tm.dep, Tm.depL, List.length_cons]
    (first | lia | omega)
theorem BdOk.lst {S : Sym} {d : Nat} {its : List Tm} (h : ItOk its) (hne : its ≠ []) (hl : its.length ≤ 2) : BdOk S d (.lst its) := by
  have := szB_ge d
  refine ⟨⟨by (first | lia | omega), ?_⟩, trivial, ?_, by simp [Bd.dp], ?_, ?_⟩
  · cases its with
    | nil => exact absurd rfl hne
    | cons t r => exact ⟨t, r, rfl⟩
  · intro n hn
    simp only [Bd.tm] at hn
    rw [listT_vars] at hn
    exact h.1 n (by simpa [Tm.vars] using hn)
  · simp only [Bd.tm]; rw [listT_size, h.2.1, Tm.size]; (first | lia | omega)
  · simp only [Bd.tm]
    have := listT_dep (.a 0) its h.2.2
    simp only [Tm.dep] at this
    (first | lia | omega)
end
noncomputable def BdS (P : Pg) (d m : Nat) : Prop := ∀ {σ : St} {k ks kl : Nat} {S : Sym} {L : List Int} {Q : EQ}, W1 σ k ks kl S L → (∀ S' σ' b, S.le S' → W1 σ' k ks kl S' L → Fr (MM k ks) σ σ' → BdOk S' d b → Q b.tm.pv σ') → wpCall P m 418 [.obj ks, .obj k, .int (d : Int)] σ Q
section
variable {P : Pg}
theorem bdOk_nil {S : Sym} {d : Nat} : BdOk S d .nil := ⟨trivial, trivial, fun _ h => (nomatch h), Nat.zero_le _, by have := szB_ge d; simp only [Bd.tm, Tm.size]; (first | lia | omega), by simp [Bd.tm, Tm.dep]⟩
theorem bdOk_cut {S : Sym} {d : Nat} : BdOk S d .cut := ⟨trivial, trivial, fun _ h => (nomatch h), Nat.zero_le _, by have := szB_ge d; simp only [Bd.tm, Tm.size]; (first | lia | omega), by simp [Bd.tm, Tm.dep]⟩
theorem bdOk_curly {S : Sym} {d : Nat} {g : Tm} (h1 : ∀ n ∈ g.vars, n < 1000) (h2 : g.size ≤ 7) (h3 : g.dep ≤ 3) : BdOk S d (.curly g) := ⟨trivial, trivial, by simpa [Bd.tm, Tm.vars, Tm.varsL] using h1, Nat.zero_le _, by have := szB_ge d; simp only [Bd.tm, Tm.size, Tm.sizeL]; (first | lia | omega), by simp only [Bd.tm, Tm.dep, Tm.depL]; (first | lia | omega)⟩
theorem bdOk_var {S : Sym} {d : Nat} {n : Int} (h : n < 1000) : BdOk S d (.var n) := ⟨trivial, trivial, fun x hx => by simp [Bd.tm, Tm.vars] at hx; (first | lia | omega), Nat.zero_le _, by have := szB_ge d; simp only [Bd.tm, Tm.size]; (first | lia | omega), by simp [Bd.tm, Tm.dep]⟩
noncomputable def b418r : MS := match b_418 with
  | .seq _ r => r
  | x => x
theorem leaf_mk (T : Tab1 P) (m d : Nat) {dd : Int} {σ : St} {k ks kl : Nat} {S : Sym} {L : List Int} {Q : EQ} (h : W1 σ k ks kl S L) {r : Int} (r0 : 0 ≤ r) (r1 : r < 6)
    (q : ∀ S' σ' b, S.le S' → W1 σ' k ks kl S' L → Fr (MM k ks) σ σ' → BdOk S' d b → Q b.tm.pv σ') :
    wps (wpCall P (m + 4)) P b418r (upd (lmOf [.obj ks, .obj k, .int dd]) 3 (.int r)) σ (retK Q) := by
  have T' : TabP P := T.toTabP
  have hbig1 : (1 : Nat) ≤ big := by decide
  have hbig2 : (2 : Nat) ≤ big := by decide
  have hbig3 : (3 : Nat) ≤ big := by decide
  unfold b418r b_418
  dsimp only
  by_cases e0 : r = 0
  · (refine r_seq (r_site (r_te (r_primP rfl (p_eq rfl (r_truB ?_))))); refine a_siteT ?wa ?_; (case wa => (simp only [decide_eq_true_eq, decide_eq_false_iff_not, Bool.not_eq_true, Bool.not_eq_true', Bool.not_eq_false, Bool.not_eq_false', decide_not, Bool.not_not, Bool.and_false, Bool.false_and, Bool.or_false, Bool.false_or, Bool.true_and, Bool.and_true, Bool.false_eq_true, Bool.and_eq_true, Bool.or_eq_true, not_true_eq_false, not_false_eq_true]; assumption)); refine r_seq (r_ret (r_call (r_econs (r_callP rfl ?_)))))
    refine items_S (m := m + 2) T h fun S₂ σ₂ its ko l2 h2 F2 hko hits hit hne hlen => ?_
    refine a_cons1 (r_pures rfl (a_cons2 (a_call ?_)))
    refine law_list_S (m := m + 2) (e := .a 0) T hits fun σ₃ F3 => ?_
    refine a_ret (r_seqR (r_seqR (r_retR ?_)))
    exact q S₂ σ₃ (.lst its) l2 (h2.no F3) (F2.trans (fr_no F3)) (.lst hit hne hlen)
  by_cases e1 : r = 1
  · (refine r_seq (r_site (r_te (r_primP rfl (p_eq rfl (r_truB ?_))))); refine a_siteF ?wa ?_; (case wa => (simp only [decide_eq_true_eq, decide_eq_false_iff_not, Bool.not_eq_true, Bool.not_eq_true', Bool.not_eq_false, Bool.not_eq_false', decide_not, Bool.not_not, Bool.and_false, Bool.false_and, Bool.or_false, Bool.false_or, Bool.true_and, Bool.and_true, Bool.false_eq_true, Bool.and_eq_true, Bool.or_eq_true, not_true_eq_false, not_false_eq_true]; assumption)); refine r_skip (r_seqN (r_seq (r_site (r_te (r_primP rfl (p_eq rfl (r_truB ?_))))))); refine a_siteT ?wa ?_; (case wa => (simp only [decide_eq_true_eq, decide_eq_false_iff_not, Bool.not_eq_true, Bool.not_eq_true', Bool.not_eq_false, Bool.not_eq_false', decide_not, Bool.not_not, Bool.and_false, Bool.false_and, Bool.or_false, Bool.false_or, Bool.true_and, Bool.and_true, Bool.false_eq_true, Bool.and_eq_true, Bool.or_eq_true, not_true_eq_false, not_false_eq_true]; assumption)); refine r_seq (r_ret (r_tupP rfl (a_ret (r_seqR (r_seqR (r_retR ?_)))))))
    exact q S σ .nil S.le_refl h Fr.refl bdOk_nil
  by_cases e2 : r = 2
  · (refine r_seq (r_site (r_te (r_primP rfl (p_eq rfl (r_truB ?_))))); refine a_siteF ?wa ?_; (case wa => (simp only [decide_eq_true_eq, decide_eq_false_iff_not, Bool.not_eq_true, Bool.not_eq_true', Bool.not_eq_false, Bool.not_eq_false', decide_not, Bool.not_not, Bool.and_false, Bool.false_and, Bool.or_false, Bool.false_or, Bool.true_and, Bool.and_true, Bool.false_eq_true, Bool.and_eq_true, Bool.or_eq_true, not_true_eq_false, not_false_eq_true]; assumption)); refine r_skip (r_seqN (r_seq (r_site (r_te (r_primP rfl (p_eq rfl (r_truB ?_))))))); refine a_siteF ?wa ?_; (case wa => (simp only [decide_eq_true_eq, decide_eq_false_iff_not, Bool.not_eq_true, Bool.not_eq_true', Bool.not_eq_false, Bool.not_eq_false', decide_not, Bool.not_not, Bool.and_false, Bool.false_and, Bool.or_false, Bool.false_or, Bool.true_and, Bool.and_true, Bool.false_eq_true, Bool.and_eq_true, Bool.or_eq_true, not_true_eq_false, not_false_eq_true]; assumption)); refine r_skip (r_seqN (r_seq (r_site (r_te (r_primP rfl (p_eq rfl (r_truB ?_))))))); refine a_siteT ?wa ?_; (case wa => (simp only [decide_eq_true_eq, decide_eq_false_iff_not, Bool.not_eq_true, Bool.not_eq_true', Bool.not_eq_false, Bool.not_eq_false', decide_not, Bool.not_not, Bool.and_false, Bool.false_and, Bool.or_false, Bool.false_or, Bool.true_and, Bool.and_true, Bool.false_eq_true, Bool.and_eq_true, Bool.or_eq_true, not_true_eq_false, not_false_eq_true]; assumption)); refine r_seq (r_ret (r_tupP rfl (a_ret (r_seqR (r_seqR (r_retR ?_)))))))
    exact q S σ .cut S.le_refl h Fr.refl bdOk_cut
  by_cases e3 : r = 3
  · (refine r_seq (r_site (r_te (r_primP rfl (p_eq rfl (r_truB ?_))))); refine a_siteF ?wa ?_; (case wa => (simp only [decide_eq_true_eq, decide_eq_false_iff_not, Bool.not_eq_true, Bool.not_eq_true', Bool.not_eq_false, Bool.not_eq_false', decide_not, Bool.not_not, Bool.and_false, Bool.false_and, Bool.or_false, Bool.false_or, Bool.true_and, Bool.and_true, Bool.false_eq_true, Bool.and_eq_true, Bool.or_eq_true, not_true_eq_false, not_false_eq_true]; assumption)); refine r_skip (r_seqN (r_seq (r_site (r_te (r_primP rfl (p_eq rfl (r_truB ?_))))))); refine a_siteF ?wa ?_; (case wa => (simp only [decide_eq_true_eq, decide_eq_false_iff_not, Bool.not_eq_true, Bool.not_eq_true', Bool.not_eq_false, Bool.not_eq_false', decide_not, Bool.not_not, Bool.and_false, Bool.false_and, Bool.or_false, Bool.false_or, Bool.true_and, Bool.and_true, Bool.false_eq_true, Bool.and_eq_true, Bool.or_eq_true, not_true_eq_false, not_false_eq_true]; assumption)); refine r_skip (r_seqN (r_seq (r_site (r_te (r_primP rfl (p_eq rfl (r_truB ?_))))))); refine a_siteF ?wa ?_; (case wa => (simp only [decide_eq_true_eq, decide_eq_false_iff_not, Bool.not_eq_true, Bool.not_eq_true', Bool.not_eq_false, Bool.not_eq_false', decide_not, Bool.not_not, Bool.and_false, Bool.false_and, Bool.or_false, Bool.false_or, Bool.true_and, Bool.and_true, Bool.false_eq_true, Bool.and_eq_true, Bool.or_eq_true, not_true_eq_false, not_false_eq_true]; assumption)); refine r_skip (r_seqN (r_seq (r_site (r_te (r_primP rfl (p_eq rfl (r_truB ?_))))))); refine a_siteT ?wa ?_; (case wa => (simp only [decide_eq_true_eq, decide_eq_false_iff_not, Bool.not_eq_true, Bool.not_eq_true', Bool.not_eq_false, Bool.not_eq_false', decide_not, Bool.not_not, Bool.and_false, Bool.false_and, Bool.or_false, Bool.false_or, Bool.true_and, Bool.and_true, Bool.false_eq_true, Bool.and_eq_true, Bool.or_eq_true, not_true_eq_false, not_false_eq_true]; assumption)); refine r_seq (r_ret (r_callP rfl ?_)))
    refine thing_S (m := m + 1) T h fun S₂ σ₂ b l2 h2 F2 hb => ?_
    refine a_ret (r_seqR (r_seqR (r_retR ?_)))
    exact q S₂ σ₂ b l2 h2 F2 (.th hb)
  by_cases e4 : r = 4
  · (refine r_seq (r_site (r_te (r_primP rfl (p_eq rfl (r_truB ?_))))); refine a_siteF ?wa ?_; (case wa => (simp only [decide_eq_true_eq, decide_eq_false_iff_not, Bool.not_eq_true, Bool.not_eq_true', Bool.not_eq_false, Bool.not_eq_false', decide_not, Bool.not_not, Bool.and_false, Bool.false_and, Bool.or_false, Bool.false_or, Bool.true_and, Bool.and_true, Bool.false_eq_true, Bool.and_eq_true, Bool.or_eq_true, not_true_eq_false, not_false_eq_true]; assumption)); refine r_skip (r_seqN (r_seq (r_site (r_te (r_primP rfl (p_eq rfl (r_truB ?_))))))); refine a_siteF ?wa ?_; (case wa => (simp only [decide_eq_true_eq, decide_eq_false_iff_not, Bool.not_eq_true, Bool.not_eq_true', Bool.not_eq_false, Bool.not_eq_false', decide_not, Bool.not_not, Bool.and_false, Bool.false_and, Bool.or_false, Bool.false_or, Bool.true_and, Bool.and_true, Bool.false_eq_true, Bool.and_eq_true, Bool.or_eq_true, not_true_eq_false, not_false_eq_true]; assumption)); refine r_skip (r_seqN (r_seq (r_site (r_te (r_primP rfl (p_eq rfl (r_truB ?_))))))); refine a_siteF ?wa ?_; (case wa => (simp only [decide_eq_true_eq, decide_eq_false_iff_not, Bool.not_eq_true, Bool.not_eq_true', Bool.not_eq_false, Bool.not_eq_false', decide_not, Bool.not_not, Bool.and_false, Bool.false_and, Bool.or_false, Bool.false_or, Bool.true_and, Bool.and_true, Bool.false_eq_true, Bool.and_eq_true, Bool.or_eq_true, not_true_eq_false, not_false_eq_true]; assumption)); refine r_skip (r_seqN (r_seq (r_site (r_te (r_primP rfl (p_eq rfl (r_truB ?_))))))); refine a_siteF ?wa ?_; (case wa => (simp only [decide_eq_true_eq, decide_eq_false_iff_not, Bool.not_eq_true, Bool.not_eq_true', Bool.not_eq_false, Bool.not_eq_false', decide_not, Bool.not_not, Bool.and_false, Bool.false_and, Bool.or_false, Bool.false_or, Bool.true_and, Bool.and_true, Bool.false_eq_true, Bool.and_eq_true, Bool.or_eq_true, not_true_eq_false, not_false_eq_true]; assumption)); refine r_skip (r_seqN (r_seq (r_site (r_te (r_primP rfl (p_eq rfl (r_truB ?_))))))); refine a_siteT ?wa ?_; (case wa => (simp only [decide_eq_true_eq, decide_eq_false_iff_not, Bool.not_eq_true, Bool.not_eq_true', Bool.not_eq_false, Bool.not_eq_false', decide_not, Bool.not_not, Bool.and_false, Bool.false_and, Bool.or_false, Bool.false_or, Bool.true_and, Bool.and_true, Bool.false_eq_true, Bool.and_eq_true, Bool.or_eq_true, not_true_eq_false, not_false_eq_true]; assumption)); refine r_seq (r_ret (r_tup (r_econs (r_str (a_cons1 (r_econs (r_int (a_cons1 (r_econs ?_))))))))); refine r_tup (r_econs (r_callP rfl ?_)))
    refine goal_S (m := m + 1) T h fun S₂ σ₂ g l2 h2 F2 g1 g2 g3 => ?_
    (refine a_cons1 (r_pures rfl (a_cons2 ?_)); refine a_tup ?wa ?_; (case wa => assumption); refine a_cons1 (r_pures rfl (a_cons2 (a_cons2 (a_cons2 ?_)))); refine a_tup ?wa ?_; (case wa => assumption); refine a_ret (r_seqR (r_seqR (r_retR ?_))))
    exact q S₂ σ₂ (.curly g) l2 h2 F2 (bdOk_curly g1 g2 g3)
  have e5 : r = 5 := by (first | lia | omega)
  (refine r_seq (r_site (r_te (r_primP rfl (p_eq rfl (r_truB ?_))))); refine a_siteF ?wa ?_; (case wa => (simp only [decide_eq_true_eq, decide_eq_false_iff_not, Bool.not_eq_true, Bool.not_eq_true', Bool.not_eq_false, Bool.not_eq_false', decide_not, Bool.not_not, Bool.and_false, Bool.false_and, Bool.or_false, Bool.false_or, Bool.true_and, Bool.and_true, Bool.false_eq_true, Bool.and_eq_true, Bool.or_eq_true, not_true_eq_false, not_false_eq_true]; assumption)); refine r_skip (r_seqN (r_seq (r_site (r_te (r_primP rfl (p_eq rfl (r_truB ?_))))))); refine a_siteF ?wa ?_; (case wa => (simp only [decide_eq_true_eq, decide_eq_false_iff_not, Bool.not_eq_true, Bool.not_eq_true', Bool.not_eq_false, Bool.not_eq_false', decide_not, Bool.not_not, Bool.and_false, Bool.false_and, Bool.or_false, Bool.false_or, Bool.true_and, Bool.and_true, Bool.false_eq_true, Bool.and_eq_true, Bool.or_eq_true, not_true_eq_false, not_false_eq_true]; assumption)); refine r_skip (r_seqN (r_seq (r_site (r_te (r_primP rfl (p_eq rfl (r_truB ?_))))))); refine a_siteF ?wa ?_; (case wa => (simp only [decide_eq_true_eq, decide_eq_false_iff_not, Bool.not_eq_true, Bool.not_eq_true', Bool.not_eq_false, Bool.not_eq_false', decide_not, Bool.not_not, Bool.and_false, Bool.false_and, Bool.or_false, Bool.false_or, Bool.true_and, Bool.and_true, Bool.false_eq_true, Bool.and_eq_true, Bool.or_eq_true, not_true_eq_false, not_false_eq_true]; assumption)); refine r_skip (r_seqN (r_seq (r_site (r_te (r_primP rfl (p_eq rfl (r_truB ?_))))))); refine a_siteF ?wa ?_; (case wa => (simp only [decide_eq_true_eq, decide_eq_false_iff_not, Bool.not_eq_true, Bool.not_eq_true', Bool.not_eq_false, Bool.not_eq_false', decide_not, Bool.not_not, Bool.and_false, Bool.false_and, Bool.or_false, Bool.false_or, Bool.true_and, Bool.and_true, Bool.false_eq_true, Bool.and_eq_true, Bool.or_eq_true, not_true_eq_false, not_false_eq_true]; assumption)); refine r_skip (r_seqN (r_seq (r_site (r_te (r_primP rfl (p_eq rfl (r_truB ?_))))))); refine a_siteF ?wa ?_; (case wa => (simp only [decide_eq_true_eq, decide_eq_false_iff_not, Bool.not_eq_true, Bool.not_eq_true', Bool.not_eq_false, Bool.not_eq_false', decide_not, Bool.not_not, Bool.and_false, Bool.false_and, Bool.or_false, Bool.false_or, Bool.true_and, Bool.and_true, Bool.false_eq_true, Bool.and_eq_true, Bool.or_eq_true, not_true_eq_false, not_false_eq_true]; assumption)); refine r_skip (r_seqN (r_seq (r_site (r_te (r_primP rfl (p_eq rfl (r_truB ?_))))))); refine a_siteT ?wa ?_; (case wa => (simp only [decide_eq_true_eq, decide_eq_false_iff_not, Bool.not_eq_true, Bool.not_eq_true', Bool.not_eq_false, Bool.not_eq_false', decide_not, Bool.not_not, Bool.and_false, Bool.false_and, Bool.or_false, Bool.false_or, Bool.true_and, Bool.and_true, Bool.false_eq_true, Bool.and_eq_true, Bool.or_eq_true, not_true_eq_false, not_false_eq_true]; assumption)); refine r_seq (r_ret (r_tup (r_econs (r_str (a_cons1 (r_econs (r_callP rfl ?_))))))))
  refine pullW T h (by (first | lia | omega)) fun r σ₂ r0 r1 h2 F2 => ?_
  (refine a_cons1 (r_pures rfl (a_cons2 (a_cons2 ?_))); refine a_tup ?wa ?_; (case wa => assumption); refine a_ret (r_seqR (r_seqR (r_retR ?_))))
  exact q S σ₂ (.var r) S.le_refl h2 F2 (bdOk_var (by (first | lia | omega)))
theorem body_mk (T : Tab1 P) (m : Nat) : ∀ d : Nat, BdS P d (m + d + 5) := by
  have T' : TabP P := T.toTabP
  have hbig2 : (2 : Nat) ≤ big := by decide
  intro d
  induction d with
  | zero =>
    intro σ k ks kl S L Q h q
    refine enter T.f418 rfl ?_
    unfold b_418
    (refine r_seq (r_assign (r_call (r_econs (r_var rfl (a_cons1 (r_econs (r_ite (r_te (r_primP rfl ?_))))))))); refine p_gt (r_truB ?_); refine a_iteF ?wa ?_; (case wa => decide); refine r_int (a_cons1 (r_pures rfl (a_cons2 (a_cons2 (a_call ?_))))))
    refine pullW T h (by (first | lia | omega)) fun r σ₁ r0 r1 h1 F1 => ?_
    refine a_asg (t_var (a_nx (r_seqN ?_)))
    exact leaf_mk T m 0 h1 r0 (by (first | lia | omega)) fun S' σ' b l h' F' hb => q S' σ' b l h' (F1.trans F') hb
  | succ d ih =>
    have ih : BdS P d (m + (d + 1) + 4) := by rw [show m + (d + 1) + 4 = m + d + 5 by (first | lia | omega)]; exact ih
    intro σ k ks kl S L Q h q
    have e : ((d + 1 : Nat) : Int) - 1 = (d : Int) := by (first | lia | omega)
    refine enter T.f418 rfl ?_
    unfold b_418
    (refine r_seq (r_assign (r_call (r_econs (r_var rfl (a_cons1 (r_econs (r_ite (r_te (r_primP rfl ?_))))))))); refine p_gt (r_truB ?_); refine a_iteT ?wa ?_; (case wa => (simp only [decide_eq_true_eq, decide_eq_false_iff_not, Bool.not_eq_true, Bool.not_eq_true', Bool.not_eq_false, Bool.not_eq_false', decide_not, Bool.not_not, Bool.and_false, Bool.false_and, Bool.or_false, Bool.false_or, Bool.true_and, Bool.and_true, Bool.false_eq_true, Bool.and_eq_true, Bool.or_eq_true, not_true_eq_false, not_false_eq_true]; (first | lia | omega))); refine r_int (a_cons1 (r_pures rfl (a_cons2 (a_cons2 (a_call ?_))))))
    refine pullW T h (by (first | lia | omega)) fun r σ₁ r0 r1 h1 F1 => ?_
    have two : ∀ {Q' : EQ}, (∀ S₂ σ₂ a, S.le S₂ → W1 σ₂ k ks kl S₂ L → Fr (MM k ks) σ σ₂ → BdOk S₂ d a → Q' a.tm.pv σ₂) → wpCall P (m + (d + 1) + 4) 418 [.obj ks, .obj k, .int (d : Int)] σ₁ Q' :=
      fun q' => ih h1 fun S₂ σ₂ a l2 h2 F2 ha => q' S₂ σ₂ a l2 h2 (F1.trans F2) ha
    by_cases hr : r < 6
    · refine a_asg ?_
      refine t_var ?_
      refine a_nx ?_
      refine r_seqN ?_
      exact leaf_mk T (m + (d + 1)) (d + 1) h1 r0 hr fun S' σ' b l h' F' hb => q S' σ' b l h' (F1.trans F') hb
    by_cases e6 : r = 6
    · (refine a_asg (t_var (a_nx (r_seqN (r_seq (r_site (r_te (r_primP rfl (p_eq rfl (r_truB ?_))))))))); refine a_siteF ?wa ?_; (case wa => (simp only [decide_eq_true_eq, decide_eq_false_iff_not, Bool.not_eq_true, Bool.not_eq_true', Bool.not_eq_false, Bool.not_eq_false', decide_not, Bool.not_not, Bool.and_false, Bool.false_and, Bool.or_false, Bool.false_or, Bool.true_and, Bool.and_true, Bool.false_eq_true, Bool.and_eq_true, Bool.or_eq_true, not_true_eq_false, not_false_eq_true]; (first | lia | omega))); refine r_skip (r_seqN (r_seq (r_site (r_te (r_primP rfl (p_eq rfl (r_truB ?_))))))); refine a_siteF ?wa ?_; (case wa => (simp only [decide_eq_true_eq, decide_eq_false_iff_not, Bool.not_eq_true, Bool.not_eq_true', Bool.not_eq_false, Bool.not_eq_false', decide_not, Bool.not_not, Bool.and_false, Bool.false_and, Bool.or_false, Bool.false_or, Bool.true_and, Bool.and_true, Bool.false_eq_true, Bool.and_eq_true, Bool.or_eq_true, not_true_eq_false, not_false_eq_true]; (first | lia | omega))); refine r_skip (r_seqN (r_seq (r_site (r_te (r_primP rfl (p_eq rfl (r_truB ?_))))))); refine a_siteF ?wa ?_; (case wa => (simp only [decide_eq_true_eq, decide_eq_false_iff_not, Bool.not_eq_true, Bool.not_eq_true', Bool.not_eq_false, Bool.not_eq_false', decide_not, Bool.not_not, Bool.and_false, Bool.false_and, Bool.or_false, Bool.false_or, Bool.true_and, Bool.and_true, Bool.false_eq_true, Bool.and_eq_true, Bool.or_eq_true, not_true_eq_false, not_false_eq_true]; (first | lia | omega))); refine r_skip (r_seqN (r_seq (r_site (r_te (r_primP rfl (p_eq rfl (r_truB ?_))))))); refine a_siteF ?wa ?_; (case wa => (simp only [decide_eq_true_eq, decide_eq_false_iff_not, Bool.not_eq_true, Bool.not_eq_true', Bool.not_eq_false, Bool.not_eq_false', decide_not, Bool.not_not, Bool.and_false, Bool.false_and, Bool.or_false, Bool.false_or, Bool.true_and, Bool.and_true, Bool.false_eq_true, Bool.and_eq_true, Bool.or_eq_true, not_true_eq_false, not_false_eq_true]; (first | lia | omega))); refine r_skip (r_seqN (r_seq (r_site (r_te (r_primP rfl (p_eq rfl (r_truB ?_))))))); refine a_siteF ?wa ?_; (case wa => (simp only [decide_eq_true_eq, decide_eq_false_iff_not, Bool.not_eq_true, Bool.not_eq_true', Bool.not_eq_false, Bool.not_eq_false', decide_not, Bool.not_not, Bool.and_false, Bool.false_and, Bool.or_false, Bool.false_or, Bool.true_and, Bool.and_true, Bool.false_eq_true, Bool.and_eq_true, Bool.or_eq_true, not_true_eq_false, not_false_eq_true]; (first | lia | omega))); refine r_skip (r_seqN (r_seq (r_site (r_te (r_primP rfl (p_eq rfl (r_truB ?_))))))); refine a_siteF ?wa ?_; (case wa => (simp only [decide_eq_true_eq, decide_eq_false_iff_not, Bool.not_eq_true, Bool.not_eq_true', Bool.not_eq_false, Bool.not_eq_false', decide_not, Bool.not_not, Bool.and_false, Bool.false_and, Bool.or_false, Bool.false_or, Bool.true_and, Bool.and_true, Bool.false_eq_true, Bool.and_eq_true, Bool.or_eq_true, not_true_eq_false, not_false_eq_true]; (first | lia | omega))); refine r_skip (r_seqN (r_seq (r_assign (r_call (r_econs (r_var rfl (a_cons1 (r_econs (r_var rfl ?_))))))))); refine a_cons1 (r_econs (r_primP rfl (p_sub (a_cons1 (r_pures rfl (a_cons2 (a_cons2 (a_cons2 (a_call ?_))))))))))
      rw [e]
      refine two fun S₂ σ₂ a l2 h2 F2 ha => ?_
      (refine a_asg (t_var (a_nx (r_seqN (r_seq (r_site (r_te (r_primP rfl (p_eq rfl (r_truB ?_))))))))); refine a_siteF ?wa ?_; (case wa => (simp only [decide_eq_true_eq, decide_eq_false_iff_not, Bool.not_eq_true, Bool.not_eq_true', Bool.not_eq_false, Bool.not_eq_false', decide_not, Bool.not_not, Bool.and_false, Bool.false_and, Bool.or_false, Bool.false_or, Bool.true_and, Bool.and_true, Bool.false_eq_true, Bool.and_eq_true, Bool.or_eq_true, not_true_eq_false, not_false_eq_true]; (first | lia | omega))); refine r_skip (r_seqN (r_seq (r_assign (r_call (r_econs (r_var rfl (a_cons1 (r_econs (r_var rfl ?_))))))))); refine a_cons1 (r_econs (r_primP rfl (p_sub (a_cons1 (r_pures rfl (a_cons2 (a_cons2 (a_cons2 (a_call ?_))))))))))
      rw [e]
      refine ih h2 fun S₃ σ₃ b l3 h3 F3 hb => ?_
      (refine a_asg (t_var (a_nx (r_seqN (r_seq (r_site (r_tor (r_te (r_primP rfl (p_eq rfl ?_))))))))); refine r_truB ?_; refine a_orF ?wa ?_; (case wa => (simp only [decide_eq_true_eq, decide_eq_false_iff_not, Bool.not_eq_true, Bool.not_eq_true', Bool.not_eq_false, Bool.not_eq_false', decide_not, Bool.not_not, Bool.and_false, Bool.false_and, Bool.or_false, Bool.false_or, Bool.true_and, Bool.and_true, Bool.false_eq_true, Bool.and_eq_true, Bool.or_eq_true, not_true_eq_false, not_false_eq_true]; (first | lia | omega))); refine r_te (r_primP rfl (p_eq rfl (r_truB ?_))); refine a_siteF ?wa ?_; (case wa => (simp only [decide_eq_true_eq, decide_eq_false_iff_not, Bool.not_eq_true, Bool.not_eq_true', Bool.not_eq_false, Bool.not_eq_false', decide_not, Bool.not_not, Bool.and_false, Bool.false_and, Bool.or_false, Bool.false_or, Bool.true_and, Bool.and_true, Bool.false_eq_true, Bool.and_eq_true, Bool.or_eq_true, not_true_eq_false, not_false_eq_true]; (first | lia | omega))); refine r_skip (r_seqN (r_seq (r_ret (r_call (r_econs (r_ite (r_te (r_primP rfl (p_eq rfl ?_))))))))); refine r_truB ?_; refine a_iteF ?wa ?_; (case wa => (simp only [decide_eq_true_eq, decide_eq_false_iff_not, Bool.not_eq_true, Bool.not_eq_true', Bool.not_eq_false, Bool.not_eq_false', decide_not, Bool.not_not, Bool.and_false, Bool.false_and, Bool.or_false, Bool.false_or, Bool.true_and, Bool.and_true, Bool.false_eq_true, Bool.and_eq_true, Bool.or_eq_true, not_true_eq_false, not_false_eq_true]; (first | lia | omega))); refine r_int (a_cons1 (r_pures rfl (a_cons2 (a_call ?_)))))
      refine pair_S T (x := a.tm) (y := b.tm) ?_
      refine a_ret (r_seqR (r_retR ?_))
      exact q S₃ σ₃ (.seq 1 a b) (l2.trans l3) h3 (F2.trans F3) (.seq (.inl rfl) (ha.le l3) hb)
    by_cases e7 : r = 7
    · (refine a_asg (t_var (a_nx (r_seqN (r_seq (r_site (r_te (r_primP rfl (p_eq rfl (r_truB ?_))))))))); refine a_siteF ?wa ?_; (case wa => (simp only [decide_eq_true_eq, decide_eq_false_iff_not, Bool.not_eq_true, Bool.not_eq_true', Bool.not_eq_false, Bool.not_eq_false', decide_not, Bool.not_not, Bool.and_false, Bool.false_and, Bool.or_false, Bool.false_or, Bool.true_and, Bool.and_true, Bool.false_eq_true, Bool.and_eq_true, Bool.or_eq_true, not_true_eq_false, not_false_eq_true]; (first | lia | omega))); refine r_skip (r_seqN (r_seq (r_site (r_te (r_primP rfl (p_eq rfl (r_truB ?_))))))); refine a_siteF ?wa ?_; (case wa => (simp only [decide_eq_true_eq, decide_eq_false_iff_not, Bool.not_eq_true, Bool.not_eq_true', Bool.not_eq_false, Bool.not_eq_false', decide_not, Bool.not_not, Bool.and_false, Bool.false_and, Bool.or_false, Bool.false_or, Bool.true_and, Bool.and_true, Bool.false_eq_true, Bool.and_eq_true, Bool.or_eq_true, not_true_eq_false, not_false_eq_true]; (first | lia | omega))); refine r_skip (r_seqN (r_seq (r_site (r_te (r_primP rfl (p_eq rfl (r_truB ?_))))))); refine a_siteF ?wa ?_; (case wa => (simp only [decide_eq_true_eq, decide_eq_false_iff_not, Bool.not_eq_true, Bool.not_eq_true', Bool.not_eq_false, Bool.not_eq_false', decide_not, Bool.not_not, Bool.and_false, Bool.false_and, Bool.or_false, Bool.false_or, Bool.true_and, Bool.and_true, Bool.false_eq_true, Bool.and_eq_true, Bool.or_eq_true, not_true_eq_false, not_false_eq_true]; (first | lia | omega))); refine r_skip (r_seqN (r_seq (r_site (r_te (r_primP rfl (p_eq rfl (r_truB ?_))))))); refine a_siteF ?wa ?_; (case wa => (simp only [decide_eq_true_eq, decide_eq_false_iff_not, Bool.not_eq_true, Bool.not_eq_true', Bool.not_eq_false, Bool.not_eq_false', decide_not, Bool.not_not, Bool.and_false, Bool.false_and, Bool.or_false, Bool.false_or, Bool.true_and, Bool.and_true, Bool.false_eq_true, Bool.and_eq_true, Bool.or_eq_true, not_true_eq_false, not_false_eq_true]; (first | lia | omega))); refine r_skip (r_seqN (r_seq (r_site (r_te (r_primP rfl (p_eq rfl (r_truB ?_))))))); refine a_siteF ?wa ?_; (case wa => (simp only [decide_eq_true_eq, decide_eq_false_iff_not, Bool.not_eq_true, Bool.not_eq_true', Bool.not_eq_false, Bool.not_eq_false', decide_not, Bool.not_not, Bool.and_false, Bool.false_and, Bool.or_false, Bool.false_or, Bool.true_and, Bool.and_true, Bool.false_eq_true, Bool.and_eq_true, Bool.or_eq_true, not_true_eq_false, not_false_eq_true]; (first | lia | omega))); refine r_skip (r_seqN (r_seq (r_site (r_te (r_primP rfl (p_eq rfl (r_truB ?_))))))); refine a_siteF ?wa ?_; (case wa => (simp only [decide_eq_true_eq, decide_eq_false_iff_not, Bool.not_eq_true, Bool.not_eq_true', Bool.not_eq_false, Bool.not_eq_false', decide_not, Bool.not_not, Bool.and_false, Bool.false_and, Bool.or_false, Bool.false_or, Bool.true_and, Bool.and_true, Bool.false_eq_true, Bool.and_eq_true, Bool.or_eq_true, not_true_eq_false, not_false_eq_true]; (first | lia | omega))); refine r_skip (r_seqN (r_seq (r_assign (r_call (r_econs (r_var rfl (a_cons1 (r_econs (r_var rfl ?_))))))))); refine a_cons1 (r_econs (r_primP rfl (p_sub (a_cons1 (r_pures rfl (a_cons2 (a_cons2 (a_cons2 (a_call ?_))))))))))
      rw [e]
      refine two fun S₂ σ₂ a l2 h2 F2 ha => ?_
      (refine a_asg (t_var (a_nx (r_seqN (r_seq (r_site (r_te (r_primP rfl (p_eq rfl (r_truB ?_))))))))); refine a_siteF ?wa ?_; (case wa => (simp only [decide_eq_true_eq, decide_eq_false_iff_not, Bool.not_eq_true, Bool.not_eq_true', Bool.not_eq_false, Bool.not_eq_false', decide_not, Bool.not_not, Bool.and_false, Bool.false_and, Bool.or_false, Bool.false_or, Bool.true_and, Bool.and_true, Bool.false_eq_true, Bool.and_eq_true, Bool.or_eq_true, not_true_eq_false, not_false_eq_true]; (first | lia | omega))); refine r_skip (r_seqN (r_seq (r_assign (r_call (r_econs (r_var rfl (a_cons1 (r_econs (r_var rfl ?_))))))))); refine a_cons1 (r_econs (r_primP rfl (p_sub (a_cons1 (r_pures rfl (a_cons2 (a_cons2 (a_cons2 (a_call ?_))))))))))
      rw [e]
      refine ih h2 fun S₃ σ₃ b l3 h3 F3 hb => ?_
      (refine a_asg (t_var (a_nx (r_seqN (r_seq (r_site (r_tor (r_te (r_primP rfl (p_eq rfl ?_))))))))); refine r_truB ?_; refine a_orT ?wa ?_; (case wa => (simp only [decide_eq_true_eq, decide_eq_false_iff_not, Bool.not_eq_true, Bool.not_eq_true', Bool.not_eq_false, Bool.not_eq_false', decide_not, Bool.not_not, Bool.and_false, Bool.false_and, Bool.or_false, Bool.false_or, Bool.true_and, Bool.and_true, Bool.false_eq_true, Bool.and_eq_true, Bool.or_eq_true, not_true_eq_false, not_false_eq_true]; assumption)); refine a_siteT rfl (r_seq (r_ret (r_call (r_econs (r_ite (r_te (r_primP rfl (p_eq rfl (r_truB ?_))))))))); refine a_iteT ?wa ?_; (case wa => (simp only [decide_eq_true_eq, decide_eq_false_iff_not, Bool.not_eq_true, Bool.not_eq_true', Bool.not_eq_false, Bool.not_eq_false', decide_not, Bool.not_not, Bool.and_false, Bool.false_and, Bool.or_false, Bool.false_or, Bool.true_and, Bool.and_true, Bool.false_eq_true, Bool.and_eq_true, Bool.or_eq_true, not_true_eq_false, not_false_eq_true]; assumption)); refine r_int (a_cons1 (r_pures rfl (a_cons2 (a_call ?_)))))
      refine pair_S T (x := a.tm) (y := b.tm) ?_
      refine a_ret (r_seqR (r_seqR (r_retR ?_)))
      exact q S₃ σ₃ (.alt 2 a b) (l2.trans l3) h3 (F2.trans F3) (.alt (.inl rfl) (ha.le l3) hb)
    by_cases e8 : r = 8
    · (refine a_asg (t_var (a_nx (r_seqN (r_seq (r_site (r_te (r_primP rfl (p_eq rfl (r_truB ?_))))))))); refine a_siteF ?wa ?_; (case wa => (simp only [decide_eq_true_eq, decide_eq_false_iff_not, Bool.not_eq_true, Bool.not_eq_true', Bool.not_eq_false, Bool.not_eq_false', decide_not, Bool.not_not, Bool.and_false, Bool.false_and, Bool.or_false, Bool.false_or, Bool.true_and, Bool.and_true, Bool.false_eq_true, Bool.and_eq_true, Bool.or_eq_true, not_true_eq_false, not_false_eq_true]; (first | lia | omega))); refine r_skip (r_seqN (r_seq (r_site (r_te (r_primP rfl (p_eq rfl (r_truB ?_))))))); refine a_siteF ?wa ?_; (case wa => (simp only [decide_eq_true_eq, decide_eq_false_iff_not, Bool.not_eq_true, Bool.not_eq_true', Bool.not_eq_false, Bool.not_eq_false', decide_not, Bool.not_not, Bool.and_false, Bool.false_and, Bool.or_false, Bool.false_or, Bool.true_and, Bool.and_true, Bool.false_eq_true, Bool.and_eq_true, Bool.or_eq_true, not_true_eq_false, not_false_eq_true]; (first | lia | omega))); refine r_skip (r_seqN (r_seq (r_site (r_te (r_primP rfl (p_eq rfl (r_truB ?_))))))); refine a_siteF ?wa ?_; (case wa => (simp only [decide_eq_true_eq, decide_eq_false_iff_not, Bool.not_eq_true, Bool.not_eq_true', Bool.not_eq_false, Bool.not_eq_false', decide_not, Bool.not_not, Bool.and_false, Bool.false_and, Bool.or_false, Bool.false_or, Bool.true_and, Bool.and_true, Bool.false_eq_true, Bool.and_eq_true, Bool.or_eq_true, not_true_eq_false, not_false_eq_true]; (first | lia | omega))); refine r_skip (r_seqN (r_seq (r_site (r_te (r_primP rfl (p_eq rfl (r_truB ?_))))))); refine a_siteF ?wa ?_; (case wa => (simp only [decide_eq_true_eq, decide_eq_false_iff_not, Bool.not_eq_true, Bool.not_eq_true', Bool.not_eq_false, Bool.not_eq_false', decide_not, Bool.not_not, Bool.and_false, Bool.false_and, Bool.or_false, Bool.false_or, Bool.true_and, Bool.and_true, Bool.false_eq_true, Bool.and_eq_true, Bool.or_eq_true, not_true_eq_false, not_false_eq_true]; (first | lia | omega))); refine r_skip (r_seqN (r_seq (r_site (r_te (r_primP rfl (p_eq rfl (r_truB ?_))))))); refine a_siteF ?wa ?_; (case wa => (simp only [decide_eq_true_eq, decide_eq_false_iff_not, Bool.not_eq_true, Bool.not_eq_true', Bool.not_eq_false, Bool.not_eq_false', decide_not, Bool.not_not, Bool.and_false, Bool.false_and, Bool.or_false, Bool.false_or, Bool.true_and, Bool.and_true, Bool.false_eq_true, Bool.and_eq_true, Bool.or_eq_true, not_true_eq_false, not_false_eq_true]; (first | lia | omega))); refine r_skip (r_seqN (r_seq (r_site (r_te (r_primP rfl (p_eq rfl (r_truB ?_))))))); refine a_siteF ?wa ?_; (case wa => (simp only [decide_eq_true_eq, decide_eq_false_iff_not, Bool.not_eq_true, Bool.not_eq_true', Bool.not_eq_false, Bool.not_eq_false', decide_not, Bool.not_not, Bool.and_false, Bool.false_and, Bool.or_false, Bool.false_or, Bool.true_and, Bool.and_true, Bool.false_eq_true, Bool.and_eq_true, Bool.or_eq_true, not_true_eq_false, not_false_eq_true]; (first | lia | omega))); refine r_skip (r_seqN (r_seq (r_assign (r_call (r_econs (r_var rfl (a_cons1 (r_econs (r_var rfl ?_))))))))); refine a_cons1 (r_econs (r_primP rfl (p_sub (a_cons1 (r_pures rfl (a_cons2 (a_cons2 (a_cons2 (a_call ?_))))))))))
      rw [e]
      refine two fun S₂ σ₂ a l2 h2 F2 ha => ?_
      (refine a_asg (t_var (a_nx (r_seqN (r_seq (r_site (r_te (r_primP rfl (p_eq rfl (r_truB ?_))))))))); refine a_siteF ?wa ?_; (case wa => (simp only [decide_eq_true_eq, decide_eq_false_iff_not, Bool.not_eq_true, Bool.not_eq_true', Bool.not_eq_false, Bool.not_eq_false', decide_not, Bool.not_not, Bool.and_false, Bool.false_and, Bool.or_false, Bool.false_or, Bool.true_and, Bool.and_true, Bool.false_eq_true, Bool.and_eq_true, Bool.or_eq_true, not_true_eq_false, not_false_eq_true]; (first | lia | omega))); refine r_skip (r_seqN (r_seq (r_assign (r_call (r_econs (r_var rfl (a_cons1 (r_econs (r_var rfl ?_))))))))); refine a_cons1 (r_econs (r_primP rfl (p_sub (a_cons1 (r_pures rfl (a_cons2 (a_cons2 (a_cons2 (a_call ?_))))))))))
      rw [e]
      refine ih h2 fun S₃ σ₃ b l3 h3 F3 hb => ?_
      (refine a_asg (t_var (a_nx (r_seqN (r_seq (r_site (r_tor (r_te (r_primP rfl (p_eq rfl ?_))))))))); refine r_truB ?_; refine a_orF ?wa ?_; (case wa => (simp only [decide_eq_true_eq, decide_eq_false_iff_not, Bool.not_eq_true, Bool.not_eq_true', Bool.not_eq_false, Bool.not_eq_false', decide_not, Bool.not_not, Bool.and_false, Bool.false_and, Bool.or_false, Bool.false_or, Bool.true_and, Bool.and_true, Bool.false_eq_true, Bool.and_eq_true, Bool.or_eq_true, not_true_eq_false, not_false_eq_true]; assumption)); refine r_te (r_primP rfl (p_eq rfl (r_truB ?_))); refine a_siteF ?wa ?_; (case wa => (simp only [decide_eq_true_eq, decide_eq_false_iff_not, Bool.not_eq_true, Bool.not_eq_true', Bool.not_eq_false, Bool.not_eq_false', decide_not, Bool.not_not, Bool.and_false, Bool.false_and, Bool.or_false, Bool.false_or, Bool.true_and, Bool.and_true, Bool.false_eq_true, Bool.and_eq_true, Bool.or_eq_true, not_true_eq_false, not_false_eq_true]; (first | lia | omega))); refine r_skip (r_seqN (r_seq (r_ret (r_call (r_econs (r_ite (r_te (r_primP rfl (p_eq rfl ?_))))))))); refine r_truB ?_; refine a_iteT ?wa ?_; (case wa => (simp only [decide_eq_true_eq, decide_eq_false_iff_not, Bool.not_eq_true, Bool.not_eq_true', Bool.not_eq_false, Bool.not_eq_false', decide_not, Bool.not_not, Bool.and_false, Bool.false_and, Bool.or_false, Bool.false_or, Bool.true_and, Bool.and_true, Bool.false_eq_true, Bool.and_eq_true, Bool.or_eq_true, not_true_eq_false, not_false_eq_true]; assumption)); refine r_int (a_cons1 (r_pures rfl (a_cons2 (a_call ?_)))))
      refine pair_S T (x := a.tm) (y := b.tm) ?_
      refine a_ret (r_seqR (r_retR ?_))
      exact q S₃ σ₃ (.seq 3 a b) (l2.trans l3) h3 (F2.trans F3) (.seq (.inr rfl) (ha.le l3) hb)
    by_cases e9 : r = 9
    · (refine a_asg (t_var (a_nx (r_seqN (r_seq (r_site (r_te (r_primP rfl (p_eq rfl (r_truB ?_))))))))); refine a_siteF ?wa ?_; (case wa => (simp only [decide_eq_true_eq, decide_eq_false_iff_not, Bool.not_eq_true, Bool.not_eq_true', Bool.not_eq_false, Bool.not_eq_false', decide_not, Bool.not_not, Bool.and_false, Bool.false_and, Bool.or_false, Bool.false_or, Bool.true_and, Bool.and_true, Bool.false_eq_true, Bool.and_eq_true, Bool.or_eq_true, not_true_eq_false, not_false_eq_true]; (first | lia | omega))); refine r_skip (r_seqN (r_seq (r_site (r_te (r_primP rfl (p_eq rfl (r_truB ?_))))))); refine a_siteF ?wa ?_; (case wa => (simp only [decide_eq_true_eq, decide_eq_false_iff_not, Bool.not_eq_true, Bool.not_eq_true', Bool.not_eq_false, Bool.not_eq_false', decide_not, Bool.not_not, Bool.and_false, Bool.false_and, Bool.or_false, Bool.false_or, Bool.true_and, Bool.and_true, Bool.false_eq_true, Bool.and_eq_true, Bool.or_eq_true, not_true_eq_false, not_false_eq_true]; (first | lia | omega))); refine r_skip (r_seqN (r_seq (r_site (r_te (r_primP rfl (p_eq rfl (r_truB ?_))))))); refine a_siteF ?wa ?_; (case wa => (simp only [decide_eq_true_eq, decide_eq_false_iff_not, Bool.not_eq_true, Bool.not_eq_true', Bool.not_eq_false, Bool.not_eq_false', decide_not, Bool.not_not, Bool.and_false, Bool.false_and, Bool.or_false, Bool.false_or, Bool.true_and, Bool.and_true, Bool.false_eq_true, Bool.and_eq_true, Bool.or_eq_true, not_true_eq_false, not_false_eq_true]; (first | lia | omega))); refine r_skip (r_seqN (r_seq (r_site (r_te (r_primP rfl (p_eq rfl (r_truB ?_))))))); refine a_siteF ?wa ?_; (case wa => (simp only [decide_eq_true_eq, decide_eq_false_iff_not, Bool.not_eq_true, Bool.not_eq_true', Bool.not_eq_false, Bool.not_eq_false', decide_not, Bool.not_not, Bool.and_false, Bool.false_and, Bool.or_false, Bool.false_or, Bool.true_and, Bool.and_true, Bool.false_eq_true, Bool.and_eq_true, Bool.or_eq_true, not_true_eq_false, not_false_eq_true]; (first | lia | omega))); refine r_skip (r_seqN (r_seq (r_site (r_te (r_primP rfl (p_eq rfl (r_truB ?_))))))); refine a_siteF ?wa ?_; (case wa => (simp only [decide_eq_true_eq, decide_eq_false_iff_not, Bool.not_eq_true, Bool.not_eq_true', Bool.not_eq_false, Bool.not_eq_false', decide_not, Bool.not_not, Bool.and_false, Bool.false_and, Bool.or_false, Bool.false_or, Bool.true_and, Bool.and_true, Bool.false_eq_true, Bool.and_eq_true, Bool.or_eq_true, not_true_eq_false, not_false_eq_true]; (first | lia | omega))); refine r_skip (r_seqN (r_seq (r_site (r_te (r_primP rfl (p_eq rfl (r_truB ?_))))))); refine a_siteF ?wa ?_; (case wa => (simp only [decide_eq_true_eq, decide_eq_false_iff_not, Bool.not_eq_true, Bool.not_eq_true', Bool.not_eq_false, Bool.not_eq_false', decide_not, Bool.not_not, Bool.and_false, Bool.false_and, Bool.or_false, Bool.false_or, Bool.true_and, Bool.and_true, Bool.false_eq_true, Bool.and_eq_true, Bool.or_eq_true, not_true_eq_false, not_false_eq_true]; (first | lia | omega))); refine r_skip (r_seqN (r_seq (r_assign (r_call (r_econs (r_var rfl (a_cons1 (r_econs (r_var rfl ?_))))))))); refine a_cons1 (r_econs (r_primP rfl (p_sub (a_cons1 (r_pures rfl (a_cons2 (a_cons2 (a_cons2 (a_call ?_))))))))))
      rw [e]
      refine two fun S₂ σ₂ a l2 h2 F2 ha => ?_
      (refine a_asg (t_var (a_nx (r_seqN (r_seq (r_site (r_te (r_primP rfl (p_eq rfl (r_truB ?_))))))))); refine a_siteT ?wa ?_; (case wa => (simp only [decide_eq_true_eq, decide_eq_false_iff_not, Bool.not_eq_true, Bool.not_eq_true', Bool.not_eq_false, Bool.not_eq_false', decide_not, Bool.not_not, Bool.and_false, Bool.false_and, Bool.or_false, Bool.false_or, Bool.true_and, Bool.and_true, Bool.false_eq_true, Bool.and_eq_true, Bool.or_eq_true, not_true_eq_false, not_false_eq_true]; assumption)); refine r_seq (r_ret (r_tupP rfl (a_ret (r_seqR (r_seqR (r_retR ?_)))))))
      exact q S₂ σ₂ (.neg a) l2 h2 F2 ha.neg
    have e10 : r = 10 := by (first | lia | omega)
    (refine a_asg (t_var (a_nx (r_seqN (r_seq (r_site (r_te (r_primP rfl (p_eq rfl (r_truB ?_))))))))); refine a_siteF ?wa ?_; (case wa => (simp only [decide_eq_true_eq, decide_eq_false_iff_not, Bool.not_eq_true, Bool.not_eq_true', Bool.not_eq_false, Bool.not_eq_false', decide_not, Bool.not_not, Bool.and_false, Bool.false_and, Bool.or_false, Bool.false_or, Bool.true_and, Bool.and_true, Bool.false_eq_true, Bool.and_eq_true, Bool.or_eq_true, not_true_eq_false, not_false_eq_true]; (first | lia | omega))); refine r_skip (r_seqN (r_seq (r_site (r_te (r_primP rfl (p_eq rfl (r_truB ?_))))))); refine a_siteF ?wa ?_; (case wa => (simp only [decide_eq_true_eq, decide_eq_false_iff_not, Bool.not_eq_true, Bool.not_eq_true', Bool.not_eq_false, Bool.not_eq_false', decide_not, Bool.not_not, Bool.and_false, Bool.false_and, Bool.or_false, Bool.false_or, Bool.true_and, Bool.and_true, Bool.false_eq_true, Bool.and_eq_true, Bool.or_eq_true, not_true_eq_false, not_false_eq_true]; (first | lia | omega))); refine r_skip (r_seqN (r_seq (r_site (r_te (r_primP rfl (p_eq rfl (r_truB ?_))))))); refine a_siteF ?wa ?_; (case wa => (simp only [decide_eq_true_eq, decide_eq_false_iff_not, Bool.not_eq_true, Bool.not_eq_true', Bool.not_eq_false, Bool.not_eq_false', decide_not, Bool.not_not, Bool.and_false, Bool.false_and, Bool.or_false, Bool.false_or, Bool.true_and, Bool.and_true, Bool.false_eq_true, Bool.and_eq_true, Bool.or_eq_true, not_true_eq_false, not_false_eq_true]; (first | lia | omega))); refine r_skip (r_seqN (r_seq (r_site (r_te (r_primP rfl (p_eq rfl (r_truB ?_))))))); refine a_siteF ?wa ?_; (case wa => (simp only [decide_eq_true_eq, decide_eq_false_iff_not, Bool.not_eq_true, Bool.not_eq_true', Bool.not_eq_false, Bool.not_eq_false', decide_not, Bool.not_not, Bool.and_false, Bool.false_and, Bool.or_false, Bool.false_or, Bool.true_and, Bool.and_true, Bool.false_eq_true, Bool.and_eq_true, Bool.or_eq_true, not_true_eq_false, not_false_eq_true]; (first | lia | omega))); refine r_skip (r_seqN (r_seq (r_site (r_te (r_primP rfl (p_eq rfl (r_truB ?_))))))); refine a_siteF ?wa ?_; (case wa => (simp only [decide_eq_true_eq, decide_eq_false_iff_not, Bool.not_eq_true, Bool.not_eq_true', Bool.not_eq_false, Bool.not_eq_false', decide_not, Bool.not_not, Bool.and_false, Bool.false_and, Bool.or_false, Bool.false_or, Bool.true_and, Bool.and_true, Bool.false_eq_true, Bool.and_eq_true, Bool.or_eq_true, not_true_eq_false, not_false_eq_true]; (first | lia | omega))); refine r_skip (r_seqN (r_seq (r_site (r_te (r_primP rfl (p_eq rfl (r_truB ?_))))))); refine a_siteF ?wa ?_; (case wa => (simp only [decide_eq_true_eq, decide_eq_false_iff_not, Bool.not_eq_true, Bool.not_eq_true', Bool.not_eq_false, Bool.not_eq_false', decide_not, Bool.not_not, Bool.and_false, Bool.false_and, Bool.or_false, Bool.false_or, Bool.true_and, Bool.and_true, Bool.false_eq_true, Bool.and_eq_true, Bool.or_eq_true, not_true_eq_false, not_false_eq_true]; (first | lia | omega))); refine r_skip (r_seqN (r_seq (r_assign (r_call (r_econs (r_var rfl (a_cons1 (r_econs (r_var rfl ?_))))))))); refine a_cons1 (r_econs (r_primP rfl (p_sub (a_cons1 (r_pures rfl (a_cons2 (a_cons2 (a_cons2 (a_call ?_))))))))))
    rw [e]
    refine two fun S₂ σ₂ a l2 h2 F2 ha => ?_
    (refine a_asg (t_var (a_nx (r_seqN (r_seq (r_site (r_te (r_primP rfl (p_eq rfl (r_truB ?_))))))))); refine a_siteF ?wa ?_; (case wa => (simp only [decide_eq_true_eq, decide_eq_false_iff_not, Bool.not_eq_true, Bool.not_eq_true', Bool.not_eq_false, Bool.not_eq_false', decide_not, Bool.not_not, Bool.and_false, Bool.false_and, Bool.or_false, Bool.false_or, Bool.true_and, Bool.and_true, Bool.false_eq_true, Bool.and_eq_true, Bool.or_eq_true, not_true_eq_false, not_false_eq_true]; assumption)); refine r_skip (r_seqN (r_seq (r_assign (r_call (r_econs (r_var rfl (a_cons1 (r_econs (r_var rfl ?_))))))))); refine a_cons1 (r_econs (r_primP rfl (p_sub (a_cons1 (r_pures rfl (a_cons2 (a_cons2 (a_cons2 (a_call ?_))))))))))
    rw [e]
    refine ih h2 fun S₃ σ₃ b l3 h3 F3 hb => ?_
    have ei := h3.s.i
    (refine a_asg (t_var (a_nx (r_seqN (r_seq (r_site (r_tor (r_te (r_primP rfl (p_eq rfl ?_))))))))); refine r_truB ?_; refine a_orF ?wa ?_; (case wa => (simp only [decide_eq_true_eq, decide_eq_false_iff_not, Bool.not_eq_true, Bool.not_eq_true', Bool.not_eq_false, Bool.not_eq_false', decide_not, Bool.not_not, Bool.and_false, Bool.false_and, Bool.or_false, Bool.false_or, Bool.true_and, Bool.and_true, Bool.false_eq_true, Bool.and_eq_true, Bool.or_eq_true, not_true_eq_false, not_false_eq_true]; assumption)); refine r_te (r_primP rfl (p_eq rfl (r_truB ?_))); refine a_siteT ?wa ?_; (case wa => (simp only [decide_eq_true_eq, decide_eq_false_iff_not, Bool.not_eq_true, Bool.not_eq_true', Bool.not_eq_false, Bool.not_eq_false', decide_not, Bool.not_not, Bool.and_false, Bool.false_and, Bool.or_false, Bool.false_or, Bool.true_and, Bool.and_true, Bool.false_eq_true, Bool.and_eq_true, Bool.or_eq_true, not_true_eq_false, not_false_eq_true]; assumption)); refine r_seq (r_ret (r_call (r_econs (r_ite (r_te (r_primP rfl (p_eq rfl (r_truB ?_)))))))); refine a_iteF ?wa ?_; (case wa => (simp only [decide_eq_true_eq, decide_eq_false_iff_not, Bool.not_eq_true, Bool.not_eq_true', Bool.not_eq_false, Bool.not_eq_false', decide_not, Bool.not_not, Bool.and_false, Bool.false_and, Bool.or_false, Bool.false_or, Bool.true_and, Bool.and_true, Bool.false_eq_true, Bool.and_eq_true, Bool.or_eq_true, not_true_eq_false, not_false_eq_true]; assumption)); refine r_meth (r_var rfl ?_); refine' r_methK ?wa ?wb ?wc ?_; (case wa => assumption); (case wb => exact TabP.m10 (by assumption)); (case wc => rfl); refine r_pures rfl (a_meth ?_))
    refine functorW (m := m + (d + 1) + 3) (a := 8) (r := 2) T h3 (by (first | lia | omega)) fun i S₄ σ₄ l4 e4 h4 F4 => ?_
    refine a_cons1 (r_pures rfl (a_cons2 (a_call ?_)))
    refine pair_S T (x := a.tm) (y := b.tm) ?_
    refine a_ret (r_seqR (r_seqR (r_retR ?_)))
    exact q S₄ σ₄ (.alt i a b) ((l2.trans l3).trans l4) h4 ((F2.trans F3).trans F4) (.alt (.inr ⟨i, rfl, bar_ge h4.z e4, e4⟩) (ha.le (l3.trans l4)) (hb.le l4))
end
noncomputable def rowsF : List (Str × Int) := [(".", 2), (",", 2), (";", 2), ("->", 2), ("\\+", 1), (":-", 2), (":-", 1), ("?-", 1), ("-->", 2), ("{}", 1), ("=", 2), ("^", 2), ("-", 1), ("-", 2), ("+", 2), ("/", 2), ("error", 2), ("$VAR", 1), ("catch", 3), ("throw", 1), ("!", 0), ("true", 0), ("fail", 0), ("false", 0), ("call", 1), ("call", 2), ("call", 3), ("call", 4), ("call", 5), ("call", 6), ("call", 7), ("call", 8)]
noncomputable def rowV (p : Str × Int) : PV := .tup [.str p.1, .int p.2]
theorem fixedF_rows : fixedF = rowsF.map fun p => ((((fixedT.findIdx? fun q => decide (q = p.1)).getD 0 : Nat) : Int), p.2) := by decide +kernel
theorem rows_ok : ∀ p ∈ rowsF, p.1 ∈ fixedT ∧ 0 ≤ p.2 ∧ p.2 ≤ 8 := by decide +kernel
theorem fixedT_nodup : fixedT.Nodup := by decide +kernel
theorem fixedF_nodup : fixedF.Nodup := by decide +kernel
theorem take_snoc {α : Type} {l : List α} {i : Nat} {x : α} (h : l[i]? = some x) : l.take i ++ [x] = l.take (i + 1) := by
  rw [List.take_add_one, h]; rfl
theorem take_not {α : Type} {l : List α} {i : Nat} {x : α} (hn : l.Nodup) (h : l[i]? = some x) : x ∉ l.take i := by
  have : (l.take (i + 1)).Nodup := hn.sublist (List.take_sublist _ _)
  rw [← take_snoc h, List.nodup_append] at this
  intro hx
  exact this.2.2 x hx x (by simp) rfl
section
variable {P : Pg} {σ σ' : St} {k m : Nat} {S : Sym} {Q : EQ}
theorem fixed_atoms_S (T : TabP P) (q : Q (.tup (fixedT.map .str)) σ) : wpCall P (m + 1) 60 [] σ Q := by
  refine enter T.f60 rfl ?_
  unfold b_60
  refine r_seq (r_ret (r_tupP rfl (a_ret (r_seqR (r_retR ?_)))))
  exact q
theorem fixed_functors_S (T : TabP P) (q : Q (.tup (rowsF.map rowV)) σ) : wpCall P (m + 1) 67 [] σ Q := by
  refine enter T.f67 rfl ?_
  unfold b_67
  have hbig2 : (2 : Nat) ≤ big := by decide
  refine r_seq (r_ret (r_tupP rfl (a_ret (r_seqR (r_retR ?_)))))
  exact q
theorem init_S (T : TabP P) (h : σ[k]? = some (.inst 154 [])) (hk : σ.length = k + 1) (q : ∀ σ', SymAt σ' k S0 → Sok S0 → Fr (fun j => j = k) σ σ' → Q .none σ') : wpCall P (m + 4) 81 [.obj k] σ Q := by
  have up : ∀ {τ τ' : St}, Fr (fun j => j = k) σ τ → Fr (symM k) τ τ' → Fr (fun j => j = k) σ τ' := fun F F1 => ⟨Nat.le_trans F.len F1.len, fun j o e n => F1.at' j o (F.at' j o e n) (by have := (List.getElem?_eq_some_iff.mp e).1; unfold symM; (first | lia | omega))⟩
  refine enter T.f81 rfl ?_
  unfold b_81
  (refine r_seq (r_assign (r_list (r_pures rfl ?_))); refine a_list ?wa ?_; (case wa => trivial); refine a_asg (t_attr (r_var rfl (a_ta ?_))); refine' s_attr ?wa ?wb ?wc ?_; (case wa => (refine get_app ?_; assumption)); (case wb => exact TabP.s0 (by assumption)); (case wc => trivial); refine a_ta2 (a_nx (r_seqN (r_seq (r_assign (r_dict0 (a_asg (t_attr (r_var rfl (a_ta ?_))))))))); refine' s_attr ?wa ?wb ?wc ?_; (case wa => (refine get_app ?_; refine get_set_eq (o := ?_) ?_; rotate_left; refine get_app ?_; assumption)); (case wb => exact TabP.s1 (by assumption)); (case wc => exact Nat.le_of_ble_eq_true rfl); refine a_ta2 (a_nx (r_seqN (r_seq (r_assign (r_list (r_pures rfl ?_)))))); refine a_list ?wa ?_; (case wa => trivial); refine a_asg (t_attr (r_var rfl (a_ta ?_))); refine' s_attr ?wa ?wb ?wc ?_; (case wa => (refine get_app ?_; refine get_set_eq (o := ?_) ?_; rotate_left; refine get_app ?_; refine get_set_eq (o := ?_) ?_; rotate_left; refine get_app ?_; assumption)); (case wb => exact TabP.s2 (by assumption)); (case wc => exact Nat.le_of_ble_eq_true rfl); refine a_ta2 (a_nx (r_seqN (r_seq (r_assign (r_dict0 (a_asg (t_attr (r_var rfl (a_ta ?_))))))))); refine' s_attr ?wa ?wb ?wc ?_; (case wa => (refine get_app ?_; refine get_set_eq (o := ?_) ?_; rotate_left; refine get_app ?_; refine get_set_eq (o := ?_) ?_; rotate_left; refine get_app ?_; refine get_set_eq (o := ?_) ?_; rotate_left; refine get_app ?_; assumption)); (case wb => exact TabP.s3 (by assumption)); (case wc => exact Nat.le_of_ble_eq_true rfl); refine a_ta2 (a_nx (r_seqN (r_seq (r_for (i_val (r_callP rfl ?_)))))))
  refine fixed_atoms_S T ?_
  refine i_valT rfl (a_for ?_)
  refine for_rule (fun i lm τ => lm 0 = some (.obj k) ∧ SymAt τ k ⟨fixedT.take i, []⟩ ∧ Sok ⟨fixedT.take i, []⟩ ∧ Fr (fun j => j = k) σ τ) ⟨rfl, ⟨?_, ?_, ?_, ?_, ?_, List.nodup_nil, List.nodup_nil, by decide, by decide⟩, ⟨List.nodup_nil, List.nodup_nil, fun _ h => (nomatch h), fun _ h => (nomatch h)⟩, ?_⟩ (fun _ _ _ _ => trivial) ?_ ?_
  · simp [hk, List.getElem?_append, fput]
  · simp [hk, List.getElem?_set, List.getElem?_append]
  · simp [hk, List.getElem?_set, List.getElem?_append, numd]
  · simp [hk, List.getElem?_set, List.getElem?_append]
  · simp [hk, List.getElem?_set, List.getElem?_append, numd]
  · refine Fr.trans ?_ (Fr.set rfl)
    refine Fr.trans ?_ (Fr.new _)
    refine Fr.trans ?_ (Fr.set rfl)
    refine Fr.trans ?_ (Fr.new _)
    refine Fr.trans ?_ (Fr.set rfl)
    refine Fr.trans ?_ (Fr.new _)
    refine Fr.trans ?_ (Fr.set rfl)
    exact Fr.new _
  · rintro i y lm τ K hy ⟨l0, hS, ok, F⟩ hK
    rw [List.getElem?_map] at hy
    cases ex : fixedT[i]? with
    | none => rw [ex] at hy; cases hy
    | some x =>
      rw [ex] at hy
      have : y = .str x := by cases hy; rfl
      subst this
      have ei := hS.i
      have hx : x ∈ fixedT := List.mem_of_getElem? ex
      have e : (⟨fixedT.take i, []⟩ : Sym).addA x = ⟨fixedT.take (i + 1), []⟩ := by
        unfold Sym.addA
        rw [if_neg (take_not fixedT_nodup ex), take_snoc ex]
      (refine r_seq (r_expr (r_meth ?_)); refine' r_var ?wa ?_; (case wa => assumption); refine' r_methK ?wa ?wb ?wc ?_; (case wa => assumption); (case wb => exact TabP.m8 (by assumption)); (case wc => rfl); refine r_pures rfl (a_meth ?_))
      refine atomS T hS ok (List.mem_append_left _ hx) fun a σ₁ e1 s1 o1 F1 => ?_
      rw [e] at s1 o1
      refine a_exp (r_seqN (r_skip (r_forN ?_)))
      exact hK _ _ ⟨l0, s1, o1, up F F1⟩
  · rintro lm τ ⟨l0, hS, ok, F⟩
    have e : fixedT.take (fixedT.map PV.str).length = fixedT := by rw [List.length_map, List.take_length]
    rw [e] at hS ok
    refine r_seqN (r_seq (r_for (i_val (r_callP rfl ?_))))
    refine fixed_functors_S T ?_
    refine i_valT rfl (a_for ?_)
    refine for_rule (fun i lm τ => lm 0 = some (.obj k) ∧ SymAt τ k ⟨fixedT, fixedF.take i⟩ ∧ Sok ⟨fixedT, fixedF.take i⟩ ∧ Fr (fun j => j = k) σ τ) ⟨l0, hS, ok, F⟩ (fun _ _ _ _ => trivial) ?_ ?_
    · rintro i y lm τ K hy ⟨l0, hS, ok, F⟩ hK
      rw [List.getElem?_map] at hy
      cases ex : rowsF[i]? with
      | none => rw [ex] at hy; cases hy
      | some p =>
        rw [ex] at hy
        have : y = .tup [.str p.1, .int p.2] := by cases hy; rfl
        subst this
        have ei := hS.i
        obtain ⟨hx, hr⟩ := rows_ok p (List.mem_of_getElem? ex)
        have ef : fixedF[i]? = some ((((fixedT.findIdx? fun q => decide (q = p.1)).getD 0 : Nat) : Int), p.2) := by
          rw [fixedF_rows, List.getElem?_map, ex]; rfl
        (refine r_seq (r_expr (r_meth ?_)); refine' r_var ?wa ?_; (case wa => assumption); refine' r_methK ?wa ?wb ?wc ?_; (case wa => assumption); (case wb => exact TabP.m11 (by assumption)); (case wc => rfl); refine r_pures rfl (a_meth ?_))
        refine funcS T hS ok (List.mem_append_left _ hx) hr fun a j σ₁ e1 e2 s1 o1 F1 => ?_
        rw [Sym.addA_mem (S := ⟨fixedT, fixedF.take i⟩) hx] at e1 e2 s1 o1
        have ea : ((((fixedT.findIdx? fun q => decide (q = p.1)).getD 0 : Nat) : Int)) = (a : Int) := Sym.tn_eq (S := ⟨fixedT, fixedF.take i⟩) ok e1
        rw [ea] at ef
        have e : (⟨fixedT, fixedF.take i⟩ : Sym).addF a p.2 = ⟨fixedT, fixedF.take (i + 1)⟩ := by
          unfold Sym.addF
          rw [if_neg (take_not fixedF_nodup ef), take_snoc ef]
        rw [e] at s1 o1
        refine a_exp (r_seqN (r_skip (r_forN ?_)))
        exact hK _ _ ⟨l0, s1, o1, up F F1⟩
    · rintro lm τ ⟨l0, hS, ok, F⟩
      have e : fixedF.take (rowsF.map rowV).length = fixedF := by rw [fixedF_rows, List.length_map, ← List.length_map (f := fun p : Str × Int => ((((fixedT.findIdx? fun q => decide (q = p.1)).getD 0 : Nat) : Int), p.2)), List.take_length]
      rw [e] at hS ok
      refine r_seqN (r_skip (r_retN ?_))
      exact q τ hS ok F
end
theorem listT_ren (ρ : Int → Int) (z : Tm) : ∀ its : List Tm, (listT its z).ren ρ = listT (Tm.renL ρ its) (z.ren ρ)
  | [] => rfl
  | t :: r => by
    have := listT_ren ρ z r
    unfold listT at this ⊢
    rw [List.foldr_cons, Tm.renL, List.foldr_cons]
    simp only [Tm.ren, Tm.renL]
    rw [this]
theorem G_ren {ρ : Int → Int} {S : Sym} {φ ψ : Nat → Int} (h : ∀ n, n < 1000 → ρ n = n) (hφ : ∀ c, ρ (φ c) = ψ c) : ∀ (b : Bd) (x y : Tm) (c : Nat), (∀ n ∈ b.tm.vars, n < 1000) → (G S φ b x y c).ren ρ = G S ψ b (x.ren ρ) (y.ren ρ) c
  | .lst its, x, y, c, hv => by
    have : Tm.renL ρ its = its := Tm.renL_id h its fun n hn => hv n (by simp only [Bd.tm]; rw [listT_vars]; exact List.mem_append_left _ hn)
    simp only [G, Tm.ren, Tm.renL]
    rw [listT_ren, this]
  | .nil, x, y, c, hv => by simp only [G, Tm.ren, Tm.renL]
  | .cut, x, y, c, hv => by simp only [G, Tm.ren, Tm.renL]
  | .atom n, x, y, c, hv => by simp only [G, Tm.ren, Tm.renL]
  | .cmp f a args, x, y, c, hv => by
    have : Tm.renL ρ args = args := Tm.renL_id h args (by simpa [Bd.tm, Tm.vars] using hv)
    simp only [G, Tm.ren]
    rw [Tm.renL_app, this]
    simp only [Tm.renL]
  | .curly g, x, y, c, hv => by
    have : g.ren ρ = g := Tm.ren_id h g (by simpa [Bd.tm, Tm.vars, Tm.varsL] using hv)
    simp only [G, Tm.ren, Tm.renL, this]
  | .var n, x, y, c, hv => by
    have : ρ n = n := h n (hv n (by simp [Bd.tm, Tm.vars]))
    simp only [G, Tm.ren, Tm.renL, this]
  | .neg b, x, y, c, hv => by
    simp only [G, Tm.ren, Tm.renL]
    rw [G_ren h hφ b _ _ _ (by simpa [Bd.tm, Tm.vars, Tm.varsL] using hv), Tm.ren, hφ]
  | .seq f l r, x, y, c, hv => by
    simp only [G, Tm.ren, Tm.renL]
    rw [G_ren h hφ l _ _ _ (fun n hn => hv n (by simp [Bd.tm, Tm.vars, Tm.varsL, hn])), G_ren h hφ r _ _ _ (fun n hn => hv n (by simp [Bd.tm, Tm.vars, Tm.varsL, hn])), Tm.ren, hφ]
  | .alt f l r, x, y, c, hv => by
    simp only [G, Tm.ren, Tm.renL]
    rw [G_ren h hφ l _ _ _ (fun n hn => hv n (by simp [Bd.tm, Tm.vars, Tm.varsL, hn])), G_ren h hφ r _ _ _ (fun n hn => hv n (by simp [Bd.tm, Tm.vars, Tm.varsL, hn]))]
theorem G_vars {S : Sym} {φ : Nat → Int} {p : Int → Prop} (hφ : ∀ c, p (φ c)) : ∀ (b : Bd) (x y : Tm) (c : Nat), (∀ n ∈ b.tm.vars, p n) → (∀ n ∈ x.vars, p n) → (∀ n ∈ y.vars, p n) → ∀ n ∈ (G S φ b x y c).vars, p n
  | .lst its, x, y, c, hb, hx, hy, n, hn => by
    simp only [G, Tm.vars, Tm.varsL, List.append_nil, List.mem_append] at hn
    rw [listT_vars, List.mem_append] at hn
    rcases hn with hn | hn | hn
    · exact hx n hn
    · exact hb n (by simp only [Bd.tm]; rw [listT_vars]; exact List.mem_append_left _ hn)
    · exact hy n hn
  | .nil, x, y, c, hb, hx, hy, n, hn => by
    simp only [G, Tm.vars, Tm.varsL, List.append_nil, List.mem_append] at hn
    exact hn.elim (hx n) (hy n)
  | .cut, x, y, c, hb, hx, hy, n, hn => by
    simp only [G, Tm.vars, Tm.varsL, List.append_nil, List.nil_append, List.mem_append] at hn
    exact hn.elim (hx n) (hy n)
  | .atom m, x, y, c, hb, hx, hy, n, hn => by
    simp only [G, Tm.vars, Tm.varsL, List.append_nil, List.mem_append] at hn
    exact hn.elim (hx n) (hy n)
  | .cmp f a args, x, y, c, hb, hx, hy, n, hn => by
    simp only [G, Tm.vars, Tm.varsL_app, Tm.varsL, List.append_nil, List.mem_append] at hn
    rcases hn with hn | hn | hn
    · exact hb n (by simpa [Bd.tm, Tm.vars] using hn)
    · exact hx n hn
    · exact hy n hn
  | .curly g, x, y, c, hb, hx, hy, n, hn => by
    simp only [G, Tm.vars, Tm.varsL, List.append_nil, List.mem_append] at hn
    rcases hn with hn | hn | hn
    · exact hb n (by simpa [Bd.tm, Tm.vars, Tm.varsL] using hn)
    · exact hx n hn
    · exact hy n hn
  | .var m, x, y, c, hb, hx, hy, n, hn => by
    simp only [G, Tm.vars, Tm.varsL, List.append_nil, List.mem_append, List.mem_singleton] at hn
    rcases hn with hn | hn | hn
    · exact hb n (by simp [Bd.tm, Tm.vars, hn])
    · exact hx n hn
    · exact hy n hn
  | .neg b, x, y, c, hb, hx, hy, n, hn => by
    simp only [G, Tm.vars, Tm.varsL, List.append_nil, List.mem_append] at hn
    rcases hn with hn | hn | hn
    · exact G_vars hφ b _ _ _ (by simpa [Bd.tm, Tm.vars, Tm.varsL] using hb) hx (fun n hn => by simp [Tm.vars] at hn; rw [hn]; exact hφ c) n hn
    · exact hx n hn
    · exact hy n hn
  | .seq f l r, x, y, c, hb, hx, hy, n, hn => by
    simp only [G, Tm.vars, Tm.varsL, List.append_nil, List.mem_append] at hn
    have hc : ∀ n ∈ (Tm.v (φ c)).vars, p n := fun n hn => by simp [Tm.vars] at hn; rw [hn]; exact hφ c
    rcases hn with hn | hn
    · exact G_vars hφ l _ _ _ (fun n hn => hb n (by simp [Bd.tm, Tm.vars, Tm.varsL, hn])) hx hc n hn
    · exact G_vars hφ r _ _ _ (fun n hn => hb n (by simp [Bd.tm, Tm.vars, Tm.varsL, hn])) hc hy n hn
  | .alt f l r, x, y, c, hb, hx, hy, n, hn => by
    simp only [G, Tm.vars, Tm.varsL, List.append_nil, List.mem_append] at hn
    rcases hn with hn | hn
    · exact G_vars hφ l _ _ _ (fun n hn => hb n (by simp [Bd.tm, Tm.vars, Tm.varsL, hn])) hx hy n hn
    · exact G_vars hφ r _ _ _ (fun n hn => hb n (by simp [Bd.tm, Tm.vars, Tm.varsL, hn])) hx hy n hn
theorem depL_app : ∀ l m : List Tm, Tm.depL (l ++ m) = max (Tm.depL l) (Tm.depL m)
  | [], m => by simp [Tm.depL]
  | t :: r, m => by rw [List.cons_append, Tm.depL, Tm.depL, depL_app r m]; (first | lia | omega)
theorem listT_dep_eq {z z' : Tm} (h : z.dep = z'.dep) : ∀ its : List Tm, (listT its z).dep = (listT its z').dep
  | [] => h
  | t :: r => by
    have := listT_dep_eq h r
    unfold listT at this ⊢
    rw [List.foldr_cons, List.foldr_cons]
    simp only [Tm.dep, Tm.depL]
    rw [this]
theorem G_dep {S : Sym} {φ : Nat → Int} : ∀ (b : Bd) (x y : Tm) (c : Nat), x.dep = 0 → y.dep = 0 → (G S φ b x y c).dep ≤ 2 * b.tm.dep + 3
  | .lst its, x, y, c, hx, hy => by
    have := listT_dep_eq (z := y) (z' := .a 0) (by rw [hy]; rfl) its
    simp only [G, Bd.tm, Tm.dep, Tm.depL, hx]; (first | lia | omega)
  | .nil, x, y, c, hx, hy => by simp only [G, Bd.tm, Tm.dep, Tm.depL, hx, hy]; (first | lia | omega)
  | .cut, x, y, c, hx, hy => by simp only [G, Bd.tm, Tm.dep, Tm.depL, hx, hy]; (first | lia | omega)
  | .atom n, x, y, c, hx, hy => by simp only [G, Bd.tm, Tm.dep, Tm.depL, hx, hy]; (first | lia | omega)
  | .cmp f a args, x, y, c, hx, hy => by simp only [G, Bd.tm, Tm.dep, depL_app, Tm.depL, hx, hy]; (first | lia | omega)
  | .curly g, x, y, c, hx, hy => by simp only [G, Bd.tm, Tm.dep, Tm.depL, hx, hy]; (first | lia | omega)
  | .var n, x, y, c, hx, hy => by simp only [G, Bd.tm, Tm.dep, Tm.depL, hx, hy]; (first | lia | omega)
  | .neg b, x, y, c, hx, hy => by
    have := G_dep (S := S) (φ := φ) b x (.v (φ c)) (c + 1) hx rfl
    simp only [G, Bd.tm, Tm.dep, Tm.depL, hx, hy]; (first | lia | omega)
  | .seq f l r, x, y, c, hx, hy => by
    have := G_dep (S := S) (φ := φ) l x (.v (φ c)) (c + 1) hx rfl
    have := G_dep (S := S) (φ := φ) r (.v (φ c)) y (c + 1 + l.nv) rfl hy
    simp only [G, Bd.tm, Tm.dep, Tm.depL]; (first | lia | omega)
  | .alt f l r, x, y, c, hx, hy => by
    have := G_dep (S := S) (φ := φ) l x y c hx hy
    have := G_dep (S := S) (φ := φ) r x y (c + l.nv) hx hy
    simp only [G, Bd.tm, Tm.dep, Tm.depL]; (first | lia | omega)
theorem G_size {S : Sym} {φ : Nat → Int} : ∀ (b : Bd) (x y : Tm) (c : Nat), x.size = 1 → y.size = 1 → (G S φ b x y c).size ≤ 5 * b.tm.size
  | .lst its, x, y, c, hx, hy => by simp only [G, Bd.tm, Tm.size, Tm.sizeL, listT_size, hx, hy]; (first | lia | omega)
  | .nil, x, y, c, hx, hy => by simp only [G, Bd.tm, Tm.size, Tm.sizeL, hx, hy]; (first | lia | omega)
  | .cut, x, y, c, hx, hy => by simp only [G, Bd.tm, Tm.size, Tm.sizeL, hx, hy]; (first | lia | omega)
  | .atom n, x, y, c, hx, hy => by simp only [G, Bd.tm, Tm.size, Tm.sizeL, hx, hy]; (first | lia | omega)
  | .cmp f a args, x, y, c, hx, hy => by simp only [G, Bd.tm, Tm.size, Tm.sizeL_app, Tm.sizeL, hx, hy]; (first | lia | omega)
  | .curly g, x, y, c, hx, hy => by simp only [G, Bd.tm, Tm.size, Tm.sizeL, hx, hy]; (first | lia | omega)
  | .var n, x, y, c, hx, hy => by simp only [G, Bd.tm, Tm.size, Tm.sizeL, hx, hy]; (first | lia | omega)
  | .neg b, x, y, c, hx, hy => by
    have := G_size (S := S) (φ := φ) b x (.v (φ c)) (c + 1) hx rfl
    simp only [G, Bd.tm, Tm.size, Tm.sizeL, hx, hy]; (first | lia | omega)
  | .seq f l r, x, y, c, hx, hy => by
    have := G_size (S := S) (φ := φ) l x (.v (φ c)) (c + 1) hx rfl
    have := G_size (S := S) (φ := φ) r (.v (φ c)) y (c + 1 + l.nv) rfl hy
    simp only [G, Bd.tm, Tm.size, Tm.sizeL]; (first | lia | omega)
  | .alt f l r, x, y, c, hx, hy => by
    have := G_size (S := S) (φ := φ) l x y c hx hy
    have := G_size (S := S) (φ := φ) r x y (c + l.nv) hx hy
    simp only [G, Bd.tm, Tm.size, Tm.sizeL]; (first | lia | omega)
noncomputable def rho (U : List Int) (lo n : Int) : Int := if 1001 ≤ n then φt U lo (n - 1001).toNat else n
theorem rho_small (U : List Int) (lo : Int) : ∀ n, n < 1000 → rho U lo n = n := fun n h => if_neg (by (first | lia | omega))
theorem rho_own (U : List Int) (lo : Int) (c : Nat) : rho U lo (φo c) = φt U lo c := by
  unfold rho φo
  rw [if_pos (by (first | lia | omega)), show ((1001 : Int) + (c : Int) - 1001).toNat = c by (first | lia | omega)]
theorem nxs_mono (U : List Int) (lo : Int) (c : Nat) : ∀ d, nxs U lo c ≤ nxs U lo (c + d)
  | 0 => Int.le_refl _
  | d + 1 => by
    have := nxs_mono U lo c d
    have h := free_le U (nxs U lo (c + d))
    show nxs U lo c ≤ free U (nxs U lo (c + d)) + 1
    (first | lia | omega)
theorem phi_ge (U : List Int) (lo : Int) (c : Nat) : lo ≤ φt U lo c := by
  have := nxs_mono U lo 0 c
  have h := free_le U (nxs U lo c)
  rw [Nat.zero_add] at this
  unfold φt
  have : nxs U lo 0 = lo := rfl
  (first | lia | omega)
theorem phi_lt (U : List Int) (lo : Int) {c d : Nat} (h : c < d) : φt U lo c < φt U lo d := by
  have h1 : nxs U lo (c + 1) = free U (nxs U lo c) + 1 := rfl
  have h2 := nxs_mono U lo (c + 1) (d - (c + 1))
  rw [show c + 1 + (d - (c + 1)) = d by (first | lia | omega)] at h2
  have h3 := free_le U (nxs U lo d)
  unfold φt
  (first | lia | omega)
theorem rho_inj (U : List Int) (lo : Int) : ∀ a b, 1001 ≤ a → 1001 ≤ b → rho U lo a = rho U lo b → a = b := fun a b ha hb e => by
  unfold rho at e
  rw [if_pos ha, if_pos hb] at e
  rcases Nat.lt_trichotomy (a - 1001).toNat (b - 1001).toNat with h | h | h
  · have := phi_lt U lo h; (first | lia | omega)
  · (first | lia | omega)
  · have := phi_lt U lo h; (first | lia | omega)
theorem rho_low (U : List Int) (lo : Int) : ∀ a, 1001 ≤ a → lo ≤ rho U lo a := fun a ha => by
  unfold rho; rw [if_pos ha]; exact phi_ge U lo _
theorem rho_not (U : List Int) (lo : Int) : ∀ a, 1001 ≤ a → rho U lo a ∉ U := fun a ha => by
  unfold rho; rw [if_pos ha]; exact free_not U _
noncomputable def tail460 : MS := (.seq (.assign (.var 15) (.call 336 (.cons (.var 2) (.cons (.var 8) (.cons (.new 290 (.cons (.var 3) .nil)) .nil)))))
  (.seq (.assign (.var 16) .dict0)
  (.seq (.ite (.not (.e (.call 446 (.cons (.var 14) (.cons (.var 15) (.cons (.var 16) (.cons (.var 3) .nil))))))) (.seq (.ret (.bool false))
  .skip) .skip)
  (.seq (.for 17 (.val (.call 453 (.cons (.var 8) (.cons (.list .nil) .nil)))) (.seq (.ite (.e (.prim .inVals (.cons (.var 17) (.cons (.var 16) .nil)))) (.seq (.ret (.bool false))
  .skip) .skip)
  .skip))
  (.seq (.ret (.prim .eq (.cons (.call 336 (.cons (.var 2) (.cons (.var 6) (.cons (.new 290 (.cons (.int (0)) .nil)) .nil)))) (.cons (.var 6) .nil))))
  .skip)))))
noncomputable def PsOk (p : Option (List Tm)) : Prop := ∀ l, p = some l → ItOk l ∧ l.length ≤ 2
theorem TGr_ren {U : List Int} {lo : Int} {S : Sym} {hb b : Bd} {p : Option (List Tm)} (h1 : ∀ n ∈ hb.tm.vars, n < 1000) (h2 : ∀ n ∈ b.tm.vars, n < 1000) (hp : PsOk p) : (TGr S φo hb b p).ren (rho U lo) = TGr S (φt U lo) hb b p := by
  have hs := rho_small U lo
  have ho := rho_own U lo
  cases p with
  | none =>
    simp only [TGr, Tm.ren, Tm.renL]
    rw [G_ren hs ho hb _ _ _ h1, G_ren hs ho b _ _ _ h2]
    simp only [Tm.ren, ho]
  | some its =>
    have hi : Tm.renL (rho U lo) its = its := Tm.renL_id hs its (hp its rfl).1.1
    simp only [TGr, Tm.ren, Tm.renL]
    rw [G_ren hs ho hb _ _ _ h1, G_ren hs ho b _ _ _ h2, listT_ren, hi]
    simp only [Tm.ren, ho]
theorem TGr_le {S S' : Sym} (ok : Sok S) (ok' : Sok S') (h : S.le S') (φ : Nat → Int) {hb b : Bd} {p : Option (List Tm)} (h1 : hb.has S) (h2 : b.has S) : TGr S' φ hb b p = TGr S φ hb b p := by
  cases p <;> simp only [TGr] <;> rw [G_le ok ok' h φ h1, G_le ok ok' h φ h2]
theorem TGr_vars {S : Sym} {hb b : Bd} {p : Option (List Tm)} (h1 : ∀ n ∈ hb.tm.vars, n < 1000) (h2 : ∀ n ∈ b.tm.vars, n < 1000) (hp : PsOk p) : ∀ n ∈ (TGr S φo hb b p).vars, n ≠ 1000 := by
  have hφ : ∀ c, φo c ≠ 1000 := fun c => by unfold φo; (first | lia | omega)
  have hv : ∀ c, ∀ n ∈ (Tm.v (φo c)).vars, n ≠ 1000 := fun c n hn => by simp [Tm.vars] at hn; rw [hn]; exact hφ c
  have g1 := fun x y c hx hy => G_vars (S := S) (p := fun n => n ≠ 1000) hφ hb x y c (fun n hn => by have := h1 n hn; (first | lia | omega)) hx hy
  have g2 := fun x y c hx hy => G_vars (S := S) (p := fun n => n ≠ 1000) hφ b x y c (fun n hn => by have := h2 n hn; (first | lia | omega)) hx hy
  intro n hn
  cases p with
  | none =>
    simp only [TGr, Tm.vars, Tm.varsL, List.append_nil, List.mem_append] at hn
    rcases hn with hn | hn
    · exact g1 _ _ _ (hv 0) (hv 1) n hn
    · exact g2 _ _ _ (hv 0) (hv 1) n hn
  | some its =>
    simp only [TGr, Tm.vars, Tm.varsL, List.append_nil, List.mem_append, listT_vars, List.mem_singleton] at hn
    rcases hn with hn | hn | hn | hn | hn
    · exact g1 _ _ _ (hv 0) (hv 1) n hn
    · exact g2 _ _ _ (hv 0) (hv 2) n hn
    · rw [hn]; exact hφ 1
    · have := (hp its rfl).1.1 n hn; (first | lia | omega)
    · rw [hn]; exact hφ 2
theorem TGr_dep {S : Sym} {hb b : Bd} {p : Option (List Tm)} (h1 : hb.tm.dep ≤ 1) (h2 : b.tm.dep ≤ 7) (hp : PsOk p) : (TGr S φo hb b p).dep ≤ 30 := by
  cases p with
  | none =>
    have a := G_dep (S := S) (φ := φo) hb (.v (φo 0)) (.v (φo 1)) 0 rfl rfl
    have c := G_dep (S := S) (φ := φo) b (.v (φo 0)) (.v (φo 1)) 2 rfl rfl
    simp only [TGr, Tm.dep, Tm.depL]; (first | lia | omega)
  | some its =>
    have a := G_dep (S := S) (φ := φo) hb (.v (φo 0)) (.v (φo 1)) 0 rfl rfl
    have c := G_dep (S := S) (φ := φo) b (.v (φo 0)) (.v (φo 2)) 3 rfl rfl
    have d := listT_dep (.v (φo 2)) its (hp its rfl).1.2.2
    have e := (hp its rfl).2
    simp only [TGr, Tm.dep, Tm.depL] at d ⊢; (first | lia | omega)
theorem TGr_size {S : Sym} {hb b : Bd} {p : Option (List Tm)} (h1 : hb.tm.size ≤ 3) (h2 : b.tm.size ≤ 71) (hp : PsOk p) : (TGr S φo hb b p).size ≤ 400 := by
  cases p with
  | none =>
    have a := G_size (S := S) (φ := φo) hb (.v (φo 0)) (.v (φo 1)) 0 rfl rfl
    have c := G_size (S := S) (φ := φo) b (.v (φo 0)) (.v (φo 1)) 2 rfl rfl
    simp only [TGr, Tm.size, Tm.sizeL]; (first | lia | omega)
  | some its =>
    have a := G_size (S := S) (φ := φo) hb (.v (φo 0)) (.v (φo 1)) 0 rfl rfl
    have c := G_size (S := S) (φ := φo) b (.v (φo 0)) (.v (φo 2)) 3 rfl rfl
    have e := (hp its rfl).2
    have f := (hp its rfl).1.2.1
    simp only [TGr, Tm.size, Tm.sizeL, listT_size]; (first | lia | omega)
theorem head_size {hb b : Bd} {p : Option (List Tm)} (h1 : hb.tm.size ≤ 3) (h2 : b.tm.size ≤ 71) (hp : PsOk p) : (Tm.s 8 [headT hb p, b.tm]).size ≤ 100 := by
  cases p with
  | none => simp only [headT, Tm.size, Tm.sizeL]; (first | lia | omega)
  | some its =>
    have e := (hp its rfl).2
    have f := (hp its rfl).1.2.1
    simp only [headT, Tm.size, Tm.sizeL, listT_size]; (first | lia | omega)
theorem body_not8 {S : Sym} {b : Bd} (h : b.ok S) : ∀ l, b.tm ≠ .s 8 l := by
  intro l e
  cases b with
  | lst its =>
    obtain ⟨_, t, r, rfl⟩ := h
    have : (Bd.lst (t :: r)).tm = .s 0 [t, listT r (.a 0)] := rfl
    rw [this] at e
    injection e with e1 e2
    (first | lia | omega)
  | nil => cases e
  | cut => cases e
  | atom n => cases e
  | cmp f a args => injection e with e1 e2; have := h.2.2.1; (first | lia | omega)
  | curly g => injection e with e1 e2; (first | lia | omega)
  | var n => cases e
  | neg b => injection e with e1 e2; (first | lia | omega)
  | seq f l r => injection e with e1 e2; rcases h.1 with h | h <;> (first | lia | omega)
  | alt f l r => injection e with e1 e2; rcases h.1 with h | ⟨i, h, h2, _⟩ <;> (first | lia | omega)
section
variable {P : Pg} {σ σ' : St} {k m : Nat} {S : Sym}
theorem law_tail (T : Tab1 P) {lm : LM} {hb b : Bd} {p : Option (List Tm)} {lo : Int} {o : AObj} (hS : SymAt σ k S) (ok : Sok S) (h0 : S0.le S) (hth : ThOk S hb) (hbd : BdOk S 3 b) (hps : PsOk p) (hh : hb.has S) (hbh : b.has S)
    (l2 : lm 2 = some (.obj k)) (l3 : lm 3 = some (.int lo)) (l6 : lm 6 = some b.tm.pv) (l8 : lm 8 = some (Tm.s 8 [headT hb p, b.tm]).pv) (l14 : lm 14 = some (TGr S φo hb b p).pv) (h00 : σ[0]? = some o) (hk : 0 < k) :
    wps (wpCall P (m + 200)) P tail460 lm σ (retK fun v σ' => v = .bool true ∧ σ'[0]? = some o) := by
  have T' : TabP P := T.toTabP
  have hbig0 : (0 : Nat) ≤ big := by decide
  have hsz : b.tm.size ≤ 71 := hbd.size
  have hdep : b.tm.dep ≤ 7 := hbd.dep
  have hdp := hbd.dp
  have sz2 := (List.getElem?_eq_some_iff.mp hS.fd).1
  unfold tail460
  (refine r_seq (r_assign (r_call (r_econs ?_))); refine' r_var ?wa ?_; (case wa => assumption); refine a_cons1 (r_econs ?_); refine' r_var ?wa ?_; (case wa => assumption); refine a_cons1 (r_econs (r_new (r_econs ?_))); refine' r_var ?wa ?_; (case wa => assumption); refine a_cons1 (r_pures rfl (a_cons2 ?_)); refine' r_newK ?wa ?_; (case wa => exact TabP.i290 (by assumption)))
  refine freshInit_S T' get_new ?_
  have F1 : Fr (fun _ => False) σ ((σ ++ [AObj.inst 290 []]).set σ.length (.inst 290 [(4, .int lo)])) := (Fr.new _).setNew (Nat.le_refl _)
  have hf : ((σ ++ [AObj.inst 290 []]).set σ.length (.inst 290 [(4, .int lo)]))[σ.length]? = some (.inst 290 [(4, .int lo)]) := get_set_eq get_new
  refine a_new (a_cons1 (r_pures rfl (a_cons2 (a_cons2 (a_cons2 (a_call ?_))))))
  generalize ((σ ++ [AObj.inst 290 []]).set σ.length (.inst 290 [(4, .int lo)])) = τ at *
  have hsz8 := head_size (hb := hb) (b := b) (p := p) hth.size hsz hps
  refine trans_S (m := m + 199) T' (sym_no hS F1) ok h0 hth.head hth.ok hbd.ok (fun l e => by have := (hps l e).2; (first | lia | omega)) (by (first | lia | omega)) (by (first | lia | omega)) hf (by (first | lia | omega)) (by (first | lia | omega)) fun S' U σ₂ l hh' hb' s2 o2 F2 hU => ?_
  have hdue : (TGr S' (φt U lo) hb b p) = (TGr S φo hb b p).ren (rho U lo) := by
    rw [← TGr_ren hth.v hbd.v hps, TGr_le ok o2 l φo hh hbh]
  rw [hdue]
  have h02 : σ₂[0]? = some o := F2.at' _ _ (F1.at' _ _ h00 id) (by unfold MM symM; (first | lia | omega))
  have sz3 := (List.getElem?_eq_some_iff.mp s2.fd).1
  (refine a_asg (t_var (a_nx (r_seqN (r_seq (r_assign (r_dict0 (a_asg (t_var (a_nx ?_))))))))); refine r_seqN (r_seq (r_site (r_tnot (r_te (r_call (r_econs ?_)))))); refine' r_var ?wa ?_; (case wa => assumption); refine a_cons1 (r_econs (r_var rfl (a_cons1 (r_econs (r_var rfl (a_cons1 (r_econs ?_))))))); refine' r_var ?wa ?_; (case wa => assumption); refine a_cons1 (r_pures rfl (a_cons2 (a_cons2 (a_cons2 (a_cons2 (a_call ?_)))))))
  refine alike_S T (rho_small U lo) (rho_inj U lo) (rho_low U lo) (m + 199) (TGr S φo hb b p) (by have := TGr_dep (S := S) (hb := hb) (b := b) hth.dep hdep hps; (first | lia | omega)) (TGr_vars hth.v hbd.v hps) _ [] _ get_new (fun _ h => (nomatch h)) (by have := TGr_size (S := S) (hb := hb) (b := b) hth.size hsz hps; simp; (first | lia | omega)) fun σ₃ seen h3 hge hlen F3 => ?_
  have h03 : σ₃[0]? = some o := F3.at' _ _ (get_app h02) (by (first | lia | omega))
  (refine r_truB (a_not ?_); refine a_siteF ?wa ?_; (case wa => decide); refine r_skip (r_seqN (r_seq (r_for (i_val (r_call (r_econs ?_)))))); refine' r_var ?wa ?_; (case wa => assumption); refine a_cons1 (r_econs (r_list (r_pures rfl ?_))); refine a_list ?wa ?_; (case wa => assumption); refine a_cons1 (r_pures rfl (a_cons2 (a_cons2 (a_call ?_)))))
  refine numbers_S T (m + 199) (Tm.s 8 [headT hb p, b.tm]) (by (first | lia | omega)) _ _ [] _ get_new (by simp; (first | lia | omega)) fun σ₄ h4 F4 => ?_
  have sz4 := (List.getElem?_eq_some_iff.mp h3).1
  have h34 : σ₄[σ₂.length]? = some (.dict (tabd (rho U lo) seen)) := F4.at' _ _ (get_app h3) (by (first | lia | omega))
  have h04 : σ₄[0]? = some o := F4.at' _ _ (get_app h03) (by (first | lia | omega))
  rw [List.nil_append] at h4
  (refine' i_valL ?wa ?_; (case wa => assumption); refine a_for ?_)
  refine for_rule (fun i lm τ => τ = σ₄ ∧ lm 2 = some (.obj k) ∧ lm 6 = some b.tm.pv ∧ lm 16 = some (.obj σ₂.length)) ⟨rfl, l2, l6, rfl⟩ (fun i lm τ h => h.1 ▸ h4) ?_ ?_
  · rintro i y lm τ K hy ⟨rfl, k2, k6, k16⟩ hK
    rw [List.getElem?_map] at hy
    cases ex : (Tm.s 8 [headT hb p, b.tm]).vars[i]? with
    | none => rw [ex] at hy; cases hy
    | some n =>
      rw [ex] at hy
      have : y = .int n := by cases hy; rfl
      subst this
      have hv := vals_tab (rho U lo) n seen
      have hnv : ¬ n ∈ seen.map (rho U lo) := by
        intro hm
        obtain ⟨x, hx, e⟩ := List.mem_map.mp hm
        have := rho_not U lo x (hge x hx)
        rw [e] at this
        exact this (hU n (List.mem_of_getElem? ex))
      rw [decide_eq_false hnv] at hv
      have hlk0 := like_tab (rho U lo) 0 seen
      (refine r_seq (r_site (r_te (r_prim2 (r_var rfl (a_p2 ?_))))); refine' r_var ?wa ?_; (case wa => assumption); refine a_p2b ?_; refine' p_inVals ?wa ?wb ?wc ?_; (case wa => assumption); (case wb => with_reducible assumption); (case wc => assumption); refine r_truB ?_; refine a_siteF ?wa ?_; (case wa => decide); refine r_skip (r_seqN (r_skip (r_forN ?_))))
      exact hK _ _ ⟨rfl, k2, k6, k16⟩
  · rintro lm τ ⟨rfl, k2, k6, k16⟩
    (refine r_seqN (r_seq (r_ret (r_prim2 (r_call (r_econs ?_))))); refine' r_var ?wa ?_; (case wa => assumption); refine a_cons1 (r_econs ?_); refine' r_var ?wa ?_; (case wa => assumption); refine a_cons1 (r_econs (r_new (r_pures rfl ?_))); refine' r_newK ?wa ?_; (case wa => exact TabP.i290 (by assumption)))
    refine freshInit_S T' get_new ?_
    have F5 : Fr (fun _ => False) τ ((τ ++ [AObj.inst 290 []]).set τ.length (.inst 290 [(4, .int 0)])) := (Fr.new _).setNew (Nat.le_refl _)
    refine a_new (a_cons1 (r_pures rfl (a_cons2 (a_cons2 (a_cons2 (a_call ?_))))))
    generalize ((τ ++ [AObj.inst 290 []]).set τ.length (.inst 290 [(4, .int 0)])) = υ at *
    refine trans_not T' (body_not8 hbd.ok) ?_
    (refine a_p2 ?_; refine' r_var ?wa ?_; (case wa => assumption); refine a_p2b ?_)
    refine p_eq (eqS_refl _ _ (by (first | lia | omega))) ?_
    refine a_ret (r_seqR (r_retR (And.intro rfl ?_)))
    exact F5.at' _ _ h04 id
end
section
variable {P : Pg} {σ σ' : St} {k m ks kl : Nat} {S : Sym} {L : List Int} {Q : EQ}
theorem slice_map {α : Type} (f : α → PV) (l : List α) (lo hi st : Option Int) : ∃ l' : List α, sliceP (l.map f) lo hi st = l'.map f := by
  unfold sliceP
  rw [List.length_map]
  generalize sliceRange _ _ _ = r
  refine ⟨r.filterMap (l[·]?), ?_⟩
  rw [List.map_filterMap]
  refine congrArg (fun g => List.filterMap g r) ?_
  funext i
  rw [List.getElem?_map]
theorem newW (T : Tab1 P) {kc c : Nat} (h : W1 σ k ks kl S L) (hc : σ[kc]? = some (.list [.int (c : Int)])) (h1 : k + 4 < kc) (q : ∀ σ', W1 σ' k ks kl S L → σ'[kc]? = some (.list [.int ((c + 1 : Nat) : Int)]) → Fr (fun j => j = kc) σ σ' → Q (Tm.v (φo c)).pv σ') : wpCall P (m + 1) 425 [.obj kc] σ Q :=
  new_S T hc (q _ (h.fr (Fr.set rfl) h1) (set_c hc) (Fr.set rfl))
theorem law_S (T : Tab1 P) (script : List Int) : wpCall P (m + 201) 460 [.obj 0] [.ro (script.map .int)] fun v σ => v = .bool true ∧ σ[0]? = some (.ro (script.map .int)) := by
  have T' : TabP P := T.toTabP
  have hbig1 : (1 : Nat) ≤ big := by decide
  have hbig2 : (2 : Nat) ≤ big := by decide
  obtain ⟨L, hL⟩ := slice_map PV.int script none (some 80) none
  have h00 : ([AObj.ro (script.map .int)] : St)[0]? = some (.ro (script.map .int)) := rfl
  refine enter T.f460 rfl ?_
  unfold b_460
  (refine r_seq (r_assign (r_list (r_econs (r_primP rfl ?_)))); refine' p_sliceR ?wa ?wb ?wc ?wd ?we ?_; (case wa => rfl); (case wb => rfl); (case wc => rfl); (case wd => assumption); (case we => decide); refine a_cons1 (r_pures rfl (a_cons2 ?_)); refine a_list ?wa ?_; (case wa => assumption); refine a_asg (t_var (a_nx (r_seqN (r_seq (r_assign (r_new (r_pures rfl ?_))))))); refine' r_newK ?wa ?_; (case wa => exact TabP.i154 (by assumption)))
  rw [hL]
  simp only [List.cons_append, List.nil_append, List.length_cons, List.length_nil, Nat.zero_add, Nat.reduceAdd]
  refine init_S (k := 3) T' rfl rfl fun σ₁ s1 o1 F1 => ?_
  have w1 : W1 σ₁ 3 2 1 S0 L := ⟨s1, o1, S0.le_refl, ⟨⟨0, F1.at' 2 _ rfl (by decide)⟩, F1.at' 1 _ rfl (by decide), by decide⟩, by decide, by decide⟩
  have z1 : σ₁[0]? = some (.ro (script.map .int)) := F1.at' 0 _ rfl (by decide)
  refine a_new (a_asg (t_var (a_nx (r_seqN (r_seq (r_assign (r_callP rfl ?_)))))))
  refine pullW T w1 (by (first | lia | omega)) fun lo σ₂ _ _ w2 F2 => ?_
  have nM : ∀ {kf : Nat}, 0 < kf → ¬ MM 3 kf 0 := fun h hm => by unfold MM symM at hm; (first | lia | omega)
  have z2 := F2.at' _ _ z1 (nM (by (first | lia | omega)))
  refine a_asg (t_var (a_nx (r_seqN (r_seq (r_assign (r_callP rfl ?_))))))
  refine thing_S T w2 fun S₃ σ₃ hb l3 w3 F3 th => ?_
  have z3 := F3.at' _ _ z2 (nM (by (first | lia | omega)))
  (refine a_asg (t_var (a_nx (r_seqN (r_seq (r_assign (r_none (a_asg (t_var (a_nx ?_))))))))); refine r_seqN (r_seq (r_site (r_te (r_prim2 (r_callP rfl ?_))))))
  refine pullW T w3 (by (first | lia | omega)) fun r σ₄ _ _ w4 F4 => ?_
  have z4 := F4.at' _ _ z3 (nM (by (first | lia | omega)))
  by_cases hr : r = 2
  · (refine a_p2 (r_int (a_p2b (p_eq rfl (r_truB ?_)))); refine a_siteT ?wa ?_; (case wa => (simp only [decide_eq_true_eq, decide_eq_false_iff_not, Bool.not_eq_true, Bool.not_eq_true', Bool.not_eq_false, Bool.not_eq_false', decide_not, Bool.not_not, Bool.and_false, Bool.false_and, Bool.or_false, Bool.false_or, Bool.true_and, Bool.and_true, Bool.false_eq_true, Bool.and_eq_true, Bool.or_eq_true, not_true_eq_false, not_false_eq_true]; assumption)); refine r_seq (r_assign (r_callP rfl ?_)))
    refine items_S T w4 fun S₅ σ₅ its ko l5 w5 F5 hko hits hit hne hlen => ?_
    have z5 := F5.at' _ _ z4 (nM (by (first | lia | omega)))
    have sz4 := w4.len
    have hps : PsOk (some its) := fun l e => by cases e; exact ⟨hit, hlen⟩
    refine a_asg (t_var (a_nx (r_seqN (r_skip (r_seqN (r_seq (r_assign (r_callP rfl ?_))))))))
    refine body_mk T (m + 192) 3 w5 fun S₆ σ₆ b l6 w6 F6 bd => ?_
    have z6 := F6.at' _ _ z5 (nM (by (first | lia | omega)))
    have nMo : ∀ {kf : Nat}, kf ≠ ko → ¬ MM 3 kf ko := fun h hm => by unfold MM symM at hm; (first | lia | omega)
    have hits6 := F6.at' _ _ hits (nMo (by (first | lia | omega)))
    have sz6 := w6.len
    (refine a_asg (t_var (a_nx (r_seqN (r_seq (r_assign (r_ite (r_te (r_primP rfl (p_is ?_))))))))); refine r_truB ?_; refine a_iteF ?wa ?_; (case wa => (simp only [decide_eq_true_eq, decide_eq_false_iff_not, Bool.not_eq_true, Bool.not_eq_true', Bool.not_eq_false, Bool.not_eq_false', decide_not, Bool.not_not, Bool.and_false, Bool.false_and, Bool.or_false, Bool.false_or, Bool.true_and, Bool.and_true, Bool.false_eq_true, Bool.and_eq_true, Bool.or_eq_true, not_true_eq_false, not_false_eq_true]; intro h; cases h)); refine r_call (r_econs (r_int (a_cons1 (r_econs (r_var rfl (a_cons1 (r_econs (r_callP rfl ?_)))))))))
    refine law_list_S (e := .a 0) T hits6 fun σ₇ F7 => ?_
    have w7 := w6.no F7
    have z7 := F7.at' _ _ z6 id
    have hits7 := F7.at' _ _ hits6 id
    refine a_cons1 (r_pures rfl (a_cons2 (a_cons2 (a_cons2 (a_call ?_)))))
    refine pair_S T (x := hb.tm) (y := listT its (.a 0)) ?_
    refine a_asg (t_var (a_nx (r_seqN (r_seq (r_assign (r_callP rfl ?_))))))
    refine pair_S T (x := .s 1 [hb.tm, listT its (.a 0)]) (y := b.tm) ?_
    (refine a_asg (t_var (a_nx (r_seqN (r_seq (r_assign (r_list (r_pures rfl ?_))))))); refine a_list ?wa ?_; (case wa => assumption); refine a_asg (t_var (a_nx (r_seqN (r_seq (r_assign (r_callP rfl ?_)))))))
    have sz7 := w7.len
    have kne : σ₇.length ≠ ko := by have := (List.getElem?_eq_some_iff.mp hits7).1; (first | lia | omega)
    refine newW (c := 0) T (w7.no (Fr.new _)) get_new sz7 fun σ₈ w8 c8 F8 => ?_
    have z8 := F8.at' _ _ (get_app z7) (by (first | lia | omega))
    have hits8 := F8.at' _ _ (get_app hits7) (by (first | lia | omega))
    refine a_asg (t_var (a_nx (r_seqN (r_seq (r_assign (r_callP rfl ?_))))))
    refine newW (c := 1) T w8 c8 sz7 fun σ₉ w9 c9 F9 => ?_
    have z9 := F9.at' _ _ z8 (by (first | lia | omega))
    have hits9 := F9.at' _ _ hits8 (by (first | lia | omega))
    (refine a_asg (t_var (a_nx (r_seqN (r_seq (r_assign (r_ite (r_te (r_primP rfl (p_is ?_))))))))); refine r_truB ?_; refine a_iteF ?wa ?_; (case wa => (simp only [decide_eq_true_eq, decide_eq_false_iff_not, Bool.not_eq_true, Bool.not_eq_true', Bool.not_eq_false, Bool.not_eq_false', decide_not, Bool.not_not, Bool.and_false, Bool.false_and, Bool.or_false, Bool.false_or, Bool.true_and, Bool.and_true, Bool.false_eq_true, Bool.and_eq_true, Bool.or_eq_true, not_true_eq_false, not_false_eq_true]; intro h; cases h)); refine r_callP rfl ?_)
    refine newW (c := 2) T w9 c9 sz7 fun σ₁₀ w10 c10 F10 => ?_
    have z10 := F10.at' _ _ z9 (by (first | lia | omega))
    have hits10 := F10.at' _ _ hits9 (by (first | lia | omega))
    refine a_asg (t_var (a_nx (r_seqN (r_seq (r_assign (r_callP rfl ?_))))))
    refine wov_all T b (m + 200) (by have := bd.dp; (first | lia | omega)) (x := .v (φo 0)) (y := .v (φo 2)) (c := 3) w10.s w10.o w10.z bd.ok bd.p c10 sz7 fun S₁₁ σ₁₁ l11 hh11 s11 o11 c11 F11 => ?_
    have z11 := F11.at' _ _ z10 (nM (by (first | lia | omega)))
    have hits11 := F11.at' _ _ hits10 (nMo kne)
    (refine a_asg (t_var (a_nx (r_seqN (r_seq (r_site (r_te (r_primP rfl (p_isNot (r_truB ?_))))))))); refine a_siteT ?wa ?_; (case wa => (simp only [decide_eq_true_eq, decide_eq_false_iff_not, Bool.not_eq_true, Bool.not_eq_true', Bool.not_eq_false, Bool.not_eq_false', decide_not, Bool.not_not, Bool.and_false, Bool.false_and, Bool.or_false, Bool.false_or, Bool.true_and, Bool.and_true, Bool.false_eq_true, Bool.and_eq_true, Bool.or_eq_true, not_true_eq_false, not_false_eq_true]; intro h; cases h)); refine r_seq (r_assign (r_call (r_econs (r_int (a_cons1 (r_econs (r_var rfl (a_cons1 (r_econs ?_))))))))); refine r_call (r_econs (r_int (a_cons1 (r_econs (r_var rfl (a_cons1 (r_econs (r_callP rfl ?_)))))))))
    refine law_list_S (e := .v (φo 2)) T hits11 fun σ₁₂ F12 => ?_
    have z12 := F12.at' _ _ z11 id
    refine a_cons1 (r_pures rfl (a_cons2 (a_cons2 (a_cons2 (a_call ?_)))))
    refine pair_S T (x := .v (φo 1)) (y := listT its (.v (φo 2))) ?_
    refine a_cons1 (r_pures rfl (a_cons2 (a_cons2 (a_cons2 (a_call ?_)))))
    refine pair_S T (x := G S₁₁ φo b (.v (φo 0)) (.v (φo 2)) 3) (y := .s 10 [.v (φo 1), listT its (.v (φo 2))]) ?_
    (refine a_asg (t_var (a_nx (r_seqN (r_skip (r_seqN (r_seq (r_assign (r_call (r_econs ?_))))))))); refine r_int (a_cons1 (r_econs (r_callP rfl ?_))))
    have l5' := (l5.trans l6).trans l11
    refine called_S T hb th.head (x := .v (φo 0)) (y := .v (φo 1)) φo 0 (sym_no s11 F12) o11 (Bd.ok_le l5' th.ok) (Bd.isP_le l5' th.p) fun S₁₃ σ₁₃ l13 hh13 s13 o13 F13 => ?_
    have z13 := F13.at' _ _ z12 (by unfold symM; (first | lia | omega))
    refine a_cons1 (r_pures rfl (a_cons2 (a_cons2 (a_call ?_))))
    refine pair_S T (x := G S₁₃ φo hb (.v (φo 0)) (.v (φo 1)) 0) (y := .s 1 [G S₁₁ φo b (.v (φo 0)) (.v (φo 2)) 3, .s 10 [.v (φo 1), listT its (.v (φo 2))]]) ?_
    have hdue : Tm.s 5 [G S₁₃ φo hb (.v (φo 0)) (.v (φo 1)) 0, .s 1 [G S₁₁ φo b (.v (φo 0)) (.v (φo 2)) 3, .s 10 [.v (φo 1), listT its (.v (φo 2))]]] = TGr S₁₃ φo hb b (some its) := by
      simp only [TGr]
      rw [G_le o11 o13 l13 φo hh11]
    rw [hdue]
    (refine a_asg ?_; refine t_var ?_; refine a_nx ?_; refine r_seqN ?_)
    have la := l5'.trans l13
    have lb := l11.trans l13
    exact law_tail (p := some its) T s13 o13 ((w10.z.trans l11).trans l13) ⟨th.head, Bd.ok_le la th.ok, Bd.isP_le la th.p, th.v, th.dp, th.size, th.dep⟩ (bd.le lb) hps hh13 (Bd.has_le o11 o13 l13 hh11) rfl rfl rfl rfl rfl z13 (by decide)
  · have hps : PsOk none := fun l e => (nomatch e)
    (refine a_p2 (r_int (a_p2b (p_eq rfl (r_truB ?_)))); refine a_siteF ?wa ?_; (case wa => (simp only [decide_eq_true_eq, decide_eq_false_iff_not, Bool.not_eq_true, Bool.not_eq_true', Bool.not_eq_false, Bool.not_eq_false', decide_not, Bool.not_not, Bool.and_false, Bool.false_and, Bool.or_false, Bool.false_or, Bool.true_and, Bool.and_true, Bool.false_eq_true, Bool.and_eq_true, Bool.or_eq_true, not_true_eq_false, not_false_eq_true]; assumption)); refine r_skip (r_seqN (r_seq (r_assign (r_callP rfl ?_)))))
    refine body_mk T (m + 192) 3 w4 fun S₆ σ₆ b l6 w6 F6 bd => ?_
    have z6 := F6.at' _ _ z4 (nM (by (first | lia | omega)))
    have sz6 := w6.len
    (refine a_asg (t_var (a_nx (r_seqN (r_seq (r_assign (r_ite (r_te (r_primP rfl (p_is ?_))))))))); refine r_truB ?_; refine a_iteT ?wa ?_; (case wa => (simp only [decide_eq_true_eq, decide_eq_false_iff_not, Bool.not_eq_true, Bool.not_eq_true', Bool.not_eq_false, Bool.not_eq_false', decide_not, Bool.not_not, Bool.and_false, Bool.false_and, Bool.or_false, Bool.false_or, Bool.true_and, Bool.and_true, Bool.false_eq_true, Bool.and_eq_true, Bool.or_eq_true, not_true_eq_false, not_false_eq_true]; done)); refine r_var rfl (a_asg (t_var (a_nx (r_seqN (r_seq (r_assign (r_callP rfl ?_))))))))
    refine pair_S T (x := hb.tm) (y := b.tm) ?_
    (refine a_asg (t_var (a_nx (r_seqN (r_seq (r_assign (r_list (r_pures rfl ?_))))))); refine a_list ?wa ?_; (case wa => assumption); refine a_asg (t_var (a_nx (r_seqN (r_seq (r_assign (r_callP rfl ?_)))))))
    refine newW (c := 0) T (w6.no (Fr.new _)) get_new sz6 fun σ₈ w8 c8 F8 => ?_
    have z8 := F8.at' _ _ (get_app z6) (by (first | lia | omega))
    refine a_asg (t_var (a_nx (r_seqN (r_seq (r_assign (r_callP rfl ?_))))))
    refine newW (c := 1) T w8 c8 sz6 fun σ₉ w9 c9 F9 => ?_
    have z9 := F9.at' _ _ z8 (by (first | lia | omega))
    (refine a_asg (t_var (a_nx (r_seqN (r_seq (r_assign (r_ite (r_te (r_primP rfl (p_is ?_))))))))); refine r_truB ?_; refine a_iteT ?wa ?_; (case wa => (simp only [decide_eq_true_eq, decide_eq_false_iff_not, Bool.not_eq_true, Bool.not_eq_true', Bool.not_eq_false, Bool.not_eq_false', decide_not, Bool.not_not, Bool.and_false, Bool.false_and, Bool.or_false, Bool.false_or, Bool.true_and, Bool.and_true, Bool.false_eq_true, Bool.and_eq_true, Bool.or_eq_true, not_true_eq_false, not_false_eq_true]; done)); refine r_var rfl (a_asg (t_var (a_nx (r_seqN (r_seq (r_assign (r_callP rfl ?_))))))))
    refine wov_all T b (m + 200) (by have := bd.dp; (first | lia | omega)) (x := .v (φo 0)) (y := .v (φo 1)) (c := 2) w9.s w9.o w9.z bd.ok bd.p c9 sz6 fun S₁₁ σ₁₁ l11 hh11 s11 o11 c11 F11 => ?_
    have z11 := F11.at' _ _ z9 (nM (by (first | lia | omega)))
    (refine a_asg (t_var (a_nx (r_seqN (r_seq (r_site (r_te (r_primP rfl (p_isNot (r_truB ?_))))))))); refine a_siteF ?wa ?_; (case wa => (simp only [decide_eq_true_eq, decide_eq_false_iff_not, Bool.not_eq_true, Bool.not_eq_true', Bool.not_eq_false, Bool.not_eq_false', decide_not, Bool.not_not, Bool.and_false, Bool.false_and, Bool.or_false, Bool.false_or, Bool.true_and, Bool.and_true, Bool.false_eq_true, Bool.and_eq_true, Bool.or_eq_true, not_true_eq_false, not_false_eq_true]; done)); refine r_skip (r_seqN (r_seq (r_assign (r_call (r_econs (r_int (a_cons1 (r_econs (r_callP rfl ?_))))))))))
    have l5' := l6.trans l11
    refine called_S T hb th.head (x := .v (φo 0)) (y := .v (φo 1)) φo 0 s11 o11 (Bd.ok_le l5' th.ok) (Bd.isP_le l5' th.p) fun S₁₃ σ₁₃ l13 hh13 s13 o13 F13 => ?_
    have z13 := F13.at' _ _ z11 (by unfold symM; (first | lia | omega))
    refine a_cons1 (r_pures rfl (a_cons2 (a_cons2 (a_call ?_))))
    refine pair_S T (x := G S₁₃ φo hb (.v (φo 0)) (.v (φo 1)) 0) (y := G S₁₁ φo b (.v (φo 0)) (.v (φo 1)) 2) ?_
    have hdue : Tm.s 5 [G S₁₃ φo hb (.v (φo 0)) (.v (φo 1)) 0, G S₁₁ φo b (.v (φo 0)) (.v (φo 1)) 2] = TGr S₁₃ φo hb b none := by
      simp only [TGr]
      rw [G_le o11 o13 l13 φo hh11]
    rw [hdue]
    (refine a_asg ?_; refine t_var ?_; refine a_nx ?_; refine r_seqN ?_)
    have la := l5'.trans l13
    have lb := l11.trans l13
    exact law_tail (p := none) T s13 o13 ((w9.z.trans l11).trans l13) ⟨th.head, Bd.ok_le la th.ok, Bd.isP_le la th.p, th.v, th.dp, th.size, th.dep⟩ (bd.le lb) hps hh13 (Bd.has_le o11 o13 l13 hh11) rfl rfl rfl rfl rfl z13 (by decide)
end
end Mine
open PySem PySem.W PyProof.Rows
namespace Mine
section
theorem main.tw18244764956680579193 : True := trivial
theorem main.tw11156056980113079860 : True := trivial
theorem main.tw684408950050414953 : True := trivial
theorem main.tw11182973995046164717 : True := trivial
theorem main.tw16826212616301561204 : True := trivial
theorem main.tw13815020969739908023 : True := trivial
theorem main.tw7712634645042067442 : True := trivial
theorem main.tw16696644119737139619 : True := trivial
theorem main.tw4816531377298285970 : True := trivial
theorem main.tw10270246312553454781 : True := trivial
theorem main.tw16443588534754282446 : True := trivial
theorem main.tw13060980750630203840 : True := trivial
theorem main.tw7298748307773712898 : True := trivial
theorem main.tw7929197687748531871 : True := trivial
theorem main.tw15984706205718930553 : True := trivial
theorem main.tw1821236086877601451 : True := trivial
theorem main.tw17057053908230417247 : True := trivial
theorem main.tw14313897822631088780 : True := trivial
theorem main.tw3137596982192898869 : True := trivial
theorem main.tw12732289081945773324 : True := trivial
theorem main.tw11120327062377616369 : True := trivial
theorem main.tw9756827057097773860 : True := trivial
theorem main.tw15365013842991253249 : True := trivial
theorem main.tw17353955331779342651 : True := trivial
theorem main.tw12626715702454501173 : True := trivial
theorem main.tw12839114828313443825 : True := trivial
theorem main.tw8118072479153026202 : True := trivial
theorem main.tw5602234197418806665 : True := trivial
theorem main.tw4900431672193113347 : True := trivial
theorem main.tw8808949154728543533 : True := trivial
theorem main.tw14064073609400967072 : True := trivial
theorem main.tw9381277316556691805 : True := trivial
theorem main.tw9670510015898674028 : True := trivial
theorem main.tw4026956272090484662 : True := trivial
theorem main.tw15768048840197415361 : True := trivial
theorem main.tw16519101796099990279 : True := trivial
theorem main.tw6757682118671568561 : True := trivial
theorem main.tw4261964983698606537 : True := trivial
theorem main.tw9376575566392132001 : True := trivial
theorem main.tw11595355409239048105 : True := trivial
theorem main.tw330327031418712150 : True := trivial
theorem main.tw765107192605250810 : True := trivial
theorem main.tw14080665800827857628 : True := trivial
theorem main.tw1118068078248606362 : True := trivial
theorem main.tw17402982504261768225 : True := trivial
theorem main.tw2647654807098235363 : True := trivial
theorem main.tw2279707942289718827 : True := trivial
theorem main.tw17297283025540448806 : True := trivial
theorem main.tw12922898485456448571 : True := trivial
theorem main.tw15554039934745177238 : True := trivial
theorem main.tw10928175160051115300 : True := trivial
theorem main.tw18284262389922463811 : True := trivial
theorem main.tw2759098988195820126 : True := trivial
theorem main.tw11261727412033496967 : True := trivial
theorem main.tw2195194259037543316 : True := trivial
theorem main.tw2921621734765799159 : True := trivial
theorem main.tw4038153913678941442 : True := trivial
theorem main.tw15624239662980076321 : True := trivial
theorem main.tw17264900360498390715 : True := trivial
theorem main.tw961187720498965250 : True := trivial
theorem main.tw5518243967957118194 : True := trivial
theorem main.tw3960113756560652017 : True := trivial
theorem main.tw10204856939554784155 : True := trivial
theorem main.tw7698036289167662538 : True := trivial
theorem main.tw4333880214566435006 : True := trivial
theorem main.tw10199874654664476236 : True := trivial
theorem main.tw13293747886898857621 : True := trivial
theorem main.tw1099256609624015869 : True := trivial
theorem main.tw1615956725737779560 : True := trivial
theorem main.tw8729708805864041840 : True := trivial
theorem main.tw17679725944135375923 : True := trivial
theorem main.tw4650958065196391918 : True := trivial
theorem main.tw15734660467963936456 : True := trivial
theorem main.tw16798622893749714585 : True := trivial
theorem main.tw302440914744352476 : True := trivial
theorem main.tw12885385263037960081 : True := trivial
theorem main.tw9994787619460420439 : True := trivial
theorem main.tw10665089971535097683 : True := trivial
theorem main.tw5585478044538960755 : True := trivial
theorem main.tw9265829497004654079 : True := trivial
theorem main.tw750237026923860459 : True := trivial
theorem main.tw18315214858253571532 : True := trivial
theorem main.tw6019089244302038806 : True := trivial
theorem main.tw1496695287857109588 : True := trivial
theorem main.tw13355152605343272895 : True := trivial
theorem main.tw52199770228462824 : True := trivial
theorem main.tw17715262827843222689 : True := trivial
theorem main.tw4365514962571936147 : True := trivial
theorem main.tw7751025194823839400 : True := trivial
theorem main.tw12941917028564957548 : True := trivial
theorem main.tw9976160756891316704 : True := trivial
theorem main.tw2406621943657119228 : True := trivial
theorem main.tw6655696309031964122 : True := trivial
theorem main.tw9508770018378322450 : True := trivial
theorem main.tw5649967823195072380 : True := trivial
theorem main.tw5240536507193477226 : True := trivial
theorem main.tw1130211791997205004 : True := trivial
theorem main.tw16480584520131690045 : True := trivial
theorem main.tw17272174723667511238 : True := trivial
theorem main.tw14662554035588321541 : True := trivial
theorem main.tw16187894506366716058 : True := trivial
theorem main.tw12623159325031504133 : True := trivial
theorem main.tw18431692314602308842 : True := trivial
theorem main.tw11982392923317675503 : True := trivial
theorem main.tw7083192437325867461 : True := trivial
theorem main.tw13676971244355772609 : True := trivial
theorem main.tw5061512775090418087 : True := trivial
theorem main.tw8930851030842425676 : True := trivial
theorem main.tw1306636233014830658 : True := trivial
theorem main.tw14907226015203709474 : True := trivial
theorem main.tw17708487481403421675 : True := trivial
theorem main.tw6044114016751833949 : True := trivial
theorem main.tw4126091431370883743 : True := trivial
theorem main.tw17091655785135471103 : True := trivial
theorem main.tw6162249291895867263 : True := trivial
theorem main.tw1390771862084280389 : True := trivial
theorem main.tw13590572293223372214 : True := trivial
theorem main.tw2906824675625879941 : True := trivial
theorem main.tw14539993770535171780 : True := trivial
theorem main.tw6886502059237256666 : True := trivial
theorem main.tw9483120023164983764 : True := trivial
theorem main.tw7186131708394509389 : True := trivial
theorem main.tw13402765919934010277 : True := trivial
theorem main.tw7237411587787531456 : True := trivial
theorem main.tw3583811862363856187 : True := trivial
theorem main.tw7221758910455160077 : True := trivial
theorem main.tw6112859857366181021 : True := trivial
theorem main.tw1714950047550659301 : True := trivial
theorem main.tw13503263706703578961 : True := trivial
theorem main.tw3466206800631347469 : True := trivial
theorem main.tw3454311308915712629 : True := trivial
theorem main.tw221909299271738847 : True := trivial
theorem main.tw12298629886278197574 : True := trivial
theorem main.tw12431731261707249289 : True := trivial
theorem main.tw8652556701797213591 : True := trivial
theorem main.tw979501456738626862 : True := trivial
theorem main.tw9730157408454304684 : True := trivial
theorem main.tw18332899500509843999 : True := trivial
theorem main.tw12927740378394474205 : True := trivial
theorem main.tw13110577991587790113 : True := trivial
theorem main.tw1678875084529416142 : True := trivial
theorem main.tw17118054049896295152 : True := trivial
theorem main.tw10094358506670053839 : True := trivial
theorem main.tw5102693214775723256 : True := trivial
theorem main.tw16320729459185622934 : True := trivial
theorem main.tw5160751907100791332 : True := trivial
theorem main.tw16356685582667847594 : True := trivial
theorem main.tw13626721169425172152 : True := trivial
theorem main.tw5084117380071580128 : True := trivial
theorem main.tw10047389527955405517 : True := trivial
theorem main.tw14061640607465278742 : True := trivial
theorem main.tw1156462466702112376 : True := trivial
theorem main.tw11710404883906591787 : True := trivial
theorem main.tw11181722664286889309 : True := trivial
theorem main.tw2852251193174398662 : True := trivial
theorem main.tw656089360051881306 : True := trivial
theorem main.tw13219505800766818778 : True := trivial
set_option Elab.async true in
set_option tactic.hygienic true in
theorem main : PySem.Challenge.rw_ok0017_01.Holds := by
  w_on; o_law; k_head; (case hw => w_witness2)
  k_fill
  intro w s₀ s₁ mg mb G Y fa o pm cd doc dV kV ho hd hcd hD hmg hg args vals as hpre hlay hrd hwl hlo
  have KX := kIn_of Y
  refine Ground.open G ?_
  intro T B D TE TW
  have hfa : fa = 460 := by
    have := mg_of KX T.g (n := "law") (v := .ref 460) (by rfl)
    rw [hmg] at this
    injection this with this
    injection this
  subst hfa
  clear ho hd hcd hD hmg
  have hlo2 := hlo
  wrow_args hpre hlay hrd hwl hlo
  all_goals first | refine callC_kw (enter_call ?_) | refine enter_call ?_
  all_goals rename_i script _ _ _ _ _ _ _ a vs _ hL _ _ hr0 hI _ hlen _
  have ha : a ≠ sysModules := by
    cases hr0
    have := hlo2 a (by simp)
    simpa using this
  refine codeAny_mono (Mine.join_law (N := 300) KX T ha hL hI (by unfold Mine.big; (first | lia | omega)) (by rfl) (by (first | lia | omega)) (Mine.law_S (m := 99) ?tab script)) fun r s' x => ?_
  case tab => constructor <;> first | rfl | (constructor <;> rfl)
  obtain ⟨rfl, hk, hos, hgn⟩ := x
  exact ⟨.inl ⟨_, _, [], rfl, fun _ => rfl, ReadsW.bool true, by first | rfl | wrow_post, fun _ => ⟨List.nodup_nil, fun _ hm => (nomatch hm)⟩⟩, .of_keep hk, hos, .of_eq (hgn.trans hg)⟩
end
end Mine
theorem PySem.Challenge.cw_ok0017_01_holds : PySem.Challenge.rw_ok0017_01.Holds :=
  Mine.main
