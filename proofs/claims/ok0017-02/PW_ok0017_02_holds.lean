import PyProof.Rows.All
import Wide.All
import OpenK.AllK
import Wide.FinOn
import PySem.Challenge.RW_ok0017_02
set_option Elab.async false
set_option maxRecDepth 100000
set_option maxHeartbeats 8000000
set_option compiler.extract_closed false
set_option linter.all false
set_option genSizeOf false
set_option tactic.hygienic false
namespace Mine
open scoped Classical
section
open PySem PySem.W PyProof.Rows

inductive PV where
  | none | bool (b : Bool) | int (i : Int) | str (s : Str) | tup (xs : List PV) | obj (k : Nat)


inductive AObj where
  | list (xs : List PV) | ro (xs : List PV) | dict (kvs : List (PV × PV)) | inst (c : Addr) (fs : List (Nat × PV))
abbrev St := List AObj
abbrev LM := Nat → Option PV
noncomputable def upd (lm : LM) (i : Nat) (v : PV) : LM := fun j => if j = i then some v else lm j

inductive Prim where
  | add | sub | mod
  | fdiv | le
  | eq | ne | lt | gt | ge | is | isNot | inn | notIn | idx | slice | len | tupleOf | listRev
  | listDict | sorted
inductive BM where
  | append | pop | extendRev | get
  | reverse

mutual
inductive ME where
  | stuck | none | bool (b : Bool) | int (i : Int) | str (s : Str)
  | var (i : Nat)
  | tup (es : MEs) | list (es : MEs) | dict0
  | call (f : Addr) (es : MEs)
  | new (c : Addr) (es : MEs)
  | meth (e : ME) (m : Nat) (es : MEs)
  | bm (m : BM) (e : ME) (es : MEs)
  | prim (p : Prim) (es : MEs)
  | attr (e : ME) (a : Nat)
  | or (a b : ME)
  | ite (c : MT) (a b : ME)
  | comp (elt : ME) (x : Nat) (it : MI) (cond : MT)
  | uniq (e : ME)
inductive MEs where
  | nil | cons (e : ME) (es : MEs)
inductive MT where
  | tt | e (e : ME) | not (t : MT) | and (a b : MT) | or (a b : MT)
inductive MI where
  | val (e : ME) | range (es : MEs) | rev (e : ME)
end
inductive TG where
  | stuck | var (i : Nat) | tup (is : List Nat) | attr (e : ME) (a : Nat) | idx (e i : ME)
inductive MS where
  | stuck | skip | ret (e : ME) | expr (e : ME)
  | brk | cont
  | assign (t : TG) (e : ME)
  | augVar (i : Nat) (e : ME)
  | augIdx (o i : ME) (e : ME)
  | ite (c : MT) (a b : MS)
  | loop (c : MT) (b : MS)
  | for (x : Nat) (it : MI) (b : MS)
  | seq (a b : MS)
inductive Fl where
  | next
  | brk | cont
  | ret (v : PV)

theorem nos {α : Type} {a : α} {P : Prop} (h : none = some a) : P := by cases h
theorem ite_inv {α : Type} {c : Prop} [Decidable c] {x : Option α} {a : α} (h : (if c then x else none) = some a) : c ∧ x = some a := by
  by_cases hc : c
  · rw [if_pos hc] at h; exact ⟨hc, h⟩
  · rw [if_neg hc] at h; exact nos h
theorem noB {P : Prop} (h : false = true) : P := Bool.noConfusion h

noncomputable def lsO : AObj → Option (List PV)
  | .list xs => some xs
  | _ => none
noncomputable def lst? (σ : St) (k : Nat) : Option (List PV) := σ[k]?.bind lsO
theorem lst_of {σ : St} {k : Nat} {xs : List PV} (h : σ[k]? = some (.list xs)) : lst? σ k = some xs := by unfold lst?; rw [h]; rfl
theorem lst_inv {σ : St} {k : Nat} {xs : List PV} (h : lst? σ k = some xs) : σ[k]? = some (.list xs) := by
  obtain ⟨o, e, h⟩ := Option.bind_eq_some_iff.mp h
  cases o with
  | list ys => rw [show ys = xs from Option.some.inj h] at e; exact e
  | _ => exact nos h
noncomputable def truthy (σ : St) : PV → Option Bool
  | .bool b => some b
  | .obj k => (lst? σ k).map fun xs => !xs.isEmpty
  | _ => none

noncomputable def eqL (f : PV → PV → Option Bool) : List PV → List PV → Option Bool
  | [], [] => some true
  | [], _ :: _ => some false
  | _ :: _, [] => some false
  | x :: xs, y :: ys => match f x y with
    | some a => match eqL f xs ys with
      | some b => some (a && b)
      | none => none
    | none => none
noncomputable def eqv : Nat → PV → PV → Option Bool
  | 0, _, _ => none
  | n + 1, a, b => match a with
    | .int i => match b with
      | .int j => some (decide (i = j))
      | .str _ => some false
      | .tup _ => some false
      | _ => none
    | .str x => match b with
      | .str y => some (decide (x = y))
      | .int _ => some false
      | .tup _ => some false
      | _ => none
    | .tup l => match b with
      | .tup m => eqL (eqv n) l m
      | .int _ => some false
      | .str _ => some false
      | _ => none
    | _ => none
noncomputable def anyL (f : PV → Option Bool) : List PV → Option Bool
  | [] => some false
  | x :: xs => match f x with
    | some a => match anyL f xs with
      | some b => some (a || b)
      | none => none
    | none => none
noncomputable def eqDepth : Nat := 60
noncomputable def pyIdx {α : Type} (xs : List α) (n : Int) : Option α :=
  if 0 ≤ n then xs[n.toNat]? else if 0 ≤ n + xs.length then xs[(n + xs.length).toNat]? else none
noncomputable def sliceP (xs : List PV) (lo hi st : Option Int) : List PV :=
  (sliceRange (sliceBounds lo hi st xs.length).1 (sliceBounds lo hi st xs.length).2.1 (sliceBounds lo hi st xs.length).2.2).filterMap (xs[·]?)
noncomputable def partP : PV → Option (Option Int)
  | .none => some Option.none
  | .int i => some (some i)
  | _ => none
noncomputable def big : Nat := 1000000
noncomputable def isStrV : PV → Bool
  | .str _ => true
  | _ => false
noncomputable def isIntV : PV → Bool
  | .int _ => true
  | _ => false
noncomputable def isPairL (l : List PV) : Bool := match l with
  | [a, b] => isIntV a && isIntV b
  | _ => false
noncomputable def isPairV : PV → Bool
  | .tup l => isPairL l
  | _ => false
noncomputable def keyLike (a b : PV) : Bool := match a with
  | .str _ => isStrV b
  | .int _ => isIntV b
  | .tup l => isPairL l && isPairV b
  | _ => false
noncomputable def keysLike (k : PV) (kvs : List (PV × PV)) : Bool := keyLike k k && kvs.all fun p => keyLike k p.1
noncomputable def dget (k : PV) (kvs : List (PV × PV)) : Option PV := (kvs.find? fun p => decide (p.1 = k)).map (·.2)
noncomputable def dput (k v : PV) (kvs : List (PV × PV)) : List (PV × PV) :=
  if (dget k kvs).isSome then kvs.map fun p => if p.1 = k then (p.1, v) else p else kvs ++ [(k, v)]
noncomputable def fput (k : Nat) (v : PV) : List (Nat × PV) → List (Nat × PV)
  | [] => [(k, v)]
  | p :: r => if p.1 = k then (k, v) :: r else p :: fput k v r
noncomputable def rangeL (a b c : Int) : List PV := (List.range (Builtin.Range.rangeSize a b c).toNat).map fun (i : Nat) => PV.int (a + c * (i : Int))
noncomputable def smallR (i : Int) : Bool := decide (-1000000 ≤ i ∧ i ≤ 1000000)
noncomputable def rangeOf (vs xs : List PV) : Prop :=
  (∃ b, vs = [.int b] ∧ smallR b = true ∧ xs = rangeL 0 b 1) ∨ ∃ a b, vs = [.int a, .int b, .int (-1)] ∧ smallR a = true ∧ smallR b = true ∧ xs = rangeL a b (-1)
noncomputable def ints? : List PV → Option (List Int)
  | [] => some []
  | .int i :: r => (ints? r).map (i :: ·)
  | _ => none

noncomputable def eqLs (xs ys : List PV) : Option Bool := if xs.length = ys.length then eqL (eqv eqDepth) xs ys else some false
noncomputable def eqS (σ : St) (a b : PV) : Option Bool := match a with
  | .obj i => match b with
    | .obj j => (lst? σ i).bind fun xs => (lst? σ j).bind fun ys => eqLs xs ys
    | _ => none
  | _ => eqv eqDepth a b
noncomputable def inA (x : PV) : AObj → Option Bool
  | .list ys => anyL (fun y => eqv eqDepth y x) ys
  | .dict kvs => if keysLike x kvs then some (dget x kvs).isSome else none
  | _ => none
noncomputable def inS (σ : St) (x : PV) : PV → Option Bool
  | .tup ys => anyL (fun y => eqv eqDepth y x) ys
  | .obj k => σ[k]?.bind (inA x)
  | _ => none

noncomputable def intB (x y : PV) (f : Int → Int → Prop) : Prop := ∃ a b, x = .int a ∧ y = .int b ∧ f a b
noncomputable def lstB (σ : St) (x : PV) (f : Nat → List PV → Prop) : Prop := ∃ k xs, x = .obj k ∧ σ[k]? = some (.list xs) ∧ f k xs
noncomputable def dctB (σ : St) (x : PV) (f : Nat → List (PV × PV) → Prop) : Prop := ∃ k kvs, x = .obj k ∧ σ[k]? = some (.dict kvs) ∧ f k kvs
noncomputable def insB (σ : St) (x : PV) (f : Nat → Addr → List (Nat × PV) → Prop) : Prop := ∃ k c fs, x = .obj k ∧ σ[k]? = some (.inst c fs) ∧ f k c fs
noncomputable def tupB (x : PV) (f : List PV → Prop) : Prop := ∃ xs, x = .tup xs ∧ f xs
noncomputable def optB {α : Type} (o : Option α) (f : α → Prop) : Prop := ∃ a, o = some a ∧ f a
noncomputable def prim1 (p : Prim) (x : PV) (σ : St) (Q : PV → St → Prop) : Prop := match p with
  | .len => (tupB x fun xs => Q (.int xs.length) σ) ∨ lstB σ x fun _ xs => Q (.int xs.length) σ
  | .tupleOf => (tupB x fun xs => Q (.tup xs) σ) ∨ lstB σ x fun _ xs => Q (.tup xs) σ
  | .listRev => lstB σ x fun _ xs => Q (.obj σ.length) (σ ++ [.list xs.reverse])
  | .listDict => dctB σ x fun _ kvs => keysLike (.int 0) kvs = true ∧ Q (.obj σ.length) (σ ++ [.list (kvs.map (·.1))])
  | .sorted => lstB σ x fun _ xs => optB (ints? xs) fun ns => ns.length < 64 ∧ ∀ ms : List Int, ms.Perm ns → ms.Pairwise (· ≤ ·) → Q (.obj σ.length) (σ ++ [.list (ms.map .int)])
  | _ => False
noncomputable def prim2 (p : Prim) (x y : PV) (σ : St) (Q : PV → St → Prop) : Prop := match p with
  | .add => (intB x y fun a b => Q (.int (a + b)) σ) ∨
    (lstB σ x fun _ xs => lstB σ y fun _ ys => xs.length + ys.length ≤ big ∧ Q (.obj σ.length) (σ ++ [.list (xs ++ ys)])) ∨
    tupB x fun a => tupB y fun b => a.length + b.length ≤ big ∧ Q (.tup (a ++ b)) σ
  | .sub => intB x y fun a b => Q (.int (a - b)) σ
  | .mod => intB x y fun a b => 0 < b ∧ Q (.int (a % b)) σ
  | .fdiv => intB x y fun a b => (0 < b ∧ b ≤ 1000000) ∧ Q (.int (a / b)) σ
  | .eq => optB (eqS σ x y) fun r => Q (.bool r) σ
  | .ne => optB (eqS σ x y) fun r => Q (.bool (!r)) σ
  | .lt => intB x y fun a b => Q (.bool (decide (a < b))) σ
  | .le => intB x y fun a b => Q (.bool (decide (a ≤ b))) σ
  | .gt => intB x y fun a b => Q (.bool (decide (b < a))) σ
  | .ge => intB x y fun a b => Q (.bool (decide (b ≤ a))) σ
  | .is => y = .none ∧ Q (.bool (decide (x = .none))) σ
  | .isNot => y = .none ∧ Q (.bool (!decide (x = .none))) σ
  | .inn => optB (inS σ x y) fun r => Q (.bool r) σ
  | .notIn => optB (inS σ x y) fun r => Q (.bool (!r)) σ
  | .idx => (tupB x fun xs => ∃ n, y = .int n ∧ optB (pyIdx xs n) fun v => Q v σ) ∨
    (∃ s n, x = .str s ∧ y = .int n ∧ optB (pyIdx s.cps.toList n) fun c => s.cps.size ≤ big ∧ Q (.str ⟨#[c]⟩) σ) ∨
    (lstB σ x fun _ xs => ∃ n, y = .int n ∧ optB (pyIdx xs n) fun v => Q v σ) ∨
    dctB σ x fun _ kvs => ∃ n, y = .int n ∧ optB (dget (.int n) kvs) fun v => keysLike (.int n) kvs = true ∧ Q v σ
  | _ => False
noncomputable def prim4 (p : Prim) (x lo hi st : PV) (σ : St) (Q : PV → St → Prop) : Prop := p = .slice ∧
  ((∃ xs, x = .tup xs ∧ lo = .int (-2) ∧ hi = .none ∧ st = .none ∧ 2 ≤ xs.length ∧ Q (.tup (xs.drop (xs.length - 2))) σ) ∨
  ∃ k xs l h s, x = .obj k ∧ partP lo = some l ∧ partP hi = some h ∧ partP st = some s ∧
  (σ[k]? = some (.list xs) ∨ σ[k]? = some (.ro xs)) ∧ s ≠ some 0 ∧ Q (.obj σ.length) (σ ++ [.list (sliceP xs l h s)])
  )
noncomputable def prim (p : Prim) (vs : List PV) (σ : St) (Q : PV → St → Prop) : Prop := match vs with
  | [] => False
  | x :: r => match r with
    | [] => prim1 p x σ Q
    | y :: r => match r with
      | [] => prim2 p x y σ Q
      | a :: r => match r with
        | [] => False
        | b :: _ => prim4 p x y a b σ Q

noncomputable def bmOk (m : BM) (o : PV) (σ : St) : Prop := match m with
  | .get => dctB σ o fun _ _ => True
  | _ => lstB σ o fun _ _ => True
noncomputable def bmeth (m : BM) (o : PV) (vs : List PV) (σ : St) (Q : PV → St → Prop) : Prop := match m with
  | .append => lstB σ o fun k xs => ∃ v, vs = [v] ∧ xs.length < big ∧ Q .none (σ.set k (.list (xs ++ [v])))
  | .pop => lstB σ o fun k xs => vs = [] ∧ optB xs.getLast? fun v => Q v (σ.set k (.list xs.dropLast))
  | .reverse => lstB σ o fun k xs => vs = [] ∧ Q .none (σ.set k (.list xs.reverse))
  | .extendRev => lstB σ o fun k xs => ∃ ys, vs = [.tup ys] ∧ xs.length + ys.length ≤ big ∧ Q .none (σ.set k (.list (xs ++ ys.reverse)))
  | .get => dctB σ o fun _ kvs => ∃ key d, vs = [key, d] ∧ keysLike key kvs = true ∧ Q ((dget key kvs).getD d) σ

noncomputable def setIdx (o i v : PV) (σ : St) (Q : St → Prop) : Prop :=
  (lstB σ o fun k xs => ∃ n, i = .int n ∧ 0 ≤ n ∧ n < xs.length ∧ Q (σ.set k (.list (xs.set n.toNat v)))) ∨
  dctB σ o fun k kvs => keysLike i kvs = true ∧ kvs.length < 1000 ∧ Q (σ.set k (.dict (dput i v kvs)))
noncomputable def setAttr' (F : Addr → Nat → Bool) (o : PV) (a : Nat) (v : PV) (σ : St) (Q : St → Prop) : Prop :=
  insB σ o fun k c fs => F c a = true ∧ fs.length < 100 ∧ Q (σ.set k (.inst c (fput a v fs)))

structure FR where
  np : Nat
  body : MS
structure Pg where
  fn : Addr → Option FR
  init : Addr → Option Addr
  meth : Addr → Nat → Option Addr
  fld : Addr → Nat → Bool

abbrev EQ := PV → St → Prop
abbrev CT := Addr → List PV → St → EQ → Prop

noncomputable def compW (T : LM → St → (Bool → St → Prop) → Prop) (V : LM → St → EQ → Prop) (x : Nat) (chk : St → Prop) (lm : LM) : List PV → List PV → St → (List PV → St → Prop) → Prop
  | [], acc, σ, Q => chk σ ∧ Q acc σ
  | y :: ys, acc, σ, Q => chk σ ∧ T (upd lm x y) σ fun b σ₁ => if b then V (upd lm x y) σ₁ fun v σ₂ => acc.length < big ∧ compW T V x chk lm ys (acc ++ [v]) σ₂ Q else compW T V x chk lm ys acc σ₁ Q

noncomputable def uniqI (ns : List Int) : List Int := ns.foldl (fun acc n => if n ∈ acc then acc else acc ++ [n]) []

noncomputable def newK (P : Pg) (C : CT) (c : Addr) (Q : EQ) (vs : List PV) (σ : St) : Prop := optB (P.init c) fun f => C f (.obj σ.length :: vs) (σ ++ [.inst c []]) fun r σ₂ => r = .none ∧ Q (.obj σ.length) σ₂
noncomputable def attrK (P : Pg) (a : Nat) (Q : EQ) (o : PV) (σ : St) : Prop := insB σ o fun _ c fs => optB (fs.lookup a) fun v => P.fld c a = true ∧ Q v σ
noncomputable def truK (Q : Bool → St → Prop) (v : PV) (σ : St) : Prop := optB (truthy σ v) fun t => Q t σ
noncomputable def valK (Q : List PV → (St → Prop) → St → Prop) (v : PV) (σ : St) : Prop := (tupB v fun xs => Q xs (fun _ => True) σ) ∨ lstB σ v fun k xs => Q xs (fun τ => τ[k]? = some (.list xs)) σ
noncomputable def rangeK (Q : List PV → (St → Prop) → St → Prop) (vs : List PV) (σ : St) : Prop := ∃ xs, rangeOf vs xs ∧ Q xs (fun _ => True) σ
noncomputable def revK (Q : List PV → (St → Prop) → St → Prop) (v : PV) (σ : St) : Prop := lstB σ v fun k xs => Q xs.reverse (fun τ => τ[k]? = some (.list xs)) σ
section
variable (C : CT) (P : Pg)
mutual
noncomputable def wpe : ME → LM → St → EQ → Prop
  | .stuck, _, _, _ => False
  | .none, _, σ, Q => Q .none σ
  | .bool b, _, σ, Q => Q (.bool b) σ
  | .int i, _, σ, Q => Q (.int i) σ
  | .str x, _, σ, Q => Q (.str x) σ
  | .var i, lm, σ, Q => optB (lm i) fun v => Q v σ
  | .tup es, lm, σ, Q => wpes es lm σ fun vs σ₁ => vs.length ≤ big ∧ Q (.tup vs) σ₁
  | .list es, lm, σ, Q => wpes es lm σ fun vs σ₁ => vs.length ≤ big ∧ Q (.obj σ₁.length) (σ₁ ++ [.list vs])
  | .dict0, _, σ, Q => Q (.obj σ.length) (σ ++ [.dict []])
  | .call f es, lm, σ, Q => wpes es lm σ fun vs σ₁ => C f vs σ₁ Q
  | .new c es, lm, σ, Q => wpes es lm σ (newK P C c Q)
  | .meth e m es, lm, σ, Q => wpe e lm σ fun o σ₁ => insB σ₁ o fun k c fs => optB (P.meth c m) fun f => fs.lookup m = Option.none ∧ wpes es lm σ₁ fun vs σ₂ => C f (.obj k :: vs) σ₂ Q
  | .bm m e es, lm, σ, Q => wpe e lm σ fun o σ₁ => bmOk m o σ₁ ∧ wpes es lm σ₁ fun vs σ₂ => bmeth m o vs σ₂ Q
  | .prim p es, lm, σ, Q => wpes es lm σ fun vs σ₁ => prim p vs σ₁ Q
  | .attr e a, lm, σ, Q => wpe e lm σ (attrK P a Q)
  | .or a b, lm, σ, Q => wpe a lm σ fun v σ₁ => optB (truthy σ₁ v) fun t => if t then Q v σ₁ else wpe b lm σ₁ Q
  | .ite c a b, lm, σ, Q => wpt c lm σ fun t σ₁ => if t then wpe a lm σ₁ Q else wpe b lm σ₁ Q
  | .comp elt x it cond, lm, σ, Q => wpi it lm σ fun ys chk σ₁ =>
      compW (wpt cond) (wpe elt) x chk lm ys [] σ₁ fun vs σ₂ => Q (.obj σ₂.length) (σ₂ ++ [.list vs])
  | .uniq e, lm, σ, Q => wpe e lm σ fun v σ₁ => lstB σ₁ v fun _ xs => optB (ints? xs) fun ns => ns.length ≤ 1000 ∧ Q (.obj σ₁.length) (σ₁ ++ [.list ((uniqI ns).map .int)])
noncomputable def wpes : MEs → LM → St → (List PV → St → Prop) → Prop
  | .nil, _, σ, Q => Q [] σ
  | .cons e es, lm, σ, Q => wpe e lm σ fun v σ₁ => wpes es lm σ₁ fun vs σ₂ => Q (v :: vs) σ₂
noncomputable def wpt : MT → LM → St → (Bool → St → Prop) → Prop
  | .tt, _, σ, Q => Q true σ
  | .e e, lm, σ, Q => wpe e lm σ (truK Q)
  | .not t, lm, σ, Q => wpt t lm σ fun b σ₁ => Q (!b) σ₁
  | .and a b, lm, σ, Q => wpt a lm σ fun t σ₁ => if t then wpt b lm σ₁ Q else Q false σ₁
  | .or a b, lm, σ, Q => wpt a lm σ fun t σ₁ => if t then Q true σ₁ else wpt b lm σ₁ Q
noncomputable def wpi : MI → LM → St → (List PV → (St → Prop) → St → Prop) → Prop
  | .val e, lm, σ, Q => wpe e lm σ (valK Q)
  | .range es, lm, σ, Q => wpes es lm σ (rangeK Q)
  | .rev e, lm, σ, Q => wpe e lm σ (revK Q)
end

abbrev SQ := Fl → LM → St → Prop
noncomputable def asgs : List Nat → List PV → LM → Option LM
  | [], vs, lm => match vs with
    | [] => some lm
    | _ :: _ => none
  | i :: is, vs, lm => match vs with
    | [] => none
    | v :: vs => asgs is vs (upd lm i v)
noncomputable def wptg : TG → PV → LM → St → (LM → St → Prop) → Prop
  | .stuck, _, _, _, _ => False
  | .var i, v, lm, σ, Q => Q (upd lm i v) σ
  | .tup is, v, lm, σ, Q => tupB v fun vs => optB (asgs is vs lm) fun lm' => Q lm' σ
  | .attr e a, v, lm, σ, Q => wpe C P e lm σ fun o σ₁ => setAttr' P.fld o a v σ₁ fun σ₂ => Q lm σ₂
  | .idx e i, v, lm, σ, Q => wpe C P e lm σ fun o σ₁ => wpe C P i lm σ₁ fun iv σ₂ => setIdx o iv v σ₂ fun σ₃ => Q lm σ₃

noncomputable def forK (K : LM → St → Prop) (Q : SQ) (fl : Fl) (lm : LM) (σ : St) : Prop := match fl with
  | .next => K lm σ
  | .cont => K lm σ
  | .brk => Q .next lm σ
  | .ret v => Q (.ret v) lm σ
noncomputable def seqF (K : LM → St → Prop) (Q : SQ) (fl : Fl) (lm : LM) (σ : St) : Prop := match fl with
  | .next => K lm σ
  | .brk => Q .brk lm σ
  | .cont => Q .cont lm σ
  | .ret v => Q (.ret v) lm σ
noncomputable def retK (Q : EQ) (fl : Fl) (_ : LM) (σ : St) : Prop := match fl with
  | .next => Q .none σ
  | .brk => False
  | .cont => False
  | .ret v => Q v σ
noncomputable def loopK (I : Nat → LM → St → Prop) (n : Nat) (Q : SQ) (fl : Fl) (lm : LM) (σ : St) : Prop := forK (fun lm σ => ∃ m, m < n ∧ I m lm σ) Q fl lm σ
noncomputable def forW (B : LM → St → SQ → Prop) (x : Nat) (chk : St → Prop) : List PV → LM → St → SQ → Prop
  | [], lm, σ, Q => chk σ ∧ Q .next lm σ
  | y :: ys, lm, σ, Q => chk σ ∧ B (upd lm x y) σ (forK (fun lm₁ σ₁ => forW B x chk ys lm₁ σ₁ Q) Q)

noncomputable def loopW (T : LM → St → (Bool → St → Prop) → Prop) (B : LM → St → SQ → Prop) (lm : LM) (σ : St) (Q : SQ) : Prop :=
  ∃ I : Nat → LM → St → Prop, (∃ n, I n lm σ) ∧ ∀ n lm σ, I n lm σ → T lm σ fun t σ₁ => if t then B lm σ₁ (loopK I n Q) else Q .next lm σ₁

noncomputable def augW (old v : PV) (σ : St) (Q : PV → St → Prop) : Prop := (intB old v fun a b => Q (.int (a + b)) σ) ∨
  lstB σ old fun k xs => lstB σ v fun _ ys => xs.length + ys.length ≤ big ∧ Q old (σ.set k (.list (xs ++ ys)))
noncomputable def addK (lm : LM) (Q : SQ) (ov iv old v : PV) (σ : St) : Prop := intB old v fun a b => setIdx ov iv (.int (a + b)) σ fun σ₅ => Q .next lm σ₅

noncomputable def wps : MS → LM → St → SQ → Prop
  | .stuck, _, _, _ => False
  | .skip, lm, σ, Q => Q .next lm σ
  | .brk, lm, σ, Q => Q .brk lm σ
  | .cont, lm, σ, Q => Q .cont lm σ
  | .ret e, lm, σ, Q => wpe C P e lm σ fun v σ₁ => Q (.ret v) lm σ₁
  | .expr e, lm, σ, Q => wpe C P e lm σ fun _ σ₁ => Q .next lm σ₁
  | .assign t e, lm, σ, Q => wpe C P e lm σ fun v σ₁ => wptg C P t v lm σ₁ fun lm₂ σ₂ => Q .next lm₂ σ₂
  | .augVar i e, lm, σ, Q => optB (lm i) fun old => wpe C P e lm σ fun v σ₁ => augW old v σ₁ fun r σ₂ => Q .next (upd lm i r) σ₂
  | .augIdx o i e, lm, σ, Q => wpe C P o lm σ fun ov σ₁ => wpe C P i lm σ₁ fun iv σ₂ => prim .idx [ov, iv] σ₂ fun old σ₃ => wpe C P e lm σ₃ fun v σ₄ => addK lm Q ov iv old v σ₄
  | .ite c a b, lm, σ, Q => wpt C P c lm σ fun t σ₁ => if t then wps a lm σ₁ Q else wps b lm σ₁ Q
  | .loop c b, lm, σ, Q => loopW (wpt C P c) (wps b) lm σ Q
  | .for x it b, lm, σ, Q => wpi C P it lm σ fun ys chk σ₁ => forW (wps b) x chk ys lm σ₁ Q
  | .seq a b, lm, σ, Q => wps a lm σ (seqF (fun lm₁ σ₁ => wps b lm₁ σ₁ Q) Q)
end

noncomputable def lmOf (vs : List PV) : LM := fun i => vs[i]?
noncomputable def wpCall (P : Pg) : Nat → CT
  | 0, _, _, _, _ => False
  | n + 1, f, vs, σ, Q => optB (P.fn f) fun fr => vs.length = fr.np ∧ wps (wpCall P n) P fr.body (lmOf vs) σ (retK Q)
end
section
open PySem PySem.W PyProof.Rows

noncomputable def All2 {α β : Type} (R : α → β → Prop) : List α → List β → Prop
  | [], [] => True
  | x :: xs, y :: ys => R x y ∧ All2 R xs ys
  | _, _ => False
namespace All2
variable {α β : Type} {R S : α → β → Prop}
theorem length : ∀ {xs : List α} {ys : List β}, All2 R xs ys → xs.length = ys.length
  | [], [], _ => rfl
  | _ :: _, _ :: _, h => by simp [length h.2]
  | [], _ :: _, h => h.elim
  | _ :: _, [], h => h.elim
theorem mono (f : ∀ x y, R x y → S x y) : ∀ {xs : List α} {ys : List β}, All2 R xs ys → All2 S xs ys
  | [], [], _ => trivial
  | _ :: _, _ :: _, h => ⟨f _ _ h.1, mono f h.2⟩
  | [], _ :: _, h => h.elim
  | _ :: _, [], h => h.elim
theorem append : ∀ {xs : List α} {ys : List β} {xs' : List α} {ys' : List β}, All2 R xs ys → All2 R xs' ys' → All2 R (xs ++ xs') (ys ++ ys')
  | [], [], _, _, _, h => h
  | _ :: _, _ :: _, _, _, h, h' => ⟨h.1, append h.2 h'⟩
  | [], _ :: _, _, _, h, _ => h.elim
  | _ :: _, [], _, _, h, _ => h.elim
theorem get : ∀ {xs : List α} {ys : List β} {i : Nat} {x : α}, All2 R xs ys → xs[i]? = some x → ∃ y, ys[i]? = some y ∧ R x y
  | _ :: _, y :: _, 0, _, h, e => by cases e; exact ⟨y, rfl, h.1⟩
  | _ :: _, _ :: _, i + 1, _, h, e => get (i := i) h.2 e
  | [], [], _, _, _, e => by simp at e
  | [], _ :: _, _, _, h, _ => h.elim
  | _ :: _, [], _, _, h, _ => h.elim
theorem get' : ∀ {xs : List α} {ys : List β} {i : Nat} {y : β}, All2 R xs ys → ys[i]? = some y → ∃ x, xs[i]? = some x ∧ R x y
  | x :: _, _ :: _, 0, _, h, e => by cases e; exact ⟨x, rfl, h.1⟩
  | _ :: _, _ :: _, i + 1, _, h, e => get' (i := i) h.2 e
  | [], [], _, _, _, e => by simp at e
  | [], _ :: _, _, _, h, _ => h.elim
  | _ :: _, [], _, _, h, _ => h.elim
theorem set : ∀ {xs : List α} {ys : List β} {i : Nat} {x : α} {y : β}, All2 R xs ys → R x y → All2 R (xs.set i x) (ys.set i y)
  | [], [], _, _, _, _, _ => trivial
  | _ :: _, _ :: _, 0, _, _, h, r => ⟨r, h.2⟩
  | _ :: _, _ :: _, _ + 1, _, _, h, r => ⟨h.1, set h.2 r⟩
  | [], _ :: _, _, _, _, h, _ => h.elim
  | _ :: _, [], _, _, _, h, _ => h.elim
theorem snoc {xs : List α} {ys : List β} {x : α} {y : β} (h : All2 R xs ys) (r : R x y) : All2 R (xs ++ [x]) (ys ++ [y]) := h.append ⟨r, trivial⟩
theorem reverse : ∀ {xs : List α} {ys : List β}, All2 R xs ys → All2 R xs.reverse ys.reverse
  | [], [], _ => trivial
  | _ :: _, _ :: _, h => by rw [List.reverse_cons, List.reverse_cons]; exact (reverse h.2).snoc h.1
  | [], _ :: _, h => h.elim
  | _ :: _, [], h => h.elim
theorem dropLast : ∀ {xs : List α} {ys : List β}, All2 R xs ys → All2 R xs.dropLast ys.dropLast
  | [], [], _ => trivial
  | [_], [_], _ => trivial
  | _ :: _ :: _, _ :: _ :: _, h => ⟨h.1, dropLast h.2⟩
  | [], _ :: _, h => h.elim
  | _ :: _, [], h => h.elim
  | [_], _ :: _ :: _, h => h.2.elim
  | _ :: _ :: _, [_], h => h.2.elim
theorem getLast? : ∀ {xs : List α} {ys : List β} {x : α}, All2 R xs ys → xs.getLast? = some x → ∃ y, ys.getLast? = some y ∧ R x y := by
  intro xs ys x h e
  rw [List.getLast?_eq_getElem?] at e
  obtain ⟨y, hy, r⟩ := h.get e
  exact ⟨y, by rw [List.getLast?_eq_getElem?, ← h.length]; exact hy, r⟩
theorem map_left {γ : Type} {f : γ → α} : ∀ {xs : List γ} {ys : List β}, All2 (fun x y => R (f x) y) xs ys → All2 R (xs.map f) ys
  | [], [], _ => trivial
  | _ :: _, _ :: _, h => ⟨h.1, map_left h.2⟩
  | [], _ :: _, h => h.elim
  | _ :: _, [], h => h.elim
theorem of_get {xs : List α} {ys : List β} (hl : xs.length = ys.length) (h : ∀ (i : Nat) (x : α) (y : β), xs[i]? = some x → ys[i]? = some y → R x y) : All2 R xs ys := by
  induction xs generalizing ys with
  | nil => cases ys with
    | nil => trivial
    | cons y ys => simp at hl
  | cons x xs ih => cases ys with
    | nil => simp at hl
    | cons y ys => exact ⟨h 0 x y rfl rfl, ih (by simpa using hl) fun i a b ha hb => h (i + 1) a b ha hb⟩
theorem filterMap_get {xs : List α} {ys : List β} (h : All2 R xs ys) : ∀ is : List Nat, All2 R (is.filterMap (xs[·]?)) (is.filterMap (ys[·]?))
  | [] => trivial
  | i :: is => by
    rw [List.filterMap_cons, List.filterMap_cons]
    cases e : xs[i]? with
    | none =>
      have e' : ys[i]? = none := by rw [List.getElem?_eq_none_iff] at e ⊢; rw [← h.length]; exact e
      rw [e']; exact filterMap_get h is
    | some x =>
      obtain ⟨y, hy, r⟩ := h.get e
      rw [hy]; exact ⟨r, filterMap_get h is⟩
end All2

abbrev Rho := List (Addr × Addr)
abbrev tupObj (its : Array Value) (n : Nat) : Obj := { cls := .type "tuple", data := .seq its n }

mutual
inductive VR (h : Heap) (ρ : Rho) : PV → Value → Prop where
  | none : VR h ρ .none .none
  | bool (b : Bool) : VR h ρ (.bool b) (.bool b)
  | int (i : Int) (t : Tok) : VR h ρ (.int i) (.int i t)
  | str (x : Str) (t : Tok) : VR h ρ (.str x) (.str x t)
  | tup {a : Addr} {its : Array Value} {n : Nat} {xs : List PV} : h.get? a = some (tupObj its n) → VRs h ρ xs its.toList → xs.length ≤ big → VR h ρ (.tup xs) (.ref a)
  | obj {k : Nat} {a d : Addr} : ρ[k]? = some (a, d) → VR h ρ (.obj k) (.ref a)
inductive VRs (h : Heap) (ρ : Rho) : List PV → List Value → Prop where
  | nil : VRs h ρ [] []
  | cons {x : PV} {v : Value} {xs : List PV} {vs : List Value} : VR h ρ x v → VRs h ρ xs vs → VRs h ρ (x :: xs) (v :: vs)
end

theorem VRs.all {h : Heap} {ρ : Rho} : ∀ {xs : List PV} {vs : List Value}, VRs h ρ xs vs → All2 (VR h ρ) xs vs
  | _, _, .nil => trivial
  | _, _, .cons a b => ⟨a, b.all⟩
theorem VRs.of_all {h : Heap} {ρ : Rho} : ∀ {xs : List PV} {vs : List Value}, All2 (VR h ρ) xs vs → VRs h ρ xs vs
  | [], [], _ => .nil
  | _ :: _, _ :: _, h => .cons h.1 (VRs.of_all h.2)
  | [], _ :: _, h => h.elim
  | _ :: _, [], h => h.elim

mutual
theorem VR.mono {h h' : Heap} {ρ δ : Rho} (k : ∀ a its n, h.get? a = some (tupObj its n) → h'.get? a = some (tupObj its n)) : ∀ {x : PV} {v : Value}, VR h ρ x v → VR h' (ρ ++ δ) x v
  | _, _, .none => .none
  | _, _, .bool b => .bool b
  | _, _, .int i t => .int i t
  | _, _, .str x t => .str x t
  | _, _, .tup a b c => .tup (k _ _ _ a) (VRs.mono k b) c
  | _, _, .obj e => .obj (by rw [List.getElem?_append_left (List.getElem?_eq_some_iff.mp e).1]; exact e)
theorem VRs.mono {h h' : Heap} {ρ δ : Rho} (k : ∀ a its n, h.get? a = some (tupObj its n) → h'.get? a = some (tupObj its n)) : ∀ {xs : List PV} {vs : List Value}, VRs h ρ xs vs → VRs h' (ρ ++ δ) xs vs
  | _, _, .nil => .nil
  | _, _, .cons a b => .cons (VR.mono k a) (VRs.mono k b)
end

noncomputable def NotT (o : Obj) : Prop := (∀ its n, o ≠ tupObj its n) ∧ ∀ C dx, o ≠ instObj C dx
theorem NotT.list {its n} : NotT { cls := .type "list", data := .seq its n } := ⟨fun _ _ e => by injection e with e; injection e with e; exact absurd e (by decide), fun _ _ e => by injection e with e; cases e⟩
theorem NotT.data {o : Obj} (h1 : ∀ its n, o.data ≠ .seq its n) (h2 : o.data ≠ .plain) : NotT o := ⟨fun _ _ e => h1 _ _ (by rw [e]), fun _ _ e => h2 (by rw [e])⟩
theorem NotT.dict {o : Obj} {es n} (h : o.data = .dict es n) : NotT o := .data (fun _ _ e => by rw [h] at e; cases e) (fun e => by rw [h] at e; cases e)
theorem NotT.cell {o : Obj} {v} (h : o.data = .cell v) : NotT o := .data (fun _ _ e => by rw [h] at e; cases e) (fun e => by rw [h] at e; cases e)

section
variable (w : World)
noncomputable def hashP : PV → Int
  | .str x => hashStr w x
  | .int i => hashInt i
  | .tup [.int a, .int b] => reduceHash (Builtin.Tuple.tupleHashOf [hashInt a, hashInt b])
  | _ => 0
noncomputable def EntR (h : Heap) (ρ : Rho) (p : PV × PV) (e : DictEntry) : Prop := VR h ρ p.1 e.key ∧ VR h ρ p.2 e.val ∧ e.hash = hashP w p.1
noncomputable def FldR (AT : Nat → Str) (h : Heap) (ρ : Rho) (p : Nat × PV) (e : DictEntry) : Prop := (∃ t, e.key = .str (AT p.1) t) ∧ VR h ρ p.2 e.val
abbrev lstObj (its : Array Value) (n : Nat) : Obj := { cls := .type "list", data := .seq its n }
abbrev dctObj (es : Array DictEntry) (n : Nat) : Obj := { cls := .type "dict", data := .dict es n }
noncomputable def ORel (AT : Nat → Str) (h : Heap) (ρ : Rho) (p : Addr × Addr) : AObj → Prop
  | .list xs => p.1 = p.2 ∧ xs.length ≤ big ∧ ∃ its n, h.get? p.2 = some (lstObj its n) ∧ All2 (VR h ρ) xs its.toList
  | .ro xs => p.1 = p.2 ∧ xs.length ≤ big ∧ ∃ its, h.IsList p.2 its ∧ All2 (VR h ρ) xs its.toList
  | .dict kvs => p.1 = p.2 ∧ kvs.length ≤ 1000 ∧ ∃ es n, h.get? p.2 = some (dctObj es n) ∧ All2 (EntR w h ρ) kvs es.toList ∧ (kvs.map (·.1)).Nodup
  | .inst c fs => h.get? p.1 = some (instObj c p.2) ∧ ∃ es n, h.get? p.2 = some (dctObj es.toArray n) ∧ All2 (FldR AT h ρ) fs es
end

theorem ORel.notT {w AT h ρ p o} (x : ORel w AT h ρ p o) : ∃ ob, h.get? p.2 = some ob ∧ NotT ob := by
  cases o with
  | list xs => obtain ⟨_, _, its, n, e, _⟩ := x; exact ⟨_, e, .list⟩
  | ro xs =>
    obtain ⟨_, _, its, ⟨o, e, hc, n, hd⟩, _⟩ := x
    exact ⟨o, e, fun its n q => by rw [q] at hc; injection hc with hc; exact absurd hc (by decide), fun C dx q => by rw [q] at hd; cases hd⟩
  | dict kvs => obtain ⟨_, _, es, n, e, _⟩ := x; exact ⟨_, e, .dict rfl⟩
  | inst c fs => obtain ⟨_, es, n, e, _⟩ := x; exact ⟨_, e, .dict rfl⟩

structure Glb where
  w : World
  AT : Nat → Str
  h₀ : Heap
  h₁ : Heap

structure Rel (g : Glb) (ρ : Rho) (σ : St) (h : Heap) : Prop where
  keep : ∀ b o, g.h₀.get? b = some o → h.get? b = some o
  low : ∃ o, g.h₀.get? cStatics = some o
  mods : ∀ p ∈ ρ, p.2 ≠ sysModules
  above : ∀ p ∈ ρ, g.h₀.get? p.2 = none
  nodup : (ρ.map (·.2)).Nodup
  len : ρ.length = σ.length
  objs : ∀ (k : Nat) (o : AObj) (p : Addr × Addr), σ[k]? = some o → ρ[k]? = some p → ORel g.w g.AT h ρ p o
  fro : ∀ (k : Nat) (xs : List PV) (p : Addr × Addr), σ[k]? = some (.ro xs) → ρ[k]? = some p → h.get? p.2 = g.h₁.get? p.2

structure Step (X : List Addr) (ρ : Rho) (h : Heap) (ρ' : Rho) (h' : Heap) : Prop where
  ext : ∃ δ, ρ' = ρ ++ δ ∧ ∀ p ∈ δ, h.get? p.2 = none
  live : ∀ a o, h.get? a = some o → ∃ o', h'.get? a = some o'
  keep : ∀ a o, h.get? a = some o → a ∉ ρ.map (·.2) → a ∉ X → h'.get? a = some o

namespace Step
variable {X : List Addr} {ρ ρ' ρ'' : Rho} {h h' h'' : Heap}
theorem refl (X ρ h) : Step X ρ h ρ h := ⟨⟨[], by simp, by simp⟩, fun _ o e => ⟨o, e⟩, fun _ _ e _ _ => e⟩
theorem trans (a : Step X ρ h ρ' h') (b : Step X ρ' h' ρ'' h'') : Step X ρ h ρ'' h'' := by
  obtain ⟨⟨δ, rfl, hδ⟩, sz, k⟩ := a
  obtain ⟨⟨ε, rfl, hε⟩, sz', k'⟩ := b
  refine ⟨⟨δ ++ ε, by rw [List.append_assoc], fun p hp => ?_⟩, fun a o e => ?_, fun a o e hn hx => ?_⟩
  · rcases List.mem_append.mp hp with hp | hp
    · exact hδ p hp
    · cases q : h.get? p.2 with
      | none => rfl
      | some o => obtain ⟨o', e'⟩ := sz _ _ q; rw [hε p hp] at e'; cases e'
  · obtain ⟨o', e'⟩ := sz _ _ e; exact sz' _ _ e'
  · refine k' a o (k a o e hn hx) (fun hm => ?_) hx
    rw [List.map_append, List.mem_append] at hm
    rcases hm with hm | hm
    · exact hn hm
    · obtain ⟨p, hp, rfl⟩ := List.mem_map.mp hm
      rw [hδ p hp] at e; cases e
theorem weak {Y : List Addr} (a : Step X ρ h ρ' h') (hs : ∀ x ∈ X, x ∈ Y) : Step Y ρ h ρ' h' := ⟨a.ext, a.live, fun b o e hn hx => a.keep b o e hn fun q => hx (hs _ q)⟩
theorem nil (a : Step [] ρ h ρ' h') : Step X ρ h ρ' h' := a.weak fun _ q => nomatch q
end Step

noncomputable def Xok (X : List Addr) (ρ : Rho) (h : Heap) : Prop := ∀ a ∈ X, ∃ o, h.get? a = some o ∧ NotT o

theorem Rel.owned {g ρ σ h} (R : Rel g ρ σ h) {a : Addr} (ha : a ∈ ρ.map (·.2)) : ∃ o, h.get? a = some o ∧ NotT o := by
  obtain ⟨p, hp, rfl⟩ := List.mem_map.mp ha
  obtain ⟨k, hk, e⟩ := List.mem_iff_getElem.mp hp
  have hs : σ[k]? = some (σ[k]'(R.len ▸ hk)) := List.getElem?_eq_getElem _
  exact (R.objs k _ p hs (by rw [List.getElem?_eq_getElem hk, e])).notT
theorem Rel.tupKeep {g ρ σ h} (R : Rel g ρ σ h) {X ρ' h'} (hX : Xok X ρ h) (S : Step X ρ h ρ' h') : ∀ a its n, h.get? a = some (tupObj its n) → h'.get? a = some (tupObj its n) := fun a its n e =>
  S.keep a _ e (fun q => by obtain ⟨o, ho, hn⟩ := R.owned q; rw [e] at ho; cases ho; exact hn.1 _ _ rfl) fun q => by obtain ⟨o, ho, hn⟩ := hX a q; rw [e] at ho; cases ho; exact hn.1 _ _ rfl
theorem Rel.instKeep {g ρ σ h} (R : Rel g ρ σ h) {X ρ' h'} (hX : Xok X ρ h) (S : Step X ρ h ρ' h') : ∀ a C dx, h.get? a = some (instObj C dx) → h'.get? a = some (instObj C dx) := fun a C dx e =>
  S.keep a _ e (fun q => by obtain ⟨o, ho, hn⟩ := R.owned q; rw [e] at ho; cases ho; exact hn.2 _ _ rfl) fun q => by obtain ⟨o, ho, hn⟩ := hX a q; rw [e] at ho; cases ho; exact hn.2 _ _ rfl
theorem VR.step {g ρ σ h} (R : Rel g ρ σ h) {X ρ' h'} (hX : Xok X ρ h) (S : Step X ρ h ρ' h') {x : PV} {v : Value} (V : VR h ρ x v) : VR h' ρ' x v := by
  obtain ⟨δ, rfl, _⟩ := S.ext
  exact V.mono (R.tupKeep hX S)
theorem VRs.step {g ρ σ h} (R : Rel g ρ σ h) {X ρ' h'} (hX : Xok X ρ h) (S : Step X ρ h ρ' h') {x : List PV} {v : List Value} (V : VRs h ρ x v) : VRs h' ρ' x v := by
  obtain ⟨δ, rfl, _⟩ := S.ext
  exact V.mono (R.tupKeep hX S)
theorem xok_nil {ρ h} : Xok [] ρ h := fun _ q => nomatch q
end
section
open PySem PySem.W PyProof.Rows

theorem ORel.keep {w AT} {h h' : Heap} {ρ δ : Rho} {p : Addr × Addr} {o : AObj} (kt : ∀ a its n, h.get? a = some (tupObj its n) → h'.get? a = some (tupObj its n))
    (ki : ∀ a C dx, h.get? a = some (instObj C dx) → h'.get? a = some (instObj C dx)) (ko : ∀ ob, h.get? p.2 = some ob → h'.get? p.2 = some ob)
    (x : ORel w AT h ρ p o) : ORel w AT h' (ρ ++ δ) p o := by
  cases o with
  | list xs =>
    obtain ⟨e, z, its, n, a, b⟩ := x
    exact ⟨e, z, its, n, ko _ a, b.mono fun _ _ r => r.mono kt⟩
  | ro xs =>
    obtain ⟨e, z, its, ⟨o, a, r⟩, b⟩ := x
    exact ⟨e, z, its, ⟨o, ko _ a, r⟩, b.mono fun _ _ r => r.mono kt⟩
  | dict kvs =>
    obtain ⟨e, z, es, n, a, b, c⟩ := x
    exact ⟨e, z, es, n, ko _ a, b.mono fun _ _ r => ⟨r.1.mono kt, r.2.1.mono kt, r.2.2⟩, c⟩
  | inst c fs =>
    obtain ⟨e, es, n, a, b⟩ := x
    exact ⟨ki _ _ _ e, es, n, ko _ a, b.mono fun _ _ r => ⟨r.1, r.2.mono kt⟩⟩

theorem Rel.lookup {g ρ σ h} (R : Rel g ρ σ h) {k : Nat} {o : AObj} (e : σ[k]? = some o) : ∃ p, ρ[k]? = some p ∧ ORel g.w g.AT h ρ p o := by
  have hk : k < ρ.length := by rw [R.len]; exact (List.getElem?_eq_some_iff.mp e).1
  exact ⟨ρ[k], List.getElem?_eq_getElem hk, R.objs k o _ e (List.getElem?_eq_getElem hk)⟩
theorem Rel.own_ne {g ρ σ h} (R : Rel g ρ σ h) {i j : Nat} {p q : Addr × Addr} (ei : ρ[i]? = some p) (ej : ρ[j]? = some q) (hne : i ≠ j) : p.2 ≠ q.2 := by
  intro e
  have hi := (List.getElem?_eq_some_iff.mp ei).1
  have a : (ρ.map (·.2))[i]? = some p.2 := by rw [List.getElem?_map, ei]; rfl
  have b : (ρ.map (·.2))[j]? = some q.2 := by rw [List.getElem?_map, ej]; rfl
  exact hne ((List.getElem?_inj (by simpa using hi) R.nodup).mp (a.trans (by rw [e, b])))
theorem mem_own {ρ : Rho} {k : Nat} {p : Addr × Addr} (e : ρ[k]? = some p) : p.2 ∈ ρ.map (·.2) := List.mem_map.mpr ⟨p, List.mem_of_getElem? e, rfl⟩

theorem Rel.mono {g ρ σ h h' X} (R : Rel g ρ σ h) (hX : Xok X ρ h) (hXb : ∀ a ∈ X, g.h₀.get? a = none) (S : Step X ρ h ρ h')
    (ho : ∀ a ∈ ρ.map (·.2), ∀ o, h.get? a = some o → h'.get? a = some o) : Rel g ρ σ h' where
  keep := fun b o e => S.keep b o (R.keep b o e) (fun q => by
      obtain ⟨p, hp, rfl⟩ := List.mem_map.mp q
      rw [R.above p hp] at e; cases e) fun q => by rw [hXb _ q] at e; cases e
  low := R.low
  mods := R.mods
  above := R.above
  nodup := R.nodup
  len := R.len
  objs := fun k o p e1 e2 => by
    have := (R.objs k o p e1 e2).keep (δ := []) (R.tupKeep hX S) (R.instKeep hX S) (ho _ (mem_own e2))
    rwa [List.append_nil] at this
  fro := fun k xs p e1 e2 => by
    obtain ⟨o, eo, _⟩ := R.owned (mem_own e2)
    rw [ho _ (mem_own e2) o eo, ← R.fro k xs p e1 e2, eo]

theorem Rel.set {g ρ σ h h'} (R : Rel g ρ σ h) {k : Nat} {o o' : AObj} {p : Addr × Addr} (e : σ[k]? = some o) (ep : ρ[k]? = some p) (hs : Heap.SameBut p.2 h h')
    (hn : ORel g.w g.AT h' ρ p o') (hr : ∀ xs, o' ≠ .ro xs := by intro _ e; cases e) : Rel g ρ (σ.set k o') h' := by
  have S : Step [p.2] ρ h ρ h' := ⟨⟨[], by simp, by simp⟩, fun a ob ea => by
    by_cases q : a = p.2
    · obtain ⟨o, eo, _⟩ := hn.notT; exact ⟨o, q ▸ eo⟩
    · exact ⟨ob, (hs.2 a q).trans ea⟩, fun a ob ea _ hx => (hs.2 a (by simpa using hx)).trans ea⟩
  have hX : Xok [p.2] ρ h := fun a ha => by rw [List.mem_singleton.mp ha]; exact R.owned (mem_own ep)
  exact {
    keep := fun b ob eb => (hs.2 b fun q => by rw [q, R.above p (List.mem_of_getElem? ep)] at eb; cases eb).trans (R.keep b ob eb)
    low := R.low
    mods := R.mods
    above := R.above
    nodup := R.nodup
    len := by rw [List.length_set]; exact R.len
    objs := fun j oj q ej eq => by
      by_cases hjk : j = k
      · subst hjk
        rw [ep] at eq; cases eq
        rw [List.getElem?_set_self (List.getElem?_eq_some_iff.mp e).1] at ej
        cases ej; exact hn
      · rw [List.getElem?_set_ne (Ne.symm hjk)] at ej
        have := (R.objs j oj q ej eq).keep (δ := []) (R.tupKeep hX S) (R.instKeep hX S) fun ob eo => (hs.2 _ (R.own_ne eq ep hjk)).trans eo
        rwa [List.append_nil] at this
    fro := fun j xs q ej eq => by
      by_cases hjk : j = k
      · subst hjk
        rw [List.getElem?_set_self (List.getElem?_eq_some_iff.mp e).1] at ej
        cases ej; exact absurd rfl (hr xs)
      · rw [List.getElem?_set_ne (Ne.symm hjk)] at ej
        exact (hs.2 _ (R.own_ne eq ep hjk)).trans (R.fro j xs q ej eq) }
theorem Step.set {ρ : Rho} {h h' : Heap} {k : Nat} {p : Addr × Addr} (ep : ρ[k]? = some p) (hs : Heap.SameBut p.2 h h') (hl : ∃ o, h'.get? p.2 = some o) : Step [] ρ h ρ h' :=
  ⟨⟨[], by simp, by simp⟩, fun a ob ea => by
    by_cases q : a = p.2
    · exact q ▸ hl
    · exact ⟨ob, (hs.2 a q).trans ea⟩, fun a _ ea hn _ => (hs.2 a fun q => hn (q ▸ mem_own ep)).trans ea⟩

theorem Step.grow {ρ : Rho} {h h' : Heap} (k : ∀ a o, h.get? a = some o → h'.get? a = some o) : Step [] ρ h ρ h' :=
  ⟨⟨[], by simp, by simp⟩, fun a o e => ⟨o, k a o e⟩, fun a o e _ _ => k a o e⟩
theorem Rel.grow {g ρ σ h h'} (R : Rel g ρ σ h) (k : ∀ a o, h.get? a = some o → h'.get? a = some o) : Rel g ρ σ h' :=
  R.mono (X := []) xok_nil (fun _ q => nomatch q) (Step.grow k) fun a _ o e => k a o e

theorem Rel.big {g ρ σ h} (R : Rel g ρ σ h) : sysModules < h.objs.size := by
  obtain ⟨o, e⟩ := R.low
  exact Nat.lt_trans (by decide) (Heap.lt_size (R.keep _ _ e))
theorem Rel.ne_mods {g ρ σ h} (R : Rel g ρ σ h) {a : Addr} (ha : h.objs.size ≤ a) : a ≠ sysModules := fun q => Nat.lt_irrefl _ (Nat.lt_of_lt_of_le R.big (q ▸ ha))
theorem Rel.alloc {g ρ σ h} (R : Rel g ρ σ h) {o : AObj} {p : Addr × Addr} (hp : g.h₀.get? p.2 = none) (hf : p.2 ∉ ρ.map (·.2)) (hm : p.2 ≠ sysModules) (hn : ORel g.w g.AT h ρ p o) (hr : ∀ xs, o ≠ .ro xs := by intro _ e; cases e) : Rel g (ρ ++ [p]) (σ ++ [o]) h where
  keep := R.keep
  low := R.low
  mods := fun q hq => by
    rcases List.mem_append.mp hq with hq | hq
    · exact R.mods q hq
    · rw [List.mem_singleton.mp hq]; exact hm
  above := fun q hq => by
    rcases List.mem_append.mp hq with hq | hq
    · exact R.above q hq
    · rw [List.mem_singleton.mp hq]; exact hp
  nodup := by
    rw [List.map_append, List.map_cons, List.map_nil, List.nodup_append]
    refine ⟨R.nodup, by simp, fun a ha b hb e => hf ?_⟩
    rw [List.mem_singleton.mp hb] at e; exact e ▸ ha
  len := by simp [R.len]
  objs := fun k ok q e1 e2 => by
    by_cases hk : k < σ.length
    · rw [List.getElem?_append_left hk] at e1
      rw [List.getElem?_append_left (by rw [R.len]; exact hk)] at e2
      exact (R.objs k ok q e1 e2).keep (fun _ _ _ e => e) (fun _ _ _ e => e) fun _ e => e
    · have hk' : σ.length ≤ k := Nat.le_of_not_lt hk
      rw [List.getElem?_append_right hk'] at e1
      rw [List.getElem?_append_right (by rw [R.len]; exact hk'), R.len] at e2
      have hz : k - σ.length = 0 := by
        have := (List.getElem?_eq_some_iff.mp e1).1
        simp at this; exact this
      rw [hz] at e1 e2
      cases e1; cases e2
      exact hn.keep (fun _ _ _ e => e) (fun _ _ _ e => e) fun _ e => e
  fro := fun k xs q e1 e2 => by
    by_cases hk : k < σ.length
    · rw [List.getElem?_append_left hk] at e1
      rw [List.getElem?_append_left (by rw [R.len]; exact hk)] at e2
      exact R.fro k xs q e1 e2
    · have hk' : σ.length ≤ k := Nat.le_of_not_lt hk
      rw [List.getElem?_append_right hk'] at e1
      have hz : k - σ.length = 0 := by
        have := (List.getElem?_eq_some_iff.mp e1).1
        simp at this; exact this
      rw [hz] at e1
      cases e1
      exact absurd rfl (hr xs)

noncomputable def Like (s s' : Shared) : Prop := ∃ h t, s' = { s with heap := h, toks := t }
theorem Like.refl (s : Shared) : Like s s := ⟨s.heap, s.toks, rfl⟩
theorem Like.trans {a b c : Shared} (x : Like a b) (y : Like b c) : Like a c := by
  obtain ⟨h, t, rfl⟩ := x
  obtain ⟨h', t', rfl⟩ := y
  exact ⟨h', t', rfl⟩
theorem Like.mk (s : Shared) (h : Heap) (t : Nat) : Like s { s with heap := h, toks := t } := ⟨h, t, rfl⟩
theorem Like.hp (s : Shared) (h : Heap) : Like s { s with heap := h } := ⟨h, s.toks, rfl⟩

inductive EP (g : Glb) (ρ : Rho) (s : Shared) (Q : PV → St → Prop) (v : Value) (s' : Shared) : Prop
  | mk (pv : PV) (σ' : St) (ρ' : Rho) (l : Like s s') (S : Step [] ρ s.heap ρ' s'.heap) (R : Rel g ρ' σ' s'.heap) (V : VR s'.heap ρ' pv v) (q : Q pv σ')
inductive EPs (g : Glb) (ρ : Rho) (s : Shared) (Q : List PV → St → Prop) (vs : List Value) (s' : Shared) : Prop
  | mk (pvs : List PV) (σ' : St) (ρ' : Rho) (l : Like s s') (S : Step [] ρ s.heap ρ' s'.heap) (R : Rel g ρ' σ' s'.heap) (V : VRs s'.heap ρ' pvs vs) (q : Q pvs σ')
inductive UP (g : Glb) (ρ : Rho) (s : Shared) (Q : St → Prop) (s' : Shared) : Prop
  | mk (σ' : St) (ρ' : Rho) (l : Like s s') (S : Step [] ρ s.heap ρ' s'.heap) (R : Rel g ρ' σ' s'.heap) (q : Q σ')
abbrev NoE : Value → Shared → Prop := fun _ _ => False

theorem EP.trans {g ρ s ρ' s' Q v s''} (l : Like s s') (S : Step [] ρ s.heap ρ' s'.heap) (x : EP g ρ' s' Q v s'') : EP g ρ s Q v s'' := by
  obtain ⟨pv, σ', ρ'', l', S', R', V', q⟩ := x
  exact ⟨pv, σ', ρ'', l.trans l', S.trans S', R', V', q⟩
theorem EP.here {g ρ σ} {s : Shared} {Q : PV → St → Prop} {pv v} (R : Rel g ρ σ s.heap) (V : VR s.heap ρ pv v) (q : Q pv σ) (t : Nat) : EP g ρ s Q v { s with toks := t } :=
  ⟨pv, σ, ρ, ⟨s.heap, t, rfl⟩, Step.refl .., R, V, q⟩
theorem EP.here' {g ρ σ} {s : Shared} {Q : PV → St → Prop} {pv v} (R : Rel g ρ σ s.heap) (V : VR s.heap ρ pv v) (q : Q pv σ) : EP g ρ s Q v s :=
  ⟨pv, σ, ρ, Like.refl s, Step.refl .., R, V, q⟩

structure Room (n : Nat) (A : Around) : Prop where
  hd : A.handled = none
  dp : A.depth + 2 * n + 4 ≤ recursionLimit
  un : A.units + 20 * n + 1000 ≤ cLine
theorem Room.in1 {n A} (x : Room (n + 1) A) : Room n A.in1 := ⟨x.hd, by have := x.dp; simp only [Around.in1_depth]; (first | lia | omega), by have := x.un; simp only [Around.in1_units]; (first | lia | omega)⟩
theorem Room.less {n m A} (x : Room n A) (h : m ≤ n) : Room m A := ⟨x.hd, by have := x.dp; (first | lia | omega), by have := x.un; (first | lia | omega)⟩
end
section
open PySem PySem.W PyProof.Rows PySem.SeqAt

theorem beq_decide_int (a b : Int) : (a == b) = decide (a = b) := rfl
theorem beq_decide_str (a b : Str) : (a == b) = decide (a = b) := by
  rw [Bool.eq_iff_iff]; simp

theorem eqL_all {f : PV → PV → Option Bool} : ∀ {xs ys : List PV} {b : Bool}, eqL f xs ys = some b →
    ∃ e : Nat → Bool, b = ((List.range (min xs.length ys.length)).all e && xs.length == ys.length) ∧ ∀ j x y, xs[j]? = some x → ys[j]? = some y → f x y = some (e j)
  | [], [], b, h => by cases h; exact ⟨fun _ => true, by simp, fun j x y hx _ => by simp at hx⟩
  | [], _ :: _, b, h => by cases h; exact ⟨fun _ => true, by simp, fun j x y hx _ => by simp at hx⟩
  | _ :: _, [], b, h => by cases h; exact ⟨fun _ => true, by simp, fun j x y _ hy => by simp at hy⟩
  | x :: xs, y :: ys, b, h => by
    replace h : (match f x y with | some a => (match eqL f xs ys with | some b => some (a && b) | none => none) | none => none) = some b := h
    cases ha : f x y with
    | none => rw [ha] at h; exact nos h
    | some a =>
    cases hc : eqL f xs ys with
    | none => rw [ha, hc] at h; exact nos h
    | some c =>
      rw [ha, hc] at h
      cases h
      obtain ⟨e, rfl, he⟩ := eqL_all hc
      refine ⟨fun j => match j with | 0 => a | j + 1 => e j, ?_, ?_⟩
      · simp only [List.length_cons, Nat.add_min_add_right, List.range_succ_eq_map, List.all_cons, List.all_map]
        rw [Bool.and_assoc]
        have e1 : ((fun j => match j with | 0 => a | j + 1 => e j) ∘ Nat.succ) = e := rfl
        rw [e1]
        have e2 : (xs.length + 1 == ys.length + 1) = (xs.length == ys.length) := by rw [Bool.eq_iff_iff]; simp
        rw [e2]
      · intro j x' y' hx hy
        cases j with
        | zero => cases hx; cases hy; exact ha
        | succ j => exact he j x' y' hx hy

theorem isTuple_of {h : Heap} {a : Addr} {its n} (e : h.get? a = some (tupObj its n)) : h.IsTuple a its := ⟨_, e, rfl, n, rfl⟩
theorem isList_of {h : Heap} {a : Addr} {its n} (e : h.get? a = some (lstObj its n)) : h.IsList a its := ⟨_, e, rfl, n, rfl⟩

theorem eqv_same {h : Heap} {ρ : Rho} : ∀ (n : Nat) {x y : PV} {v : Value} {b : Bool}, eqv n x y = some b → VR h ρ x v → VR h ρ y v → b = true := by
  intro n
  induction n with
  | zero => exact fun e => nos e
  | succ n ih =>
    intro x y v b e hx hy
    cases hx with
    | none => exact nos e
    | bool => exact nos e
    | obj => exact nos e
    | int i => cases hy; exact (Option.some.inj e).symm.trans (decide_eq_true rfl)
    | str i => cases hy; exact (Option.some.inj e).symm.trans (decide_eq_true rfl)
    | tup ha ka _ =>
      cases hy with
      | obj => exact nos e
      | tup hb kb _ =>
        rw [ha] at hb
        cases hb
        obtain ⟨f, rfl, hf⟩ := eqL_all e
        have l1 := ka.all.length
        have l2 := kb.all.length
        rw [Bool.and_eq_true, List.all_eq_true]
        refine ⟨fun j hj => ?_, by simp [l1, l2]⟩
        rw [List.mem_range] at hj
        have h1 : j < _ := Nat.lt_of_lt_of_le hj (Nat.min_le_left _ _)
        have h2 : j < _ := Nat.lt_of_lt_of_le hj (Nat.min_le_right _ _)
        obtain ⟨v1, e1, r1⟩ := ka.all.get (List.getElem?_eq_getElem h1)
        obtain ⟨v2, e2, r2⟩ := kb.all.get (List.getElem?_eq_getElem h2)
        rw [e1] at e2; cases e2
        exact ih (hf j _ _ (List.getElem?_eq_getElem h1) (List.getElem?_eq_getElem h2)) r1 r2

theorem eqv_at {ρ : Rho} : ∀ (n : Nat) {A : Around} {s : Shared} {x y : PV} {v w : Value} {b : Bool}, eqv n x y = some b → VR s.heap ρ x v → VR s.heap ρ y w → A.units + n < cLine →
    RcAt A s v w b ∧ RcNeAt A s v w (!b) ∧ EqAt A s v w b := by
  intro n
  induction n with
  | zero => exact fun e => nos e
  | succ n ih =>
    intro A s x y v w b e hx hy hu
    have hu0 : A.units < cLine := by (first | lia | omega)
    cases hx with
    | none => exact nos e
    | bool => exact nos e
    | obj => exact nos e
    | int i t =>
      cases hy with
      | none => exact nos e
      | bool => exact nos e
      | obj => exact nos e
      | int j u => cases (show (i == j) = b from Option.some.inj e); exact ⟨RcAt.int_int _ _ _ _, RcNeAt.int_int _ _ _ _, EqAt.int_int _ _ _ _⟩
      | str j u => cases (show false = b from Option.some.inj e); exact ⟨RcAt.int_str _ _ _ _, RcNeAt.int_str _ _ _ _, EqAt.int_str _ _ _ _⟩
      | tup hb kb _ => cases (show false = b from Option.some.inj e); exact ⟨RcAt.int_tuple _ _ (isTuple_of hb) hu0, RcNeAt.int_tuple _ _ (isTuple_of hb) hu0, EqAt.int_tuple _ _ (isTuple_of hb) hu0⟩
    | str i t =>
      cases hy with
      | none => exact nos e
      | bool => exact nos e
      | obj => exact nos e
      | int j u => cases (show false = b from Option.some.inj e); exact ⟨RcAt.str_int _ _ _ _, RcNeAt.str_int _ _ _ _, EqAt.str_int _ _ _ _⟩
      | str j u => cases (beq_decide_str i j).trans (Option.some.inj e); exact ⟨RcAt.str_str _ _ _ _, RcNeAt.str_str _ _ _ _, EqAt.str_str _ _ _ _⟩
      | tup hb kb _ => cases (show false = b from Option.some.inj e); exact ⟨RcAt.str_tuple _ _ (isTuple_of hb) hu0, RcNeAt.str_tuple _ _ (isTuple_of hb) hu0, EqAt.str_tuple _ _ (isTuple_of hb) hu0⟩
    | @tup la ita na xs ha ka za =>
      cases hy with
      | none => exact nos e
      | bool => exact nos e
      | obj => exact nos e
      | int j u => cases (show false = b from Option.some.inj e); exact ⟨RcAt.tuple_int _ _ (isTuple_of ha) hu0, RcNeAt.tuple_int _ _ (isTuple_of ha) hu0, EqAt.tuple_int _ _ (isTuple_of ha) hu0⟩
      | str j u => cases (show false = b from Option.some.inj e); exact ⟨RcAt.tuple_str _ _ (isTuple_of ha) hu0, RcNeAt.tuple_str _ _ (isTuple_of ha) hu0, EqAt.tuple_str _ _ (isTuple_of ha) hu0⟩
      | @tup lb itb nb ys hb kb zb =>
        have e0 := e
        obtain ⟨f, rfl, hf⟩ := eqL_all e
        have l1 := ka.all.length
        have l2 := kb.all.length
        have he : ∀ j (h1 : j < ita.size) (h2 : j < itb.size), EqAt A.in1 s ita[j] itb[j] (f j) := fun j h1 h2 => by
          obtain ⟨x', ex, rx⟩ := ka.all.get' (i := j) (y := ita[j]) (by simp [h1])
          obtain ⟨y', ey, ry⟩ := kb.all.get' (i := j) (y := itb[j]) (by simp [h2])
          exact (ih (hf j _ _ ex ey) rx ry (by simp only [Around.in1_units]; (first | lia | omega))).2.2
        have r1 := RcAt.tuples (isTuple_of ha) (isTuple_of hb) hu0 he
        have r2 := RcNeAt.tuples (isTuple_of ha) (isTuple_of hb) hu0 he
        simp only [Array.length_toList] at l1 l2
        rw [l1, l2] at e0 ⊢
        refine ⟨r1, ?_, ?_⟩
        · exact r2
        · by_cases hne : la = lb
          · subst hne
            have := eqv_same (n + 1) e0 (.tup ha ka za) (.tup hb kb zb)
            rw [this]
            exact EqAt.same _
          · exact EqAt.of_refs hne r1
end
section
open PySem PySem.W PyProof.Rows

noncomputable def AN : List Str := ["texts", "atom_numbers", "functors", "functor_numbers", "next", "fresh", "used", "ball", "atom", "text", "functor", "func", "name", "arity", "number", "variable"]
noncomputable def attrId (a : Str) : Option Nat := AN.findIdx? (· == a)
noncomputable def attrAt (i : Nat) : Str := AN.getD i Str.empty

structure CC where
  vars : List (Str × Nat)
  names : List (Str × NameKind)

inductive SV : Expr → Type where
  | name (x : Str) (p : Pos) : SV (.Name x p)
  | attr (o : Expr) (a : Str) (p : Pos) : SV (.Attribute o a p)
  | sub (o i : Expr) (p : Pos) : SV (.Subscript o i p)
  | slice (lo hi st : Option Expr) (p : Pos) : SV (.Slice lo hi st p)
  | tup (es : List Expr) (k : Nat) (p : Pos) : SV (.Tuple es k p)
  | call (f : Expr) (args : List Expr) (p : Pos) : SV (.Call f args [] p)
  | const (c : Const) (k : Nat) (p : Pos) : SV (.Constant c k p)
  | other (e : Expr) : SV e
noncomputable def svCall (f : Expr) (args : List Expr) (p : Pos) : (kws : List Keyword) → SV (.Call f args kws p)
  | [] => .call f args p
  | _ :: _ => .other _
noncomputable def sv : (e : Expr) → SV e
  | .Name x p => .name x p
  | .Attribute o a p => .attr o a p
  | .Subscript o i p => .sub o i p
  | .Slice lo hi st p => .slice lo hi st p
  | .Tuple es k p => .tup es k p
  | .Call f args kws p => svCall f args p kws
  | .Constant c k p => .const c k p
  | e => .other e
noncomputable def isNm (e : Expr) (x : Str) : Bool := match sv e with
  | .name y _ => y == x
  | _ => false
theorem isNm_inv {e : Expr} {x : Str} (h : isNm e x = true) : ∃ p, e = .Name x p := by
  revert h
  unfold isNm
  cases sv e with
  | name y p => intro h; exact ⟨p, by rw [beq_iff_eq.mp h]⟩
  | _ => intro h; exact Bool.noConfusion h
/- kinds of an expression, by the number of its constructor -/
noncomputable def notStar (e : Expr) : Bool := !(e.ctorIdx == 22)
noncomputable def notSlice (e : Expr) : Bool := !(e.ctorIdx == 26)
noncomputable def notSet (e : Expr) : Bool := !(e.ctorIdx == 7)
noncomputable def plainBase (e : Expr) : Bool := !(e.ctorIdx == 16)
noncomputable def isComp (e : Expr) : Bool := e.ctorIdx == 8 || e.ctorIdx == 9 || e.ctorIdx == 10
noncomputable def isCmp (e : Expr) : Bool := e.ctorIdx == 15
noncomputable def isTup (e : Expr) : Bool := e.ctorIdx == 25 || e.ctorIdx == 24
noncomputable def CC.implicit (cc : CC) (x : Str) : Bool := (cc.vars.lookup x).isNone && cc.names.lookup x == some .globalImplicit && x != ("__debug__" : Str)
noncomputable def compNames (outer : List (Str × NameKind)) (sc : Scope) : List (Str × NameKind) :=
  sc.names.map fun (n, k) => if k == .free && outer.lookup n == some .cell then (n, .cell) else (n, k)
noncomputable def CC.inner (cc : CC) (x : Str) (sc : Scope) : CC :=
  { vars := (x, 50) :: cc.vars.filter (fun p => sc.names.lookup p.1 == some .free && p.1 != x), names := compNames cc.names sc }
noncomputable def CC.compOk (cc : CC) (x : Str) (sc : Scope) : Bool :=
  sc.kind == .function && sc.names.lookup x == some .local && sc.names.all (fun p => p.2 == .local && sc.names.lookup p.1 == some .local || p.2 == .globalImplicit || (p.2 == .free && cc.names.lookup p.1 == some .cell && sc.names.lookup p.1 == some .free && p.1 != ("__classdict__" : Str)))
  && cc.vars.all (fun p => decide (p.2 < 50)) && x != ("__debug__" : Str) && x != (".0" : Str)

noncomputable def binPrimC : Operator → Option Prim
  | .Add => some .add
  | .Sub => some .sub
  | .Mod => some .mod
  | .FloorDiv => some .fdiv
  | _ => none
noncomputable def cmpPrimC : CmpOp → Option Prim
  | .Eq => some .eq
  | .NotEq => some .ne
  | .Lt => some .lt
  | .LtE => some .le
  | .Gt => some .gt
  | .GtE => some .ge
  | .Is => some .is
  | .IsNot => some .isNot
  | .In => some .inn
  | .NotIn => some .notIn
noncomputable def MEs.of : List ME → MEs
  | [] => .nil
  | e :: r => .cons e (MEs.of r)
noncomputable def argsC (es : List Expr) (f : Expr → ME) : MEs := if es.all notStar then MEs.of (es.map f) else .cons .stuck .nil

section
variable (K : Frag)
noncomputable def gval (x : Str) : Option Value := (nsIn K mainGlobals x).join
noncomputable def isB (x : Str) : Bool := match nsIn K mainGlobals x with | some none => true | _ => false

noncomputable def valInt : Value → Option Int
  | .int i _ => some i
  | _ => none
noncomputable def valRef : Value → Option Addr
  | .ref a => some a
  | _ => none
noncomputable def onlyIf (b : Bool) (f : Addr) : Option Addr := if b = true then some f else none
theorem valInt_inv {v : Value} {i : Int} (h : valInt v = some i) : ∃ t, v = .int i t := by cases v <;> first | exact nos h | exact ⟨_, by rw [Option.some.inj h]⟩
theorem valRef_inv {v : Value} {a : Addr} (h : valRef v = some a) : v = .ref a := by cases v <;> first | exact nos h | rw [Option.some.inj h]
theorem onlyIf_inv {b : Bool} {f f' : Addr} (h : onlyIf b f = some f') : b = true ∧ f = f' := by
  unfold onlyIf at h
  cases b with
  | false => exact nos h
  | true => exact ⟨rfl, Option.some.inj h⟩
noncomputable def gInt (x : Str) : Option Int := (gval K x).bind valInt
noncomputable def gRef (x : Str) : Option Addr := (gval K x).bind fun v => (valRef v).bind fun a => onlyIf (keepIn K (.ref a)) a
variable {K} in
theorem gInt_inv {x : Str} {i : Int} (h : gInt K x = some i) : ∃ t, gval K x = some (.int i t) := by
  obtain ⟨v, e, h⟩ := Option.bind_eq_some_iff.mp h
  obtain ⟨t, rfl⟩ := valInt_inv h
  exact ⟨t, e⟩
variable {K} in
theorem gRef_inv {x : Str} {a : Addr} (h : gRef K x = some a) : gval K x = some (.ref a) ∧ keepIn K (.ref a) = true := by
  obtain ⟨v, e, h⟩ := Option.bind_eq_some_iff.mp h
  obtain ⟨b, e', h⟩ := Option.bind_eq_some_iff.mp h
  obtain ⟨hb, rfl⟩ := onlyIf_inv h
  rw [valRef_inv e'] at e
  exact ⟨e, hb⟩

noncomputable def one? (args : List Expr) : Option Expr := match args with
  | [] => none
  | a :: r => match r with
    | [] => some a
    | _ :: _ => none
noncomputable def revArg? (cc : CC) (e : Expr) : Option Expr := match sv e with
  | .call f args _ => if (isNm f "reversed" && cc.implicit "reversed" && isB K "reversed" && args.all notStar) = true then one? args else none
  | _ => none
noncomputable def rangeArgs? (cc : CC) (e : Expr) : Option (List Expr) := match sv e with
  | .call f args _ => if (isNm f "range" && cc.implicit "range" && isB K "range") = true then some args else none
  | _ => none

variable {K} in
theorem one_inv {l : List Expr} {a : Expr} (h : one? l = some a) : l = [a] := by
  match l, h with
  | [_], h => rw [Option.some.inj h]
variable {K} in
theorem rev_of {cc : CC} {e t : Expr} (h : revArg? K cc e = some t) : ∃ p pos, e = .Call (.Name "reversed" p) [t] [] pos ∧ cc.implicit "reversed" = true ∧ isB K "reversed" = true ∧ notStar t = true := by
  revert h
  unfold revArg?
  cases sv e with
  | call f args pos =>
    intro h
    obtain ⟨h, q⟩ := ite_inv h
    obtain ⟨h, hs⟩ := Bool.and_eq_true_iff.mp h
    obtain ⟨h, hB⟩ := Bool.and_eq_true_iff.mp h
    obtain ⟨h, hi⟩ := Bool.and_eq_true_iff.mp h
    obtain ⟨p, rfl⟩ := isNm_inv h
    cases one_inv q
    exact ⟨p, pos, rfl, hi, hB, (Bool.and_eq_true_iff.mp hs).1⟩
  | _ => exact fun h => nos h
variable {K} in
theorem range_of {cc : CC} {e : Expr} {args : List Expr} (h : rangeArgs? K cc e = some args) : ∃ p pos, e = .Call (.Name "range" p) args [] pos ∧ cc.implicit "range" = true ∧ isB K "range" = true := by
  revert h
  unfold rangeArgs?
  cases sv e with
  | call f args pos =>
    intro h
    obtain ⟨h, q⟩ := ite_inv h
    obtain ⟨h, hB⟩ := Bool.and_eq_true_iff.mp h
    obtain ⟨h, hi⟩ := Bool.and_eq_true_iff.mp h
    obtain ⟨p, rfl⟩ := isNm_inv h
    cases q
    exact ⟨p, pos, rfl, hi, hB⟩
  | _ => exact fun h => nos h
noncomputable def cConst : Const → ME
  | .none => .none
  | .bool b => .bool b
  | .int i => .int i
  | .str s => .str s
  | _ => .stuck
noncomputable def cNameG (o : Option Int) : ME := match o with
  | some i => .int i
  | none => .stuck
noncomputable def cNameV (o : Option Nat) (e : ME) : ME := match o with
  | some i => .var i
  | none => e
noncomputable def cName (cc : CC) (x : Str) : ME := if x = "__debug__" then .stuck else cNameV (cc.vars.lookup x) (if cc.implicit x = true then cNameG (gInt K x) else .stuck)
noncomputable def cNeg (op : UnaryOp) (x : Expr) : ME := if (op.ctorIdx == 3) = true then (match sv x with
  | .const c _ _ => (match c with
    | .int i => .int (-i)
    | _ => .stuck)
  | _ => .stuck) else .stuck
noncomputable def cBin (op : Operator) (a b : ME) : ME := match binPrimC op with
  | some p => .prim p (.cons a (.cons b .nil))
  | none => .stuck
noncomputable def cDict (ks : List (Option Expr)) (vs : List Expr) : ME := match ks with
  | [] => match vs with
    | [] => .dict0
    | _ => .stuck
  | _ => .stuck
noncomputable def cBool (op : BoolOp) (es : List Expr) (f : Expr → ME) : ME := match op with
  | .Or => match es with
    | [a, b] => .or (f a) (f b)
    | _ => .stuck
  | _ => .stuck
noncomputable def isIn (op : CmpOp) : Bool := op.ctorIdx == 8
noncomputable def cCmp2 (l : Expr) (op : CmpOp) (r : Expr) (f : Expr → ME) : ME := if notSet r = true then (match cmpPrimC op with
  | some p => .prim p (.cons (f l) (.cons (f r) .nil))
  | none => .stuck) else .stuck
noncomputable def cCmp1 (l : Expr) (op : CmpOp) (r : Expr) (f : Expr → ME) : ME := cCmp2 l op r f
noncomputable def cCmp (l : Expr) (ops : List CmpOp) (rs : List Expr) (f : Expr → ME) : ME := match ops with
  | [op] => match rs with
    | [r] => cCmp1 l op r f
    | _ => .stuck
  | _ => .stuck
noncomputable def cAttr (v : Expr) (a : Str) (f : Expr → ME) : ME := match attrId a with
  | some i => if plainBase v then .attr (f v) i else .stuck
  | none => .stuck
noncomputable def cSub (v i : Expr) (f : Expr → ME) (o : Option Expr → ME) : ME := if notSlice i = true then .prim .idx (.cons (f v) (.cons (f i) .nil)) else match sv i with
  | .slice lo hi st _ => .prim .slice (.cons (f v) (.cons (o lo) (.cons (o hi) (.cons (o st) .nil))))
  | _ => .stuck
noncomputable def bmOf (m : Str) (k : Nat) : Option BM :=
  if (m == "append" && k == 1) = true then some .append else if (m == "pop" && k == 0) = true then some .pop else if (m == "get" && k == 2) = true then some .get
  else if (m == "reverse" && k == 0) = true then some .reverse
  else none
noncomputable def cExt (cc : CC) (o : Expr) (args : List Expr) (f : Expr → ME) : ME := match one? args with
  | some a => match revArg? K cc a with
    | some t => .bm .extendRev (f o) (.cons (f t) .nil)
    | none => .stuck
  | none => .stuck
noncomputable def cMeth (o : Expr) (m : Str) (args : List Expr) (f : Expr → ME) : ME := match attrId m with
  | some i => .meth (f o) i (MEs.of (args.map f))
  | none => .stuck
noncomputable def cCallA (cc : CC) (o : Expr) (m : Str) (ap : Pos) (args : List Expr) (pos : Pos) (f : Expr → ME) : ME :=
  if (ap.endLine == pos.line && plainBase o && decide (args.length < 20) && args.all notStar) = true then
    (match bmOf m args.length with
    | some b => .bm b (f o) (MEs.of (args.map f))
    | none => if (m == "extend") = true then cExt K cc o args f else cMeth o m args f)
  else .stuck
noncomputable def fn1 (g : Str) : Option Prim :=
  if (g == "len") = true then some .len else if (g == "tuple") = true then some .tupleOf
  else if (g == "sorted") = true then some .sorted
  else none
noncomputable def cList (cc : CC) (x : Expr) (f : Expr → ME) : ME := match revArg? K cc x with
  | some t => .prim .listRev (.cons (f t) .nil)
  | none => .prim .listDict (.cons (f x) .nil)
noncomputable def cFn1 (cc : CC) (g : Str) (x : Expr) (f : Expr → ME) : ME := match fn1 g with
  | some p => .prim p (.cons (f x) .nil)
  | none => if (g == "list") = true then cList K cc x f else .stuck
noncomputable def cFnB (cc : CC) (g : Str) (args : List Expr) (f : Expr → ME) : ME := match one? args with
  | some x => if isB K g = true then cFn1 K cc g x f else .stuck
  | none => .stuck
noncomputable def cCallN (cc : CC) (g : Str) (args : List Expr) (f : Expr → ME) : ME :=
  if (cc.implicit g && decide (args.length < 20) && args.all notStar) = true then
    (match gRef K g with
    | some a => if fnIn K a = true then .call a (MEs.of (args.map f)) else .new a (MEs.of (args.map f))
    | none => cFnB K cc g args f)
  else .stuck
noncomputable def isTrueC (e : Expr) : Bool := match sv e with
  | .const c _ _ => (match c with
    | .bool b => b
    | _ => false)
  | _ => false
theorem isTrueC_inv {e : Expr} (h : isTrueC e = true) : ∃ k p, e = .Constant (.bool true) k p := by
  revert h
  unfold isTrueC
  cases sv e with
  | const c k p => cases c with
    | bool b => cases b with
      | true => exact fun _ => ⟨k, p, rfl⟩
      | false => exact fun h => noB h
    | _ => exact fun h => noB h
  | _ => exact fun h => noB h
noncomputable def uniqOf (cc : CC) (c kx vx : Expr) (sc : Scope) : Comprehension → Option Expr
  | ⟨t, it, ifs, as⟩ => match sv t with
    | .name x _ => if (isNm c "list" && (cc.implicit "list" && (isB K "list" && (isNm kx x && (isTrueC vx && (ifs.isEmpty && (cc.compOk x sc && (notSet it && decide (as = 0))))))))) = true then some it else none
    | _ => none
noncomputable def oneG (l : List Comprehension) : Option Comprehension := match l with
  | [] => none
  | a :: r => match r with
    | [] => some a
    | _ :: _ => none
noncomputable def uniqArg? (cc : CC) (c a : Expr) : Option Expr := match a with
  | .DictComp kx vx gens sc _ => (oneG gens).bind (uniqOf K cc c kx vx sc)
  | _ => none
variable {K} in
theorem uniq_of {cc : CC} {c a it : Expr} (h : uniqArg? K cc c a = some it) : ∃ p p1 k p2 px x sc pos, c = .Name "list" p ∧ a = .DictComp (.Name x p1) (.Constant (.bool true) k p2) [⟨.Name x px, it, [], 0⟩] sc pos ∧
    cc.implicit "list" = true ∧ isB K "list" = true ∧ cc.compOk x sc = true ∧ notSet it = true := by
  cases a with
  | DictComp kx vx gens sc pos =>
    obtain ⟨⟨t, i, ifs, as⟩, hG, h⟩ := Option.bind_eq_some_iff.mp h
    have hg : gens = [⟨t, i, ifs, as⟩] := by
      match gens, hG with
      | [_], hG => rw [Option.some.inj hG]
    revert h
    show (match sv t with | .name x _ => _ | _ => _) = _ → _
    cases sv t with
    | name x px =>
      intro h
      obtain ⟨h, q⟩ := ite_inv h
      cases q
      obtain ⟨h1, h⟩ := Bool.and_eq_true_iff.mp h
      obtain ⟨h2, h⟩ := Bool.and_eq_true_iff.mp h
      obtain ⟨h3, h⟩ := Bool.and_eq_true_iff.mp h
      obtain ⟨h4, h⟩ := Bool.and_eq_true_iff.mp h
      obtain ⟨h5, h⟩ := Bool.and_eq_true_iff.mp h
      obtain ⟨h6, h⟩ := Bool.and_eq_true_iff.mp h
      obtain ⟨h7, h⟩ := Bool.and_eq_true_iff.mp h
      obtain ⟨h8, h9⟩ := Bool.and_eq_true_iff.mp h
      obtain ⟨p, rfl⟩ := isNm_inv h1
      obtain ⟨p1, rfl⟩ := isNm_inv h4
      obtain ⟨k, p2, rfl⟩ := isTrueC_inv h5
      rw [hg, List.isEmpty_iff.mp h6, of_decide_eq_true h9]
      exact ⟨p, p1, k, p2, px, x, sc, pos, rfl, rfl, h2, h3, h7, h8⟩
    | _ => exact fun h => nos h
  | _ => exact nos h
noncomputable def cCall (cc : CC) (c : Expr) (args : List Expr) (kws : List Keyword) (pos : Pos) (f : Expr → ME) : ME := match kws with
  | [] => match (one? args).bind (uniqArg? K cc c) with
   | some it => .uniq (f it)
   | none =>
    match sv c with
    | .attr o m ap => cCallA K cc o m ap args pos f
    | .name g _ => cCallN K cc g args f
    | _ => .stuck
  | _ :: _ => .stuck
noncomputable def cCompN (cc : CC) (elt t i : Expr) (ifs : List Expr) (sc : Scope) (f : CC → Expr → ME) (it : Expr → MI) (c : CC → List Expr → MT) : ME := match sv t with
  | .name x _ => if cc.compOk x sc = true then .comp (f (cc.inner x sc) elt) 50 (it i) (c (cc.inner x sc) ifs) else .stuck
  | _ => .stuck
noncomputable def cComp (cc : CC) (elt : Expr) (gens : List Comprehension) (sc : Scope) (f : CC → Expr → ME) (it : Expr → MI) (c : CC → List Expr → MT) : ME := match gens with
  | [] => .stuck
  | ⟨t, i, ifs, as⟩ :: r => match r with
    | [] => if as = 0 then cCompN cc elt t i ifs sc f it c else .stuck
    | _ :: _ => .stuck

inductive TV : Expr → Type where
  | not (x : Expr) (p : Pos) : TV (.UnaryOp .Not x p)
  | bool (op : BoolOp) (es : List Expr) (p : Pos) : TV (.BoolOp op es p)
  | plain (e : Expr) (h : ∀ env, isCmp e = true ∨ isTrue e env (eval e env) = (do let v ← eval e env; standAt e.pos; holding [v] (PySem.truthy v))) : TV e
  | other (e : Expr) : TV e
noncomputable def tview : (e : Expr) → TV e
  | .UnaryOp op x p => match op with
    | .Not => .not x p
    | _ => .other _
  | .BoolOp op es p => .bool op es p
  | .Compare .. => .plain _ fun _ => .inl rfl
  | .Name .. => .plain _ fun _ => .inr rfl
  | .Attribute .. => .plain _ fun _ => .inr rfl
  | .Subscript .. => .plain _ fun _ => .inr rfl
  | .Call .. => .plain _ fun _ => .inr rfl
  | .Constant .. => .plain _ fun _ => .inr rfl
  | _ => .other _
noncomputable def andL : List MT → MT
  | [] => .e .stuck
  | a :: r => match r with
    | [] => a
    | _ :: _ => .and a (andL r)
noncomputable def orL : List MT → MT
  | [] => .e .stuck
  | a :: r => match r with
    | [] => a
    | _ :: _ => .or a (orL r)
noncomputable def cTB (op : BoolOp) (es : List Expr) (f : Expr → MT) : MT := match op with
  | .And => andL (es.map f)
  | .Or => orL (es.map f)
noncomputable def cIV (cc : CC) (e : Expr) (f : Expr → ME) : MI := match revArg? K cc e with
  | some t => .rev (f t)
  | none => if notSet e = true then .val (f e) else .val .stuck
mutual
noncomputable def cE : Nat → CC → Expr → ME
  | 0, _, _ => .stuck
  | n + 1, cc, e => match e with
    | .Constant c _ _ => cConst c
    | .Name x _ => cName K cc x
    | .UnaryOp op x _ => cNeg op x
    | .BinOp l op r _ => cBin op (cE n cc l) (cE n cc r)
    | .Tuple es _ _ => .tup (argsC es (cE n cc))
    | .List es _ => .list (argsC es (cE n cc))
    | .Dict ks vs _ => cDict ks vs
    | .IfExp t a b _ => .ite (cT n cc t) (cE n cc a) (cE n cc b)
    | .BoolOp op es _ => cBool op es (cE n cc)
    | .Compare l ops rs _ => cCmp l ops rs (cE n cc)
    | .Attribute v a _ => cAttr v a (cE n cc)
    | .Subscript v i _ => cSub v i (cE n cc) (cO n cc)
    | .Call c args kws pos => cCall K cc c args kws pos (cE n cc)
    | .ListComp elt gens sc _ => cComp cc elt gens sc (fun c e => cE n c e) (cI n cc) (fun c l => cIfs n c l)
    | _ => .stuck
noncomputable def cO : Nat → CC → Option Expr → ME
  | 0, _, _ => .stuck
  | n + 1, cc, o => match o with
    | none => .none
    | some e => cE n cc e
noncomputable def cIfs : Nat → CC → List Expr → MT
  | 0, _, _ => .e .stuck
  | n + 1, cc, l => match l with
    | [] => .tt
    | [c] => cT n cc c
    | _ => .e .stuck
noncomputable def cT : Nat → CC → Expr → MT
  | 0, _, _ => .e .stuck
  | n + 1, cc, e => match tview e with
    | .not x _ => .not (cT n cc x)
    | .bool op es _ => cTB op es (cT n cc)
    | .plain e _ => .e (cE n cc e)
    | .other _ => .e .stuck
noncomputable def cI : Nat → CC → Expr → MI
  | 0, _, _ => .val .stuck
  | n + 1, cc, e => match rangeArgs? K cc e with
    | some args => .range (argsC args (cE n cc))
    | none => cIV K cc e (cE n cc)
end

noncomputable def nmIx (cc : CC) (e : Expr) : Option Nat := match sv e with
  | .name x _ => cc.vars.lookup x
  | _ => none
noncomputable def cNames (cc : CC) : List Expr → Option (List Nat)
  | [] => some []
  | e :: r => (nmIx cc e).bind fun i => (cNames cc r).map (i :: ·)
noncomputable def cTGt (o : Option (List Nat)) : TG := match o with
  | some is => .tup is
  | none => .stuck
noncomputable def cTGa (o : Option Nat) (e : ME) : TG := match o with
  | some i => .attr e i
  | none => .stuck
noncomputable def cTGv (o : Option Nat) : TG := match o with
  | some i => .var i
  | none => .stuck
noncomputable def cTG (n : Nat) (cc : CC) (t : Expr) : TG := match sv t with
  | .name x _ => cTGv (cc.vars.lookup x)
  | .tup es _ _ => cTGt (cNames cc es)
  | .attr o a _ => cTGa (attrId a) (cE K n cc o)
  | .sub o i _ => if notSlice i = true then .idx (cE K n cc o) (cE K n cc i) else .stuck
  | _ => .stuck

noncomputable def cRet (v : Option Expr) (f : Expr → ME) : MS := match v with
  | some e => .ret (f e)
  | none => .ret .none
noncomputable def cAsgV (o : Option Nat) (e : ME) : MS := match o with
  | some i => .assign (.var i) e
  | none => .stuck
noncomputable def cAsgC (n : Nat) (cc : CC) (t e : Expr) : MS := if (e.ctorIdx == 8) = true then (match sv t with
  | .name y _ => cAsgV (cc.vars.lookup y) (cE K n cc e)
  | _ => .stuck) else .stuck
noncomputable def cAsg (n : Nat) (cc : CC) (ts : List Expr) (e : Expr) : MS := match one? ts with
  | some t => if ((isTup t && isTup e) || isComp e) = true then cAsgC K n cc t e else .assign (cTG K n cc t) (cE K n cc e)
  | none => .stuck
noncomputable def isAdd (op : Operator) : Bool := op.ctorIdx == 0
noncomputable def cAug (cc : CC) (t : Expr) (op : Operator) (f : Expr → ME) (e : ME) : MS := if isAdd op = true then (match sv t with
  | .name x _ => (match cc.vars.lookup x with
    | some i => .augVar i e
    | none => .stuck)
  | .sub o i _ => if notSlice i = true then .augIdx (f o) (f i) e else .stuck
  | _ => .stuck) else .stuck
noncomputable def cNil (l : List Stmt) (x : MS) : MS := match l with
  | [] => x
  | _ => .stuck
noncomputable def cForN (cc : CC) (x : Str) (it : MI) (b : MS) : MS := match cc.vars.lookup x with
  | some i => .for i it b
  | none => .stuck
noncomputable def cFor (cc : CC) (t : Expr) (it : MI) (b : MS) (e : List Stmt) : MS := match sv t with
  | .name x _ => cNil e (cForN cc x it b)
  | _ => .stuck
mutual
noncomputable def cS : Nat → CC → Stmt → MS
  | 0, _, _ => .stuck
  | n + 1, cc, s => match s with
    | .Expr e _ => if isComp e then .stuck else .expr (cE K n cc e)
    | .Pass _ => .skip
    | .Break _ => .brk
    | .Continue _ => .cont
    | .Return v _ => cRet v (cE K n cc)
    | .Assign ts e _ => cAsg K n cc ts e
    | .AugAssign t op e _ => cAug cc t op (cE K n cc) (cE K n cc e)
    | .If t a b _ => .ite (cT K n cc t) (cSs n cc a) (cSs n cc b)
    | .While t b e _ => cNil e (.loop (cT K n cc t) (cSs n cc b))
    | .For t it b e _ => cFor cc t (cI K n cc it) (cSs n cc b) e
    | _ => .stuck
noncomputable def cSs : Nat → CC → List Stmt → MS
  | 0, _, _ => .stuck
  | n + 1, cc, l => match l with
    | [] => .skip
    | s :: r => .seq (cS n cc s) (cSs n cc r)
end

noncomputable def fnCC (fd : FuncData) : CC :=
  let ps := fd.params.args.map (·.arg)
  { vars := (ps ++ (fd.scope.names.filter fun p => (p.2 == .local || p.2 == .cell) && !ps.contains p.1).map (·.1)).zipIdx, names := fd.scope.names }
noncomputable def depthC : Nat := 40
noncomputable def seqOf : Data → Option (Array Value × Nat)
  | .seq its n => some (its, n)
  | _ => none
noncomputable def fdOf : Data → Option FuncData
  | .func fd => some fd
  | _ => none
noncomputable def dfltOk (fd : FuncData) : Bool := fd.defaults == .none || ((valRef fd.defaults).bind fun T => (K.lookup T).bind fun o => seqOf o.data).isSome
noncomputable def okFn (fd : FuncData) : Bool := dfltOk K fd &&
  fd.params.posonlyargs.isEmpty && fd.params.vararg.isNone && fd.params.kwonlyargs.isEmpty && fd.params.kwarg.isNone &&
  decide (fd.globals = mainGlobals) && fd.closure.isEmpty && decide (fd.builtins = builtinsNs) && fd.scope.kind == .function && !fd.scope.isGenerator && !fd.scope.isCoroutine &&
  codeIn K fd.code fd.qualname && decide ((fnCC fd).vars.map (·.1)).Nodup && (fnCC fd).vars.all (fun p => decide (p.2 < 50) && (fd.scope.names.lookup p.1 == some .local || fd.scope.names.lookup p.1 == some .cell)) &&
  decide (fd.scope.names.map (·.1)).Nodup
noncomputable def fnBody (fd : FuncData) : Option (List Stmt) := match fd.body with
  | .stmts b => some b
  | .expr _ => none
noncomputable def fnFR (a : Addr) : Option FR := (K.lookup a).bind fun o => (fdOf o.data).bind fun fd => (fnBody fd).bind fun b => if okFn K fd = true then some ⟨fd.params.args.length, cSs K depthC (fnCC fd) b⟩ else none
noncomputable def refOf (o : Option (Option Value)) : Option Addr := o.bind fun o => o.bind valRef
noncomputable def initOf (c : Addr) : Option Addr := (refOf (findIn K (.ref c) "__init__")).bind fun f => onlyIf (makesIn K c && isFn K (.ref f)) f
noncomputable def methOf (c : Addr) (m : Nat) : Option Addr := (refOf (findIn K (.ref c) (attrAt m))).bind fun f => onlyIf (plainGet K c (attrAt m) && isFn K (.ref f) && keepIn K (.ref f)) f
theorem refOf_inv {o : Option (Option Value)} {f : Addr} (h : refOf o = some f) : o = some (some (.ref f)) := by
  obtain ⟨o', e, h⟩ := Option.bind_eq_some_iff.mp h
  obtain ⟨v, e', h⟩ := Option.bind_eq_some_iff.mp h
  rw [e, e', valRef_inv h]
variable {K} in
theorem initOf_inv {c f : Addr} (h : initOf K c = some f) : findIn K (.ref c) "__init__" = some (some (.ref f)) ∧ makesIn K c = true ∧ isFn K (.ref f) = true := by
  obtain ⟨f', e, h⟩ := Option.bind_eq_some_iff.mp h
  obtain ⟨hb, rfl⟩ := onlyIf_inv h
  rw [Bool.and_eq_true] at hb
  exact ⟨refOf_inv e, hb.1, hb.2⟩
variable {K} in
theorem methOf_inv {c f : Addr} {m : Nat} (h : methOf K c m = some f) : findIn K (.ref c) (attrAt m) = some (some (.ref f)) ∧ plainGet K c (attrAt m) = true ∧ isFn K (.ref f) = true ∧ keepIn K (.ref f) = true := by
  obtain ⟨f', e, h⟩ := Option.bind_eq_some_iff.mp h
  obtain ⟨hb, rfl⟩ := onlyIf_inv h
  rw [Bool.and_eq_true, Bool.and_eq_true] at hb
  exact ⟨refOf_inv e, hb.1.1, hb.1.2, hb.2⟩
noncomputable def fldOf (c : Addr) (m : Nat) : Bool := plainGet K c (attrAt m) && (hasDictIn K c && ((match findIn K (.ref c) (attrAt m) with | some attr => noGet K attr | none => false) &&
  (findIn K (.ref c) "__setattr__" == some (some (.builtin "object.__setattr__")) && (plainOver K c && takerIn K c (attrAt m) == some none))))
variable {K} in
theorem fldOf_inv {c : Addr} {m : Nat} (h : fldOf K c m = true) : plainGet K c (attrAt m) = true ∧ hasDictIn K c = true ∧ (∃ attr, findIn K (.ref c) (attrAt m) = some attr ∧ noGet K attr = true) ∧ findIn K (.ref c) "__setattr__" = some (some (.builtin "object.__setattr__")) ∧
    plainOver K c = true ∧ takerIn K c (attrAt m) = some none := by
  obtain ⟨h1, h⟩ := Bool.and_eq_true_iff.mp h
  obtain ⟨h2, h⟩ := Bool.and_eq_true_iff.mp h
  obtain ⟨h3, h⟩ := Bool.and_eq_true_iff.mp h
  obtain ⟨h4, h⟩ := Bool.and_eq_true_iff.mp h
  obtain ⟨h5, h⟩ := Bool.and_eq_true_iff.mp h
  refine ⟨h1, h2, ?_, beq_iff_eq.mp h4, h5, beq_iff_eq.mp h⟩
  revert h3
  cases findIn K (.ref c) (attrAt m) with
  | none => exact noB
  | some a => exact fun q => ⟨a, rfl, q⟩
noncomputable def pgOf : Pg := { fn := fnFR K, init := initOf K, meth := methOf K, fld := fldOf K }
end
end
section
open PySem PySem.W PyProof.Rows PySem.SeqAt

theorem big_le : big ≤ sizeLine := by rw [sizeLine_eq]; decide
theorem get_push_lt {h : Heap} {o : Obj} {a : Addr} {o' : Obj} (e : h.get? a = some o') : (h.push o).get? a = some o' := Heap.get?_push_of_some o e

section build
variable {g : Glb} {ρ : Rho} {σ : St} {s : Shared} {Q : PV → St → Prop}

theorem Rel.push {h : Heap} (R : Rel g ρ σ h) (o : Obj) : Rel g ρ σ (h.push o) := R.grow fun _ _ e => get_push_lt e
theorem Step.push {h : Heap} (o : Obj) : Step [] ρ h ρ (h.push o) := Step.grow fun _ _ e => get_push_lt e
theorem vr_push {h : Heap} {o : Obj} {x v} (V : VR h ρ x v) : VR (h.push o) ρ x v := by
  have := V.mono (δ := []) (h' := h.push o) fun _ _ _ e => get_push_lt e
  rwa [List.append_nil] at this
theorem vr_grow {h h' : Heap} {x v δ} (V : VR h ρ x v) (k : ∀ a o, h.get? a = some o → h'.get? a = some o) : VR h' (ρ ++ δ) x v := V.mono fun _ _ _ e => k _ _ e
theorem own_lt {h : Heap} (R : Rel g ρ σ h) {a : Addr} (ha : a ∈ ρ.map (·.2)) : a < h.objs.size := by
  obtain ⟨o, e, _⟩ := R.owned ha
  exact Heap.lt_size e

theorem get_size (h : Heap) : h.get? h.objs.size = none := by
  cases q : h.get? h.objs.size with
  | none => rfl
  | some o => exact absurd (Heap.lt_size q) (Nat.lt_irrefl _)
theorem Rel.fresh {h : Heap} (R : Rel g ρ σ h) {a : Addr} (e : h.get? a = none) : g.h₀.get? a = none := by
  cases q : g.h₀.get? a with
  | none => rfl
  | some o => rw [R.keep _ _ q] at e; cases e
theorem Rel.new {h : Heap} (R : Rel g ρ σ h) {o : Obj} {ao : AObj} (hn : ORel g.w g.AT (h.push o) ρ (h.objs.size, h.objs.size) ao) (hr : ∀ xs, ao ≠ .ro xs := by intro _ e; cases e) :
    Rel g (ρ ++ [(h.objs.size, h.objs.size)]) (σ ++ [ao]) (h.push o) :=
  (R.push o).alloc (R.fresh (get_size h)) (fun q => Nat.lt_irrefl _ (own_lt R q)) (R.ne_mods (Nat.le_refl _)) hn hr
theorem Step.new {h : Heap} (o : Obj) : Step [] ρ h (ρ ++ [(h.objs.size, h.objs.size)]) (h.push o) :=
  ⟨⟨_, rfl, fun p hp => by rw [List.mem_singleton.mp hp]; exact get_size h⟩, fun _ o e => ⟨o, get_push_lt e⟩, fun _ _ e _ _ => get_push_lt e⟩
theorem orel_list {h : Heap} {w AT} {xs : List PV} {its : Array Value} {a : Addr} {n : Nat} (e : h.get? a = some (lstObj its n)) (V : All2 (VR h ρ) xs its.toList) (hb : xs.length ≤ big) : ORel w AT h ρ (a, a) (.list xs) := ⟨rfl, hb, its, n, e, V⟩
theorem all_push {h : Heap} {o : Obj} {xs vs} (V : All2 (VR h ρ) xs vs) : All2 (VR (h.push o) ρ) xs vs := V.mono fun _ _ r => vr_push r

theorem EP.newList {xs : List PV} {its : Array Value} (R : Rel g ρ σ s.heap) (V : All2 (VR s.heap ρ) xs its.toList) (hb : xs.length ≤ big) (q : Q (.obj σ.length) (σ ++ [.list xs])) (t : Nat) :
    EP g ρ s Q (.ref s.heap.objs.size) { s with heap := s.heap.push (lstObj its 0), toks := t } :=
  ⟨_, _, _, ⟨_, _, rfl⟩, Step.new _, R.new (orel_list (Heap.get?_push_size _ rfl) (all_push V) hb), .obj (d := s.heap.objs.size) (by rw [List.getElem?_append_right (by rw [R.len]; exact Nat.le_refl _), R.len]; simp), q⟩
theorem EP.newTup {xs : List PV} {its : Array Value} (R : Rel g ρ σ s.heap) (V : All2 (VR s.heap ρ) xs its.toList) (hb : xs.length ≤ big) (q : Q (.tup xs) σ) (t : Nat) :
    EP g ρ s Q (.ref s.heap.objs.size) { s with heap := s.heap.push (tupObj its 0), toks := t } :=
  ⟨_, _, _, ⟨_, _, rfl⟩, Step.push _, R.push _, .tup (Heap.get?_push_size _ rfl) (VRs.of_all (all_push V)) hb, q⟩
theorem EP.newDict {kvs : List (PV × PV)} {es : Array DictEntry} (R : Rel g ρ σ s.heap) (V : All2 (EntR g.w s.heap ρ) kvs es.toList) (hn : (kvs.map (·.1)).Nodup) (hb : kvs.length ≤ 1000) {n : Nat} (q : Q (.obj σ.length) (σ ++ [.dict kvs])) (t : Nat) :
    EP g ρ s Q (.ref s.heap.objs.size) { s with heap := s.heap.push (dctObj es n), toks := t } :=
  ⟨_, _, _, ⟨_, _, rfl⟩, Step.new _, R.new (ao := .dict kvs) ⟨rfl, hb, es, n, Heap.get?_push_size _ rfl, V.mono fun _ _ r => ⟨vr_push r.1, vr_push r.2.1, r.2.2⟩, hn⟩,
    .obj (d := s.heap.objs.size) (by rw [List.getElem?_append_right (by rw [R.len]; exact Nat.le_refl _), R.len]; simp), q⟩
end build

section
variable {prog : Program} {w : World} {A : Around} {g : Glb} {ρ : Rho} {σ : St} {s : Shared} {Q : PV → St → Prop} {n : Nat}

theorem VR.none_inv {h : Heap} {v : Value} (V : VR h ρ .none v) : v = .none := by cases V; rfl
theorem VR.int_inv {h : Heap} {i : Int} {v : Value} (V : VR h ρ (.int i) v) : ∃ t, v = .int i t := by cases V; exact ⟨_, rfl⟩
theorem VR.str_inv {h : Heap} {i : Str} {v : Value} (V : VR h ρ (.str i) v) : ∃ t, v = .str i t := by cases V; exact ⟨_, rfl⟩
theorem VR.tup_inv {h : Heap} {xs : List PV} {v : Value} (V : VR h ρ (.tup xs) v) : ∃ a its n, v = .ref a ∧ h.get? a = some (tupObj its n) ∧ All2 (VR h ρ) xs its.toList ∧ xs.length ≤ big := by cases V with | tup a b c => exact ⟨_, _, _, rfl, a, b.all, c⟩
theorem VR.obj_inv {h : Heap} {k : Nat} {v : Value} (V : VR h ρ (.obj k) v) : ∃ a d, v = .ref a ∧ ρ[k]? = some (a, d) := by cases V with | obj e => exact ⟨_, _, rfl, e⟩
theorem VR.list_inv {h : Heap} (R : Rel g ρ σ h) {k : Nat} {xs : List PV} (e : σ[k]? = some (.list xs)) {v : Value} (V : VR h ρ (.obj k) v) :
    ∃ a its n, v = .ref a ∧ ρ[k]? = some (a, a) ∧ h.get? a = some (lstObj its n) ∧ All2 (VR h ρ) xs its.toList ∧ xs.length ≤ big := by
  obtain ⟨a, d, rfl, er⟩ := V.obj_inv
  obtain ⟨q, z, its, n, hg, hv⟩ := R.objs k _ _ e er
  dsimp only at q; subst q
  exact ⟨a, its, n, rfl, er, hg, hv, z⟩
theorem VR.dict_inv {h : Heap} (R : Rel g ρ σ h) {k : Nat} {kvs : List (PV × PV)} (e : σ[k]? = some (.dict kvs)) {v : Value} (V : VR h ρ (.obj k) v) :
    ∃ a es n, v = .ref a ∧ ρ[k]? = some (a, a) ∧ h.get? a = some (dctObj es n) ∧ All2 (EntR g.w h ρ) kvs es.toList ∧ (kvs.map (·.1)).Nodup ∧ kvs.length ≤ 1000 := by
  obtain ⟨a, d, rfl, er⟩ := V.obj_inv
  obtain ⟨q, z, es, n, hg, hv, hn⟩ := R.objs k _ _ e er
  dsimp only at q; subst q
  exact ⟨a, es, n, rfl, er, hg, hv, hn, z⟩
theorem VR.inst_inv {h : Heap} (R : Rel g ρ σ h) {k : Nat} {c : Addr} {fs : List (Nat × PV)} (e : σ[k]? = some (.inst c fs)) {v : Value} (V : VR h ρ (.obj k) v) :
    ∃ a d es n, v = .ref a ∧ ρ[k]? = some (a, d) ∧ h.get? a = some (instObj c d) ∧ h.get? d = some (dctObj es.toArray n) ∧ All2 (FldR g.AT h ρ) fs es := by
  obtain ⟨a, d, rfl, er⟩ := V.obj_inv
  obtain ⟨hi, es, n, hg, hv⟩ := R.objs k _ _ e er
  exact ⟨a, d, es, n, rfl, er, hi, hg, hv⟩

theorem size_of {h : Heap} {xs : List PV} {its : Array Value} (V : All2 (VR h ρ) xs its.toList) : xs.length = its.size := V.length.trans Array.length_toList
theorem intB_two {h : Heap} {a b : PV} {x y : Value} {f : Int → Int → Prop} (Va : VR h ρ a x) (Vb : VR h ρ b y) (q : intB a b f) : ∃ i j t u, x = .int i t ∧ y = .int j u ∧ f i j := by
  obtain ⟨i, j, rfl, rfl, q⟩ := q
  obtain ⟨t, rfl⟩ := Va.int_inv; obtain ⟨u, rfl⟩ := Vb.int_inv
  exact ⟨i, j, t, u, rfl, rfl, q⟩
theorem lst_two {h : Heap} {a : PV} {x : Value} (R : Rel g ρ σ h) (Va : VR h ρ a x) {f : Nat → List PV → Prop} (q : lstB σ a f) :
    ∃ k xs l its m, a = .obj k ∧ x = .ref l ∧ σ[k]? = some (.list xs) ∧ ρ[k]? = some (l, l) ∧ h.get? l = some (lstObj its m) ∧ All2 (VR h ρ) xs its.toList ∧ xs.length ≤ big ∧ f k xs := by
  obtain ⟨k, xs, rfl, e, q⟩ := q
  obtain ⟨l, its, m, rfl, er, hg, hv, z⟩ := Va.list_inv R e
  exact ⟨k, xs, l, its, m, rfl, rfl, e, er, hg, hv, z, q⟩
theorem dct_two {h : Heap} {a : PV} {x : Value} (R : Rel g ρ σ h) (Va : VR h ρ a x) {f : Nat → List (PV × PV) → Prop} (q : dctB σ a f) :
    ∃ k kvs l es m, a = .obj k ∧ x = .ref l ∧ σ[k]? = some (.dict kvs) ∧ ρ[k]? = some (l, l) ∧ h.get? l = some (dctObj es m) ∧ All2 (EntR g.w h ρ) kvs es.toList ∧ (kvs.map (·.1)).Nodup ∧ kvs.length ≤ 1000 ∧ f k kvs := by
  obtain ⟨k, kvs, rfl, e, q⟩ := q
  obtain ⟨l, es, m, rfl, er, hg, hr, hn, z⟩ := Va.dict_inv R e
  exact ⟨k, kvs, l, es, m, rfl, rfl, e, er, hg, hr, hn, z, q⟩
theorem tup_two {h : Heap} {a : PV} {x : Value} (Va : VR h ρ a x) {f : List PV → Prop} (q : tupB a f) : ∃ xs l its m, a = .tup xs ∧ x = .ref l ∧ h.get? l = some (tupObj its m) ∧ All2 (VR h ρ) xs its.toList ∧ xs.length ≤ big ∧ f xs := by
  obtain ⟨xs, rfl, q⟩ := q
  obtain ⟨l, its, m, rfl, hg, hv, z⟩ := Va.tup_inv
  exact ⟨xs, l, its, m, rfl, rfl, hg, hv, z, q⟩
theorem nil_of {h : Heap} {xs : List PV} {its : Array Value} (V : All2 (VR h ρ) xs its.toList) (e : its.isEmpty = true) : xs = [] :=
  List.eq_nil_of_length_eq_zero ((size_of V).trans (by rw [Array.isEmpty_iff.mp e]; rfl))

theorem add_tup {xs ys : List PV} {l l2 : Addr} {its its2 : Array Value} {m m2 : Nat} (R : Rel g ρ σ s.heap) (hl : s.heap.get? l = some (tupObj its m)) (hl2 : s.heap.get? l2 = some (tupObj its2 m2)) (hv : All2 (VR s.heap ρ) xs its.toList) (hv2 : All2 (VR s.heap ρ) ys its2.toList)
    (hz : xs.length + ys.length ≤ big) (h : Q (.tup (xs ++ ys)) σ) : wpAny (model prog w) A (binaryOp .Add (.ref l) (.ref l2)) (EP g ρ s Q) NoE s := by
  have hsz : its.size + its2.size ≤ sizeLine := by rw [← size_of hv, ← size_of hv2]; exact Nat.le_trans hz big_le
  by_cases e1 : its.isEmpty = true
  · refine concat_meets ⟨_, hl, rfl⟩ ⟨_, hl2, rfl⟩ noFill_tuple_add seq_tuple_add F.slot_tuple_add F.entry_tuple_add (F.args_tuple_add_2 _ _) (AutoSeq1.tuple___add___tuple_tuple_0 l its m l2 its2 m2 e1) ⟨hl, hl2, ?_⟩
    cases nil_of hv e1
    exact EP.here' R (.tup hl2 (.of_all hv2) (Nat.le_trans (Nat.le_add_left _ _) hz)) h
  · by_cases e2 : its2.isEmpty = true
    · refine concat_meets ⟨_, hl, rfl⟩ ⟨_, hl2, rfl⟩ noFill_tuple_add seq_tuple_add F.slot_tuple_add F.entry_tuple_add (F.args_tuple_add_2 _ _) (AutoSeq1.tuple___add___tuple_tuple_1 l its m l2 its2 m2 e1 e2) ⟨hl, hl2, ?_⟩
      cases nil_of hv2 e2
      rw [List.append_nil] at h
      exact EP.here' R (.tup hl (.of_all hv) (Nat.le_trans (Nat.le_add_right _ _) hz)) h
    · exact PySem.P.add_tuple hl hl2 e1 e2 (EP.newTup R (by rw [Array.toList_append]; exact hv.append hv2) (by rw [List.length_append]; exact hz) h _) hsz
theorem binop_sound {op : Operator} {p : Prim} (hp : binPrimC op = some p) {a b : PV} {x y : Value} (R : Rel g ρ σ s.heap) (Va : VR s.heap ρ a x) (Vb : VR s.heap ρ b y)
    (h : prim2 p a b σ Q) : wpAny (model prog w) A (binaryOp op x y) (EP g ρ s Q) NoE s := by
  cases op <;> first | exact nos hp | cases hp
  · -- add
    rcases h with h | h
    · obtain ⟨i, j, t, u, rfl, rfl, h⟩ := intB_two Va Vb h
      exact wpAny_add_int (EP.here R (.int _ _) h _)
    rcases h with h | h
    · obtain ⟨k, xs, l, its, m, rfl, rfl, _, _, hl, hv, _, h⟩ := lst_two R Va h
      obtain ⟨k2, ys, l2, its2, m2, rfl, rfl, _, _, hl2, hv2, _, hz, h⟩ := lst_two R Vb h
      exact PySem.P.add_list hl hl2 (EP.newList R (by rw [Array.toList_append]; exact hv.append hv2) (by rw [List.length_append]; exact hz) h _) (by rw [← size_of hv, ← size_of hv2]; exact Nat.le_trans hz big_le)
    · obtain ⟨xs, l, its, m, rfl, rfl, hl, hv, _, h⟩ := tup_two Va h
      obtain ⟨ys, l2, its2, m2, rfl, rfl, hl2, hv2, _, hz, h⟩ := tup_two Vb h
      exact add_tup R hl hl2 hv hv2 hz h
  · -- sub
    obtain ⟨i, j, t, u, rfl, rfl, h⟩ := intB_two Va Vb h
    exact PyProof.Rows.sub_int' (EP.here R (.int _ _) h _)
  · -- mod
    obtain ⟨i, j, t, u, rfl, rfl, hj, h⟩ := intB_two Va Vb h
    refine PyProof.Rows.mod_int' (by (first | lia | omega)) (EP.here R ?_ h _)
    rw [Int.fmod_eq_emod_of_nonneg _ (by (first | lia | omega))]; exact .int _ _
  · -- floordiv
    obtain ⟨i, j, t, u, rfl, rfl, hj, h⟩ := intB_two Va Vb h
    refine PyProof.Rows.floordiv_int (by (first | lia | omega)) (EP.here R ?_ h _) (Or.inl (PyProof.noPylong_small (by (first | lia | omega))))
    rw [Int.fdiv_eq_ediv_of_nonneg _ (by (first | lia | omega))]; exact .int _ _
end
end
section
open PySem PySem.W PyProof.Rows PySem.SeqAt

theorem All2.find {α β : Type} {R : α → β → Prop} {p : α → Bool} {q : β → Bool} (hpq : ∀ x y, R x y → p x = q y) : ∀ {xs : List α} {ys : List β}, All2 R xs ys →
    (match xs.find? p, ys.find? q with | some x, some y => R x y | none, none => True | _, _ => False)
  | [], [], _ => trivial
  | x :: xs, y :: ys, h => by
    rw [List.find?_cons, List.find?_cons, hpq x y h.1]
    cases q y with
    | true => exact h.1
    | false => exact All2.find hpq h.2
  | [], _ :: _, h => h.elim
  | _ :: _, [], h => h.elim

section kk
variable {prog : Program} {w : World}
structure Enc {K : Type} [DecidableEq K] (knd : PySem.KeyKind prog w K) (enc : K → PV) : Prop where
  vr : ∀ {h : Heap} {ρ : Rho} {k : K} {v : Value}, VR h ρ (enc k) v → knd.is k v = true
  rv : ∀ {h : Heap} {ρ : Rho} {k : K} {v : Value}, knd.is k v = true → VR h ρ (enc k) v
  hash : ∀ k, hashP w (enc k) = knd.hash k
  inj : ∀ a b, enc a = enc b → a = b

theorem encStr : Enc (PySem.strKind prog w) PV.str where
  vr := fun V => by obtain ⟨t, rfl⟩ := V.str_inv; simp [PySem.strKind, Value.isStrOf]
  rv := fun e => by obtain ⟨t, rfl⟩ := Value.isStrOf_shape e; exact .str _ _
  hash := fun _ => rfl
  inj := fun _ _ e => by injection e
theorem encInt : Enc (PySem.intKind prog w) PV.int where
  vr := fun V => by obtain ⟨t, rfl⟩ := V.int_inv; simp [PySem.intKind, Value.isInt]
  rv := fun e => by obtain ⟨t, rfl⟩ := Value.isInt_shape e; exact .int _ _
  hash := fun _ => rfl
  inj := fun _ _ e => by injection e

variable {K : Type} [DecidableEq K] {knd : PySem.KeyKind prog w K} {enc : K → PV} {ρ : Rho} {h : Heap}
noncomputable def KV (enc : K → PV) (h : Heap) (ρ : Rho) (p : PV × PV) (x : K × Value) : Prop := p.1 = enc x.1 ∧ VR h ρ p.2 x.2

theorem kv_keys : ∀ {kvs : List (PV × PV)} {xs : List (K × Value)}, All2 (KV enc h ρ) kvs xs → kvs.map (·.1) = xs.map fun x => enc x.1
  | [], [], _ => rfl
  | _ :: _, _ :: _, r => by rw [List.map_cons, List.map_cons, kv_keys r.2, r.1.1]
  | [], _ :: _, r => r.elim
  | _ :: _, [], r => r.elim

theorem dict_to (N : Enc knd enc) {a : Addr} {es : Array DictEntry} {n : Nat} {kvs : List (PV × PV)} (e : h.get? a = some (dctObj es n)) (hr : All2 (EntR w h ρ) kvs es.toList)
    (hn : (kvs.map (·.1)).Nodup) (hk : ∀ p ∈ kvs, ∃ k, p.1 = enc k) : ∃ xs : List (K × Value), All2 (KV enc h ρ) kvs xs ∧ h.DictOf knd a xs := by
  have key : ∀ (kvs : List (PV × PV)) (l : List DictEntry), All2 (EntR w h ρ) kvs l → (∀ p ∈ kvs, ∃ k, p.1 = enc k) →
      ∃ xs : List (K × Value), All2 (KV enc h ρ) kvs xs ∧ Pairs knd l xs ∧ ∀ e ∈ l, ∃ k, knd.is k e.key = true ∧ e.hash = knd.hash k := by
    intro kvs
    induction kvs with
    | nil => intro l hr _; cases l with
      | nil => exact ⟨[], trivial, .nil, fun _ q => nomatch q⟩
      | cons => exact hr.elim
    | cons p kvs ih => intro l hr hk; cases l with
      | nil => exact hr.elim
      | cons e l =>
        obtain ⟨xs, h1, h2, h3⟩ := ih l hr.2 fun q hq => hk q (.tail _ hq)
        obtain ⟨k, hp⟩ := hk p (.head _)
        have r := hr.1
        have r1 : VR h ρ (enc k) e.key := hp ▸ r.1
        refine ⟨(k, e.val) :: xs, ⟨⟨hp, r.2.1⟩, h1⟩, .cons (N.vr r1) rfl h2, fun x hx => ?_⟩
        rcases List.mem_cons.mp hx with rfl | hx
        · exact ⟨k, N.vr r1, by rw [r.2.2, hp, N.hash]⟩
        · exact h3 x hx
  obtain ⟨xs, h1, h2, h3⟩ := key kvs es.toList hr hk
  refine ⟨xs, h1, _, es, n, e, ⟨rfl, rfl, rfl⟩, rfl, fun x hx => h3 x (Array.mem_toList_iff.mpr hx), h2, ?_⟩
  rw [kv_keys h1] at hn
  have : (xs.map fun x => enc x.1) = (xs.map (·.1)).map enc := by rw [List.map_map]; rfl
  rw [this] at hn
  rw [List.Nodup, List.pairwise_map] at hn
  exact hn.imp fun {a b} hab q => hab (by rw [q])
theorem dict_from (N : Enc knd enc) {a : Addr} {kvs : List (PV × PV)} {xs : List (K × Value)} (D : h.DictOf knd a xs) (hr : All2 (KV enc h ρ) kvs xs) (hz : kvs.length ≤ 1000) {AT} : ORel w AT h ρ (a, a) (.dict kvs) := by
  obtain ⟨⟨c, d, dt, sl⟩, es, ep, e, ⟨hc, hd, hs⟩, hdt, hk, hp, hn⟩ := D
  dsimp only at hc hd hs hdt
  subst hc hd hs hdt
  refine ⟨rfl, hz, es, ep, e, ?_, ?_⟩
  · have key : ∀ (kvs : List (PV × PV)) (l : List DictEntry) (xs : List (K × Value)), All2 (KV enc h ρ) kvs xs → Pairs knd l xs → (∀ e ∈ l, ∃ k, knd.is k e.key = true ∧ e.hash = knd.hash k) → All2 (EntR w h ρ) kvs l := by
      intro kvs
      induction kvs with
      | nil => intro l xs hr hp _; cases xs with
        | nil => cases hp; trivial
        | cons => exact hr.elim
      | cons p kvs ih => intro l xs hr hp hk; cases xs with
        | nil => exact hr.elim
        | cons x xs =>
          cases hp with
          | @cons e _ l _ i1 i2 i3 =>
            refine ⟨⟨hr.1.1 ▸ N.rv i1, i2 ▸ hr.1.2, ?_⟩, ih l xs hr.2 i3 fun e he => hk e (.tail _ he)⟩
            obtain ⟨k, k1, k2⟩ := hk e (.head _)
            rw [k2, hr.1.1, N.hash, knd.inj _ _ _ k1 i1]
    exact key kvs es.toList xs hr hp fun e he => hk e (Array.mem_toList_iff.mp he)
  · rw [kv_keys hr]
    have : (xs.map fun x => enc x.1) = (xs.map (·.1)).map enc := by rw [List.map_map]; rfl
    rw [this]
    rw [List.Nodup, List.pairwise_map]
    exact hn.imp fun {a b} hab q => hab (N.inj _ _ q)

set_option tactic.hygienic true in
theorem kv_get (N : Enc knd enc) {kvs : List (PV × PV)} {xs : List (K × Value)} (hr : All2 (KV enc h ρ) kvs xs) (k : K) :
    (dget (enc k) kvs = none ∧ valueAt xs k = none) ∨ ∃ pv v, dget (enc k) kvs = some pv ∧ valueAt xs k = some v ∧ VR h ρ pv v := by
  have := hr.find (p := fun p => decide (p.1 = enc k)) (q := fun x => decide (x.1 = k)) (fun p x r => by
    rw [Bool.eq_iff_iff]
    simp only [decide_eq_true_eq]
    rw [r.1]
    exact ⟨fun e => N.inj _ _ e, fun e => by rw [e]⟩)
  unfold dget valueAt
  split at this
  · rename_i a b e1 e2
    rw [e1, e2]; exact .inr ⟨_, _, rfl, rfl, this.2⟩
  · rename_i e1 e2
    rw [e1, e2]; exact .inl ⟨rfl, rfl⟩
  · exact this.elim
theorem kv_put (N : Enc knd enc) {kvs : List (PV × PV)} {xs : List (K × Value)} (hr : All2 (KV enc h ρ) kvs xs) (k : K) {pv : PV} {v : Value} (V : VR h ρ pv v) :
    All2 (KV enc h ρ) (dput (enc k) pv kvs) (stored xs k v) := by
  have he : (xs.any fun kv => decide (kv.1 = k)) = (dget (enc k) kvs).isSome := by
    rw [← valueAt_isSome_eq_any]
    rcases kv_get N hr k with ⟨a, b⟩ | ⟨_, _, a, b, _⟩ <;> rw [a, b] <;> rfl
  unfold dput stored
  rw [he]
  cases (dget (enc k) kvs).isSome with
  | true =>
    simp only [if_true]
    have key : ∀ (kvs : List (PV × PV)) (xs : List (K × Value)), All2 (KV enc h ρ) kvs xs →
        All2 (KV enc h ρ) (kvs.map fun p => if p.1 = enc k then (p.1, pv) else p) (xs.map fun kv => if kv.1 = k then (kv.1, v) else kv) := by
      intro kvs
      induction kvs with
      | nil => intro xs hr; cases xs with
        | nil => trivial
        | cons => exact hr.elim
      | cons p kvs ih => intro xs hr; cases xs with
        | nil => exact hr.elim
        | cons x xs =>
          refine ⟨?_, ih xs hr.2⟩
          dsimp only
          by_cases hx : x.1 = k
          · rw [if_pos hx, if_pos (by rw [hr.1.1, hx])]; exact ⟨hr.1.1, V⟩
          · rw [if_neg hx, if_neg (by rw [hr.1.1]; exact fun e => hx (N.inj _ _ e))]; exact hr.1
    exact key kvs xs hr
  | false => exact hr.append ⟨⟨rfl, V⟩, trivial⟩
end kk
end
section
open PySem PySem.W PyProof.Rows PySem.SeqAt

section hh
variable {prog : Program} {w : World} {ρ : Rho} {h : Heap}
abbrev tk (prog : Program) (w : World) : HeapKind prog w (List Int) := tupleKind (PySem.intKind prog w)
noncomputable def encT (k : List Int) : PV := .tup (k.map .int)
noncomputable def KVH (h : Heap) (ρ : Rho) (p : PV × PV) (x : List Int × Addr × Value) : Prop := (∃ i j, x.1 = [i, j] ∧ p.1 = .tup [.int i, .int j]) ∧ VR h ρ p.1 (.ref x.2.1) ∧ VR h ρ p.2 x.2.2

theorem encT_inj : ∀ {a b : List Int}, encT a = encT b → a = b := by
  intro a b e
  have key : ∀ (a b : List Int), a.map PV.int = b.map PV.int → a = b := by
    intro a
    induction a with
    | nil => intro b e; cases b with
      | nil => rfl
      | cons => cases e
    | cons x a ih => intro b e; cases b with
      | nil => cases e
      | cons y b =>
        rw [List.map_cons, List.map_cons] at e
        injection e with e1 e2
        injection e1 with e1
        rw [e1, ih b e2]
  unfold encT at e
  injection e with e
  exact key a b e

theorem is_pair {i j : Int} {a : Addr} (V : VR h ρ (.tup [.int i, .int j]) (.ref a)) : (tk prog w).is h [i, j] a := by
  obtain ⟨a', its, n, e, hg, hv, _⟩ := V.tup_inv
  injection e with e; subst e
  refine ⟨_, its, n, hg, rfl, rfl, ?_⟩
  match hl : its.toList, hv with
  | [x, y], hv =>
    obtain ⟨t, rfl⟩ := hv.1.int_inv
    obtain ⟨u, rfl⟩ := hv.2.1.int_inv
    exact .cons (by simp [PySem.intKind, Value.isInt]) (.cons (by simp [PySem.intKind, Value.isInt]) .nil)

theorem kvh_keys : ∀ {kvs : List (PV × PV)} {xs : List (List Int × Addr × Value)}, All2 (KVH h ρ) kvs xs → kvs.map (·.1) = xs.map fun x => encT x.1
  | [], [], _ => rfl
  | _ :: _, _ :: _, r => by
    obtain ⟨i, j, e1, e2⟩ := r.1.1
    rw [List.map_cons, List.map_cons, kvh_keys r.2, e1, e2]; rfl
  | [], _ :: _, r => r.elim
  | _ :: _, [], r => r.elim

theorem dictH_to {a : Addr} {es : Array DictEntry} {n : Nat} {kvs : List (PV × PV)} (e : h.get? a = some (dctObj es n)) (hr : All2 (EntR w h ρ) kvs es.toList)
    (hn : (kvs.map (·.1)).Nodup) (hk : ∀ p ∈ kvs, ∃ i j, p.1 = .tup [.int i, .int j]) : ∃ xs, All2 (KVH h ρ) kvs xs ∧ h.DictOfH (tk prog w) a xs := by
  have key : ∀ (kvs : List (PV × PV)) (l : List DictEntry), All2 (EntR w h ρ) kvs l → (∀ p ∈ kvs, ∃ i j, p.1 = .tup [.int i, .int j]) →
      ∃ xs, All2 (KVH h ρ) kvs xs ∧ l = xs.map (entryOfKey (tk prog w)) ∧ ∀ x ∈ xs, (tk prog w).is h x.1 x.2.1 := by
    intro kvs
    induction kvs with
    | nil => intro l hr _; cases l with
      | nil => exact ⟨[], trivial, rfl, fun _ q => nomatch q⟩
      | cons => exact hr.elim
    | cons p kvs ih => intro l hr hk; cases l with
      | nil => exact hr.elim
      | cons e l =>
        obtain ⟨xs, h1, h2, h3⟩ := ih l hr.2 fun q hq => hk q (.tail _ hq)
        obtain ⟨i, j, hp⟩ := hk p (.head _)
        have r := hr.1
        have r1 := r.1
        obtain ⟨b, its, m, eb, _, _⟩ := (hp ▸ r1 : VR h ρ (.tup [.int i, .int j]) e.key).tup_inv
        rw [eb] at r1
        obtain ⟨hs, ky, vl⟩ := e
        dsimp only at eb r
        subst eb
        refine ⟨([i, j], b, vl) :: xs, ⟨⟨⟨i, j, rfl, hp⟩, r1, r.2.1⟩, h1⟩, ?_, fun x hx => ?_⟩
        · rw [List.map_cons, h2]
          have := r.2.2
          rw [hp] at this
          dsimp only at this
          rw [this]; rfl
        · rcases List.mem_cons.mp hx with rfl | hx
          · exact is_pair (hp ▸ r1)
          · exact h3 x hx
  obtain ⟨xs, h1, h2, h3⟩ := key kvs es.toList hr hk
  refine ⟨xs, h1, _, es, n, e, ⟨rfl, rfl, rfl⟩, rfl, h2, h3, ?_⟩
  rw [kvh_keys h1] at hn
  have : (xs.map fun x => encT x.1) = (xs.map (·.1)).map encT := by rw [List.map_map]; rfl
  rw [this, List.Nodup, List.pairwise_map] at hn
  exact hn.imp fun {a b} hab q => hab (by rw [q])
theorem dictH_from {a : Addr} {kvs : List (PV × PV)} {xs : List (List Int × Addr × Value)} (D : h.DictOfH (tk prog w) a xs) (hr : All2 (KVH h ρ) kvs xs) (hz : kvs.length ≤ 1000) {AT} : ORel w AT h ρ (a, a) (.dict kvs) := by
  obtain ⟨⟨c, d, dt, sl⟩, es, ep, e, ⟨hc, hd, hs⟩, hdt, hp, hi, hn⟩ := D
  dsimp only at hc hd hs hdt
  subst hc hd hs hdt
  refine ⟨rfl, hz, es, ep, e, ?_, ?_⟩
  · rw [hp]
    have key : ∀ (kvs : List (PV × PV)) (xs : List (List Int × Addr × Value)), All2 (KVH h ρ) kvs xs → All2 (EntR w h ρ) kvs (xs.map (entryOfKey (tk prog w))) := by
      intro kvs
      induction kvs with
      | nil => intro xs hr; cases xs with
        | nil => trivial
        | cons => exact hr.elim
      | cons p kvs ih => intro xs hr; cases xs with
        | nil => exact hr.elim
        | cons x xs =>
          obtain ⟨i, j, e1, e2⟩ := hr.1.1
          refine ⟨⟨hr.1.2.1, hr.1.2.2, ?_⟩, ih xs hr.2⟩
          rw [e2]
          show (tk prog w).hash x.1 = _
          rw [e1]; rfl
    exact key kvs xs hr
  · rw [kvh_keys hr]
    have : (xs.map fun x => encT x.1) = (xs.map (·.1)).map encT := by rw [List.map_map]; rfl
    rw [this, List.Nodup, List.pairwise_map]
    exact hn.imp fun {a b} hab q => hab (encT_inj q)

set_option tactic.hygienic true in
theorem kvh_get {kvs : List (PV × PV)} {xs : List (List Int × Addr × Value)} (hr : All2 (KVH h ρ) kvs xs) (i j : Int) :
    (dget (.tup [.int i, .int j]) kvs = none ∧ atKey xs [i, j] = none) ∨ ∃ pv p, dget (.tup [.int i, .int j]) kvs = some pv ∧ atKey xs [i, j] = some p ∧ VR h ρ pv p.2 := by
  have := hr.find (p := fun p => decide (p.1 = .tup [.int i, .int j])) (q := fun x => decide (x.1 = [i, j])) (fun p x r => by
    obtain ⟨i', j', e1, e2⟩ := r.1
    rw [e1, e2, Bool.eq_iff_iff]
    simp)
  unfold dget atKey
  split at this
  · rename_i a b e1 e2
    rw [e1, e2]; exact .inr ⟨_, _, rfl, rfl, this.2.2⟩
  · rename_i e1 e2
    rw [e1, e2]; exact .inl ⟨rfl, rfl⟩
  · exact this.elim
theorem kvh_put {kvs : List (PV × PV)} {xs : List (List Int × Addr × Value)} (hr : All2 (KVH h ρ) kvs xs) {i j : Int} {a : Addr} (Vk : VR h ρ (.tup [.int i, .int j]) (.ref a)) {pv : PV} {v : Value} (V : VR h ρ pv v) :
    All2 (KVH h ρ) (dput (.tup [.int i, .int j]) pv kvs) (storedH xs [i, j] a v) := by
  have he : (atKey xs [i, j]).isSome = (dget (.tup [.int i, .int j]) kvs).isSome := by
    rcases kvh_get hr i j with ⟨a, b⟩ | ⟨_, _, a, b, _⟩ <;> rw [a, b] <;> rfl
  unfold dput storedH
  rw [he]
  cases (dget (.tup [.int i, .int j]) kvs).isSome with
  | true =>
    simp only [if_true]
    have key : ∀ (kvs : List (PV × PV)) (xs : List (List Int × Addr × Value)), All2 (KVH h ρ) kvs xs →
        All2 (KVH h ρ) (kvs.map fun p => if p.1 = .tup [.int i, .int j] then (p.1, pv) else p) (xs.map (putAt [i, j] v)) := by
      intro kvs
      induction kvs with
      | nil => intro xs hr; cases xs with
        | nil => trivial
        | cons => exact hr.elim
      | cons p kvs ih => intro xs hr; cases xs with
        | nil => exact hr.elim
        | cons x xs =>
          refine ⟨?_, ih xs hr.2⟩
          obtain ⟨i', j', e1, e2⟩ := hr.1.1
          unfold putAt
          dsimp only
          by_cases hx : x.1 = [i, j]
          · have hp : p.1 = .tup [.int i, .int j] := by
              rw [e2]; rw [e1] at hx; injection hx with a1 a2; injection a2 with a2; rw [a1, a2]
            rw [if_pos hx, if_pos hp]; exact ⟨hr.1.1, hr.1.2.1, V⟩
          · have hp : ¬ p.1 = .tup [.int i, .int j] := by
              rw [e2]; rw [e1] at hx; intro q; apply hx; injection q with q; injection q with q1 q2; injection q2 with q2; injection q1 with q1; injection q2 with q2; rw [q1, q2]
            rw [if_neg hx, if_neg hp]; exact hr.1
    exact key kvs xs hr
  | false => exact hr.append ⟨⟨⟨i, j, rfl, rfl⟩, Vk, V⟩, trivial⟩
end hh
end
section
open PySem PySem.W PyProof.Rows PySem.SeqAt

theorem eqv_func {h : Heap} {ρ : Rho} : ∀ (n : Nat) {x y z : PV} {v : Value} {b c : Bool}, VR h ρ x v → VR h ρ y v → eqv n x z = some b → eqv n y z = some c → b = c := by
  intro n
  induction n with
  | zero => exact fun _ _ e => nos e
  | succ n ih =>
    intro x y z v b c hx hy e e'
    cases hx with
    | none => exact nos e
    | bool => exact nos e
    | obj => exact nos e
    | int => cases hy; rw [e] at e'; exact Option.some.inj e'
    | str => cases hy; rw [e] at e'; exact Option.some.inj e'
    | tup ha ka _ =>
      cases hy with
      | obj => exact nos e'
      | tup hb kb _ =>
        rw [ha] at hb
        cases hb
        cases z with
        | none => exact nos e
        | bool => exact nos e
        | obj => exact nos e
        | int => exact (show false = b from Option.some.inj e).symm.trans (Option.some.inj e')
        | str => exact (show false = b from Option.some.inj e).symm.trans (Option.some.inj e')
        | tup zs =>
          obtain ⟨f, rfl, hf⟩ := eqL_all e
          obtain ⟨f', rfl, hf'⟩ := eqL_all e'
          have l1 := ka.all.length
          have l2 := kb.all.length
          rw [l1, l2]
          congr 1
          rw [Bool.eq_iff_iff, List.all_eq_true, List.all_eq_true]
          have : ∀ j ∈ List.range (min _ zs.length), f j = f' j := fun j hj => by
            rw [List.mem_range] at hj
            have h1 : j < _ := Nat.lt_of_lt_of_le hj (Nat.min_le_left _ _)
            have h2 : j < zs.length := Nat.lt_of_lt_of_le hj (Nat.min_le_right _ _)
            obtain ⟨x', ex, rx⟩ := ka.all.get' (List.getElem?_eq_getElem h1)
            obtain ⟨y', ey, ry⟩ := kb.all.get' (List.getElem?_eq_getElem h1)
            exact ih rx ry (hf j _ _ ex (List.getElem?_eq_getElem h2)) (hf' j _ _ ey (List.getElem?_eq_getElem h2))
          exact ⟨fun a j hj => (this j hj) ▸ a j hj, fun a j hj => (this j hj).symm ▸ a j hj⟩

section
variable {prog : Program} {w : World} {A : Around} {g : Glb} {ρ : Rho} {σ : St} {s : Shared} {Q : PV → St → Prop} {n : Nat}

noncomputable def hit (h : Heap) (ρ : Rho) (ys : List PV) (x : PV) (v : Value) : Bool := by
  classical exact decide (∃ y ∈ ys, VR h ρ y v ∧ eqv eqDepth y x = some true)
theorem anyL_all {x : PV} {f : PV → Option Bool} : ∀ {ys : List PV} {b : Bool}, anyL f ys = some b → (∀ y ∈ ys, ∃ c, f y = some c) ∧ (b = true ↔ ∃ y ∈ ys, f y = some true)
  | [], b, e => by cases e; simp
  | y :: ys, b, e => by
    replace e : (match f y with | some a => (match anyL f ys with | some b => some (a || b) | none => none) | none => none) = some b := e
    cases ha : f y with
    | none => rw [ha] at e; exact nos e
    | some a =>
    cases hc : anyL f ys with
    | none => rw [ha, hc] at e; exact nos e
    | some c =>
      rw [ha, hc] at e
      cases e
      obtain ⟨h1, h2⟩ := anyL_all (x := x) hc
      refine ⟨fun z hz => ?_, ?_⟩
      · rcases List.mem_cons.mp hz with rfl | hz
        · exact ⟨a, ha⟩
        · exact h1 z hz
      · rw [Bool.or_eq_true, h2]
        constructor
        · rintro (rfl | ⟨z, hz, e⟩)
          · exact ⟨y, .head _, ha⟩
          · exact ⟨z, .tail _ hz, e⟩
        · rintro ⟨z, hz, e⟩
          rcases List.mem_cons.mp hz with rfl | hz
          · rw [ha] at e; exact .inl (Option.some.inj e)
          · exact .inr ⟨z, hz, e⟩

theorem hits {ys : List PV} {vs : List Value} {x : PV} {v : Value} {b : Bool} (V : All2 (VR s.heap ρ) ys vs) (Vx : VR s.heap ρ x v) (hu : A.units + eqDepth < cLine)
    (e : anyL (fun y => eqv eqDepth y x) ys = some b) : (∀ u ∈ vs, EqAt A s u v (hit s.heap ρ ys x u)) ∧ vs.any (hit s.heap ρ ys x) = b := by
  classical
  obtain ⟨h1, h2⟩ := anyL_all (x := x) e
  have key : ∀ (i : Nat) y u, ys[i]? = some y → vs[i]? = some u → VR s.heap ρ y u → eqv eqDepth y x = some (hit s.heap ρ ys x u) := fun i y u ey eu r => by
    obtain ⟨c, hc⟩ := h1 y (List.mem_of_getElem? ey)
    rw [hc]
    unfold hit
    cases c with
    | true => rw [decide_eq_true]; exact ⟨y, List.mem_of_getElem? ey, r, hc⟩
    | false =>
      rw [decide_eq_false]
      rintro ⟨z, hz, rz, ez⟩
      exact absurd (eqv_func _ r rz hc ez) (by decide)
  refine ⟨fun u hu' => ?_, ?_⟩
  · obtain ⟨i, hi, rfl⟩ := List.mem_iff_getElem.mp hu'
    obtain ⟨y, ey, r⟩ := V.get' (List.getElem?_eq_getElem hi)
    exact (eqv_at eqDepth (key i y _ ey (List.getElem?_eq_getElem hi) r) r Vx hu).2.2
  · rw [Bool.eq_iff_iff, List.any_eq_true, h2]
    constructor
    · rintro ⟨u, hu', hh⟩
      obtain ⟨i, hi, rfl⟩ := List.mem_iff_getElem.mp hu'
      obtain ⟨y, ey, r⟩ := V.get' (List.getElem?_eq_getElem hi)
      exact ⟨y, List.mem_of_getElem? ey, by rw [key i y _ ey (List.getElem?_eq_getElem hi) r, hh]⟩
    · rintro ⟨y, hy, ey⟩
      obtain ⟨i, hi, rfl⟩ := List.mem_iff_getElem.mp hy
      obtain ⟨u, eu, r⟩ := V.get (List.getElem?_eq_getElem hi)
      refine ⟨u, List.mem_of_getElem? eu, ?_⟩
      have := key i _ u (List.getElem?_eq_getElem hi) eu r
      rw [ey] at this; exact (Option.some.inj this).symm

theorem Room.eqd {n A} (x : Room n A) : A.units + eqDepth + 2 < cLine := by have := x.un; unfold eqDepth; (first | lia | omega)
theorem isStrV_inv {p : PV} (h : isStrV p = true) : ∃ k', p = .str k' := by cases p <;> first | exact ⟨_, rfl⟩ | exact noB h
theorem isIntV_inv {p : PV} (h : isIntV p = true) : ∃ k', p = .int k' := by cases p <;> first | exact ⟨_, rfl⟩ | exact noB h
theorem isPairL_inv {l : List PV} (h : isPairL l = true) : ∃ i j, l = [.int i, .int j] := by
  match l, h with
  | [a, b], h =>
    obtain ⟨h1, h2⟩ := Bool.and_eq_true_iff.mp (show (isIntV a && isIntV b) = true from h)
    obtain ⟨i, rfl⟩ := isIntV_inv h1
    obtain ⟨j, rfl⟩ := isIntV_inv h2
    exact ⟨i, j, rfl⟩
theorem isPairV_inv {p : PV} (h : isPairV p = true) : ∃ i j, p = .tup [.int i, .int j] := by
  cases p with
  | tup l => obtain ⟨i, j, rfl⟩ := isPairL_inv h; exact ⟨i, j, rfl⟩
  | _ => exact noB h
theorem pair_key {l : List PV} {p : PV} (h : keyLike (.tup l) p = true) : isPairL l = true ∧ isPairV p = true := Bool.and_eq_true_iff.mp h
theorem keysLike_inv {k : PV} {kvs : List (PV × PV)} (h : keysLike k kvs = true) : keyLike k k = true ∧ ∀ p ∈ kvs, keyLike k p.1 = true := by
  unfold keysLike at h
  rw [Bool.and_eq_true, List.all_eq_true] at h
  exact h
theorem not_mods {g ρ σ h} (R : Rel g ρ σ h) {k : Nat} {p : Addr × Addr} (e : ρ[k]? = some p) : (p.2 == sysModules) = false := by
  rw [beq_eq_false_iff_ne]
  exact R.mods p (List.mem_of_getElem? e)

theorem in_enc {K : Type} [DecidableEq K] {knd : PySem.KeyKind prog g.w K} {enc : K → PV} (N : Enc knd enc) {k : Nat} {kvs : List (PV × PV)} {x : K} {v d : Value} (R : Rel g ρ σ s.heap) (ek : σ[k]? = some (.dict kvs)) (Vd : VR s.heap ρ (.obj k) d)
    (Vx : VR s.heap ρ (enc x) v) (hk : ∀ p ∈ kvs, ∃ k, p.1 = enc k) {P : Value → Shared → Prop} :
    ((∀ t, P (.bool (dget (enc x) kvs).isSome) { s with toks := t }) → wpAny (model prog g.w) A (compareOp .In v d) P NoE s) ∧
    ((∀ t, P (.bool (!(dget (enc x) kvs).isSome)) { s with toks := t }) → wpAny (model prog g.w) A (compareOp .NotIn v d) P NoE s) := by
  obtain ⟨a, es, m, rfl, er, hg, hr, hn, _⟩ := Vd.dict_inv R ek
  have hm : (a == sysModules) = false := not_mods R er
  obtain ⟨xs, hx, D⟩ := dict_to N hg hr hn hk
  have e : (valueAt xs x).isSome = (dget (enc x) kvs).isSome := by rcases kv_get N hx x with ⟨a, b⟩ | ⟨_, _, a, b, _⟩ <;> rw [a, b] <;> rfl
  rw [← e]
  exact ⟨fun q => wpAny_in_of (N.vr Vx) hm D.mapOf (q _), fun q => wpAny_notIn_of (N.vr Vx) hm D.mapOf (q _)⟩
theorem inDict_sound (H : Room n A) {k : Nat} {kvs : List (PV × PV)} {x : PV} {v d : Value} (R : Rel g ρ σ s.heap) (ek : σ[k]? = some (.dict kvs)) (Vd : VR s.heap ρ (.obj k) d) (Vx : VR s.heap ρ x v)
    (hk : keysLike x kvs = true) (hw : g.w = w) {P : Value → Shared → Prop} :
    ((∀ t, P (.bool (dget x kvs).isSome) { s with toks := t }) → wpAny (model prog w) A (compareOp .In v d) P NoE s) ∧
    ((∀ t, P (.bool (!(dget x kvs).isSome)) { s with toks := t }) → wpAny (model prog w) A (compareOp .NotIn v d) P NoE s) := by
  subst hw
  obtain ⟨h1, h2⟩ := keysLike_inv hk
  cases x with
  | str x => exact in_enc encStr R ek Vd Vx fun p hp => isStrV_inv (h2 p hp)
  | int x => exact in_enc encInt R ek Vd Vx fun p hp => isIntV_inv (h2 p hp)
  | tup x =>
    obtain ⟨i, j, rfl⟩ := isPairL_inv (pair_key h1).1
    obtain ⟨a, es, m, rfl, er, hg, hr, hn, _⟩ := Vd.dict_inv R ek
    obtain ⟨b, its, m', rfl, _⟩ := Vx.tup_inv
    obtain ⟨xs, hx, D⟩ := dictH_to (prog := prog) hg hr hn fun p hp => isPairV_inv (pair_key (h2 p hp)).2
    have e : (atKey xs [i, j]).isSome = (dget (.tup [.int i, .int j]) kvs).isSome := by rcases kvh_get hx i j with ⟨a, b⟩ | ⟨_, _, a, b, _⟩ <;> rw [a, b] <;> rfl
    have hroom : (tk prog g.w).room A.in1 := by show A.units + 1 < cLine; have := H.eqd; (first | lia | omega)
    rw [← e]
    exact ⟨fun q => wpAny_in_heap hroom (is_pair Vx) (not_mods R er) D (q _), fun q => wpAny_notIn_heap hroom (is_pair Vx) (not_mods R er) D (q _)⟩
  | _ => exact noB h1

theorem eqL_sound (H : Room n A) {xs ys : List PV} {l1 l2 : Addr} {i1 i2 : Array Value} {n1 n2 : Nat} {r : Bool} (g1 : s.heap.get? l1 = some (lstObj i1 n1)) (g2 : s.heap.get? l2 = some (lstObj i2 n2)) (v1 : All2 (VR s.heap ρ) xs i1.toList) (v2 : All2 (VR s.heap ρ) ys i2.toList)
    (h : eqLs xs ys = some r) : RcAt A s (.ref l1) (.ref l2) r ∧ RcNeAt A s (.ref l1) (.ref l2) (!r) := by
  have hu := H.eqd
  have hu0 : A.units < cLine := Nat.lt_of_le_of_lt (Nat.le_trans (Nat.le_add_right _ eqDepth) (Nat.le_add_right _ 2)) hu
  have z1 := size_of v1
  have z2 := size_of v2
  unfold eqLs at h
  by_cases hl : xs.length = ys.length
  · rw [if_pos hl] at h
    obtain ⟨f, rfl, hf⟩ := eqL_all h
    have he : ∀ j (h1 : j < i1.size) (h2 : j < i2.size), EqAt A.in1 s i1[j] i2[j] (f j) := fun j h1 h2 => by
      obtain ⟨x', ex, rx⟩ := v1.get' (i := j) (y := i1[j]) (by simp [h1])
      obtain ⟨y', ey, ry⟩ := v2.get' (i := j) (y := i2[j]) (by simp [h2])
      exact (eqv_at eqDepth (hf j _ _ ex ey) rx ry (by show A.units + 1 + eqDepth < cLine; (first | lia | omega))).2.2
    have hsz : i1.size = i2.size := z1.symm.trans (hl.trans z2)
    have e0 : ((List.range (min xs.length ys.length)).all f && xs.length == ys.length) = (List.range i1.size).all f := by
      rw [hl, Nat.min_self, z2, ← hsz, BEq.rfl, Bool.and_true]
    rw [e0]
    exact ⟨RcAt.lists (isList_of g1) (isList_of g2) hsz hu0 he, RcNeAt.lists (isList_of g1) (isList_of g2) hsz hu0 he⟩
  · rw [if_neg hl] at h
    cases h
    have hsz : (i1.size != i2.size) = true := by rw [bne_iff_ne, ← z1, ← z2]; exact hl
    exact ⟨RcAt.lists_lengths (isList_of g1) (isList_of g2) hsz hu0, RcNeAt.lists_lengths (isList_of g1) (isList_of g2) hsz hu0⟩
theorem eqS_sound (H : Room n A) {a b : PV} {x y : Value} {r : Bool} (R : Rel g ρ σ s.heap) (Va : VR s.heap ρ a x) (Vb : VR s.heap ρ b y) (h : eqS σ a b = some r) : RcAt A s x y r ∧ RcNeAt A s x y (!r) := by
  have plain : eqv eqDepth a b = some r → RcAt A s x y r ∧ RcNeAt A s x y (!r) := fun h =>
    ⟨(eqv_at eqDepth h Va Vb (Nat.lt_of_le_of_lt (Nat.le_add_right _ 2) H.eqd)).1, (eqv_at eqDepth h Va Vb (Nat.lt_of_le_of_lt (Nat.le_add_right _ 2) H.eqd)).2.1⟩
  cases a with
  | obj i =>
    cases b with
    | obj j =>
      obtain ⟨xs, e1, h⟩ := Option.bind_eq_some_iff.mp h
      obtain ⟨ys, e2, h⟩ := Option.bind_eq_some_iff.mp h
      obtain ⟨l1, i1, n1, rfl, _, g1, v1, _⟩ := Va.list_inv R (lst_inv e1)
      obtain ⟨l2, i2, n2, rfl, _, g2, v2, _⟩ := Vb.list_inv R (lst_inv e2)
      exact eqL_sound H g1 g2 v1 v2 h
    | _ => exact nos h
  | _ => exact plain h

theorem in_sound (H : Room n A) {x c : PV} {v d : Value} {r : Bool} (hw : g.w = w) (R : Rel g ρ σ s.heap) (Vx : VR s.heap ρ x v) (Vc : VR s.heap ρ c d) (h : inS σ x c = some r) {P : Value → Shared → Prop} :
    ((∀ t, P (.bool r) { s with toks := t }) → wpAny (model prog w) A (compareOp .In v d) P NoE s) ∧ ((∀ t, P (.bool (!r)) { s with toks := t }) → wpAny (model prog w) A (compareOp .NotIn v d) P NoE s) := by
  have hu : A.in1.units + eqDepth < cLine := by show A.units + 1 + eqDepth < cLine; have := H.eqd; (first | lia | omega)
  cases c with
  | tup ys =>
    obtain ⟨l, its, m, rfl, hg, hv, _⟩ := Vc.tup_inv
    obtain ⟨a, b⟩ := hits hv Vx hu h
    have e : its.any (hit s.heap ρ ys x) = r := by rw [← b, Array.any_toList]
    exact ⟨fun q => in_tupleAt _ (isTuple_of hg) (fun y hy => a y (Array.mem_toList_iff.mpr hy)) (by rw [e]; exact q s.toks),
      fun q => notIn_tupleAt _ (isTuple_of hg) (fun y hy => a y (Array.mem_toList_iff.mpr hy)) (by rw [e]; exact q s.toks)⟩
  | obj k =>
    obtain ⟨o, e1, h⟩ := Option.bind_eq_some_iff.mp h
    cases o with
    | list ys =>
      obtain ⟨l, its, m, rfl, _, hg, hv, _⟩ := Vc.list_inv R e1
      obtain ⟨a, b⟩ := hits hv Vx hu h
      have e : its.any (hit s.heap ρ ys x) = r := by rw [← b, Array.any_toList]
      exact ⟨fun q => in_listAt _ (isList_of hg) (fun y hy => a y (Array.mem_toList_iff.mpr hy)) (by rw [e]; exact q s.toks),
        fun q => notIn_listAt _ (isList_of hg) (fun y hy => a y (Array.mem_toList_iff.mpr hy)) (by rw [e]; exact q s.toks)⟩
    | dict kvs =>
      replace h : (if keysLike x kvs then some (dget x kvs).isSome else none) = some r := h
      by_cases hk : keysLike x kvs = true
      · rw [if_pos hk] at h
        cases h
        exact inDict_sound H R e1 Vc Vx hk hw
      · rw [if_neg hk] at h; exact nos h
    | _ => exact nos h
  | _ => exact nos h

theorem cmp_sound (H : Room n A) {op : CmpOp} {p : Prim} (hp : cmpPrimC op = some p) {a b : PV} {x y : Value} (hw : g.w = w) (R : Rel g ρ σ s.heap) (Va : VR s.heap ρ a x) (Vb : VR s.heap ρ b y)
    (h : prim2 p a b σ Q) : wpAny (model prog w) A (compareOp op x y) (EP g ρ s Q) NoE s := by
  have non : (x == Value.none) = decide (a = .none) := by cases Va <;> simp
  cases op
  all_goals cases hp
  · obtain ⟨r, e, h⟩ := h
    exact (eqS_sound H R Va Vb e).1 _ _ _ _ (EP.here' R (.bool _) h)
  · obtain ⟨r, e, h⟩ := h
    exact (eqS_sound H R Va Vb e).2 _ _ _ _ (EP.here' R (.bool _) h)
  · obtain ⟨i, j, t, u, rfl, rfl, h⟩ := intB_two Va Vb h
    exact PySem.P.lt_int (EP.here' R (.bool _) h)
  · obtain ⟨i, j, t, u, rfl, rfl, h⟩ := intB_two Va Vb h
    exact PySem.P.le_int (EP.here' R (.bool _) h)
  · obtain ⟨i, j, t, u, rfl, rfl, h⟩ := intB_two Va Vb h
    exact PySem.P.gt_int (EP.here' R (.bool _) h)
  · obtain ⟨i, j, t, u, rfl, rfl, h⟩ := intB_two Va Vb h
    exact PySem.P.ge_int (EP.here' R (.bool _) h)
  · obtain ⟨rfl, h⟩ := h
    cases Vb.none_inv
    exact is_none_gen (EP.here' R (non ▸ .bool _) h)
  · obtain ⟨rfl, h⟩ := h
    cases Vb.none_inv
    exact isnot_none_gen (EP.here' R (non ▸ .bool _) h)
  · obtain ⟨r, e, h⟩ := h
    exact (in_sound H hw R Va Vb e).1 fun t => EP.here R (.bool _) h t
  · obtain ⟨r, e, h⟩ := h
    exact (in_sound H hw R Va Vb e).2 fun t => EP.here R (.bool _) h t
end
end
section
open PySem PySem.W PyProof.Rows PySem.SeqAt

theorem pyIdx_range {α : Type} {xs : List α} {k : Int} {x : α} (h : pyIdx xs k = some x) : -(xs.length : Int) ≤ k ∧ k < xs.length := by
  unfold pyIdx at h
  split at h
  · have hl := (List.getElem?_eq_some_iff.mp h).1; (first | lia | omega)
  · split at h
    · have hl := (List.getElem?_eq_some_iff.mp h).1; (first | lia | omega)
    · cases h
theorem pyIdx_seq {α : Type} {xs : List α} {k : Int} {x : α} (h : pyIdx xs k = some x) : ∃ j, seqIndex? k xs.length = some j ∧ xs[j]? = some x := by
  have hr := pyIdx_range h
  unfold pyIdx at h
  unfold seqIndex?
  by_cases h0 : 0 ≤ k
  · rw [if_pos h0] at h
    refine ⟨k.toNat, ?_, h⟩
    have h1 : ¬ k < 0 := by (first | lia | omega)
    have h2 : k < (xs.length : Int) := hr.2
    simp [h0, h1, h2]
  · rw [if_neg h0] at h
    have h1 : 0 ≤ k + (xs.length : Int) := by (first | lia | omega)
    rw [if_pos h1] at h
    refine ⟨(k + xs.length).toNat, ?_, h⟩
    have h2 : k < 0 := by (first | lia | omega)
    have h3 : k + (xs.length : Int) < xs.length := by (first | lia | omega)
    simp [h1, h2, h3]
theorem big63 : (big : Int) < 2 ^ 63 := by decide

section
variable {prog : Program} {w : World} {A : Around} {g : Glb} {ρ : Rho} {σ : St} {s : Shared} {Q : PV → St → Prop} {n : Nat}

theorem idx_tup {xs : List PV} {k : Int} {pv : PV} {l : Addr} {its : Array Value} {m : Nat} {t : Tok} {P : Value → Shared → Prop} (e : s.heap.get? l = some (tupObj its m)) (V : All2 (VR s.heap ρ) xs its.toList)
    (h : pyIdx xs k = some pv) (hb : xs.length ≤ big) (q : ∀ v, VR s.heap ρ pv v → P v s) : wpAny (model prog w) A (getItem (.ref l) (.int k t)) P NoE s := by
  obtain ⟨j, e1, e2⟩ := pyIdx_seq h
  have hr := pyIdx_range h
  have hz := big63
  have hb' : (xs.length : Int) ≤ big := by exact_mod_cast hb
  obtain ⟨v, ev, r⟩ := V.get e2
  have hl : xs.length = its.size := by have := V.length; simpa using this
  rw [hl] at e1
  refine PySem.P.getItem_tuple (k := j) e (by (first | lia | omega)) (by (first | lia | omega)) e1 (by simpa using ev) (q v r)
theorem idx_list {xs : List PV} {k : Int} {pv : PV} {l : Addr} {its : Array Value} {m : Nat} {t : Tok} {P : Value → Shared → Prop} (e : s.heap.get? l = some (lstObj its m)) (V : All2 (VR s.heap ρ) xs its.toList)
    (h : pyIdx xs k = some pv) (hb : xs.length ≤ big) (q : ∀ v, VR s.heap ρ pv v → P v s) : wpAny (model prog w) A (getItem (.ref l) (.int k t)) P NoE s := by
  have hr := pyIdx_range h
  have hz := big63
  have hb' : (xs.length : Int) ≤ big := by exact_mod_cast hb
  have hl : xs.length = its.size := by have := V.length; simpa using this
  unfold pyIdx at h
  split at h
  · obtain ⟨v, ev, r⟩ := V.get h
    exact wpAny_getItem_list (isList_of e) (by (first | lia | omega)) (by (first | lia | omega)) (by simpa using ev) (q v r)
  · split at h
    · obtain ⟨v, ev, r⟩ := V.get h
      rw [hl] at ev
      exact wpAny_getItem_list_neg (isList_of e) (by (first | lia | omega)) (by (first | lia | omega)) (by (first | lia | omega)) (by simpa using ev) (q v r)
    · cases h

noncomputable def SubT (s : Shared) (o : Value) : Prop := ∃ T id, s.TypeIs o T ∧ typeLookup (.type T) "__getitem__" = pure (some (.builtin id))

theorem getItem_sound {a b : PV} {x y : Value} (hw : g.w = w) (R : Rel g ρ σ s.heap) (Va : VR s.heap ρ a x) (Vb : VR s.heap ρ b y) (h : prim .idx [a, b] σ Q) :
    SubT s x ∧ wpAny (model prog w) A (getItem x y) (EP g ρ s Q) NoE s := by
  subst hw
  replace h : prim2 .idx a b σ Q := h
  rcases h with h | h
  · obtain ⟨xs, l, its, m, rfl, rfl, hg, hv, zb, k, rfl, v, e, h⟩ := tup_two Va h
    obtain ⟨u, rfl⟩ := Vb.int_inv
    exact ⟨⟨_, _, ⟨_, hg, rfl⟩, F.slot_tuple_getitem.lookup⟩, idx_tup hg hv e zb fun u r => EP.here' R r h⟩
  rcases h with h | h
  · obtain ⟨z, k, rfl, rfl, c, e, hb, h⟩ := h
    obtain ⟨t, rfl⟩ := Va.str_inv; obtain ⟨u, rfl⟩ := Vb.int_inv
    refine ⟨⟨_, _, typeIs_str s z t, F.slot_str_getitem.lookup⟩, ?_⟩
    obtain ⟨j, e1, e2⟩ := pyIdx_seq e
    have hr := pyIdx_range e
    have hz := big63
    rw [Array.length_toList] at hr
    have hb' : (z.cps.size : Int) ≤ big := by exact_mod_cast hb
    have hl : z.length = z.cps.toList.length := by simp [PySem.Str.length]
    refine PySem.P.getItem_str ?_ ?_ (EP.here R (.str _ _) h _)
    · simp only [Bool.or_eq_false_iff, decide_eq_false_iff_not]; (first | lia | omega)
    · rw [hl, e1]; simpa using e2
  rcases h with h | h
  · obtain ⟨i, xs, l, its, m, rfl, rfl, _, _, hg, hv, zb, k, rfl, v, e, h⟩ := lst_two R Va h
    obtain ⟨u, rfl⟩ := Vb.int_inv
    exact ⟨⟨_, _, ⟨_, hg, rfl⟩, F.slot_list_getitem.lookup⟩, idx_list hg hv e zb fun u r => EP.here' R r h⟩
  · obtain ⟨i, kvs, l, es, m, rfl, rfl, _, _, hg, hr, hn, _, k, rfl, v, e, hk, h⟩ := dct_two R Va h
    refine ⟨⟨_, _, ⟨_, hg, rfl⟩, F.slot_dict_getitem.lookup⟩, ?_⟩
    obtain ⟨h1, h2⟩ := keysLike_inv hk
    obtain ⟨xs, hx, D⟩ := dict_to (prog := prog) (knd := PySem.intKind prog g.w) encInt hg hr hn fun p hp => isIntV_inv (h2 p hp)
    rcases kv_get (encInt (prog := prog) (w := g.w)) hx k with ⟨q, _⟩ | ⟨pv, v', q1, q2, q3⟩
    · rw [q] at e; exact nos e
    · rw [q1] at e; cases e
      exact wpAny_getItem_of (encInt.vr Vb) D.mapOf q2 (EP.here R q3 h _)

end
section
variable {prog : Program} {w : World} {A : Around} {s : Shared} {E : Value → Shared → Prop}
theorem call_setitem_exact {l : Addr} {its : Array Value} {m j : Nat} {t : Tok} {k : Int} {v : Value} {P : Value → Shared → Prop} (e : s.heap.get? l = some (lstObj its m)) (hk : k = (j : Int)) (hj : j < its.size) (hf : Builtin.List.listFitsIndex k = true)
    (q : P .none { s with heap := s.heap.update l (Obj.mapSeq (·.setIfInBounds j v)) }) : wpAny (model prog w) A (call (.builtin "list.__setitem__") [.ref l, .int k t, v]) P E s := by
  have hT : s.TypeIs (.ref l) "list" := ⟨_, e, rfl⟩
  have hx : its[j]? = some its[j] := Array.getElem?_eq_getElem hj
  refine wpAny_call_entry PySem.slot_list_setitem hT PySem.entry_list_setitem ?_ (PySem.args_list_setitem _ _ _)
  show wpAny _ _ (Builtin.List.listSubscript? (.int k t) >>= _) _ _ s
  refine wpAny_bind (wpAny_listSubscript_int hf ?_)
  subst hk
  show wpAny _ _ ((seqItemAt l j >>= fun r => pure (r.map (j, ·))) >>= _) _ _ s
  refine wpAny_bind (wpAny_bind (wpAny_seqItemAt e rfl (wpAny_pure ?_)))
  rw [hx]
  show wpAny _ _ (setSeqItemAt l j v >>= _) _ _ s
  refine wpAny_bind (wpAny_setSeqItemAt e rfl ?_)
  first
    | exact wpAny_bind (wpAny_pure (wpAny_pure ⟨.none, rfl, q⟩))
    | exact wpAny_pure ⟨.none, rfl, q⟩
theorem setItem_exact {l : Addr} {its : Array Value} {m j : Nat} {t : Tok} {k : Int} {v : Value} {P : Unit → Shared → Prop} (e : s.heap.get? l = some (lstObj its m)) (hk : k = (j : Int)) (hj : j < its.size) (hf : Builtin.List.listFitsIndex k = true)
    (q : P () { s with heap := s.heap.update l (Obj.mapSeq (·.setIfInBounds j v)) }) : wpAny (model prog w) A (setItem (.ref l) (.int k t) v) P E s := by
  have hT : s.TypeIs (.ref l) "list" := ⟨_, e, rfl⟩
  unfold setItem
  try with_reducible refine wpAny_holding ?_
  refine wpAny_bind (wpAny_sequenceKey hT (by decide) ?_)
  refine wpAny_bind (wpAny_callSpecial?_slot (name := Str.ofString "__setitem__") hT PySem.slot_list_setitem (call_setitem_exact e hk hj hf ?_))
  exact wpAny_pure q

end
section
variable {prog : Program} {w : World} {A : Around} {g : Glb} {ρ : Rho} {σ : St} {s : Shared} {Q : PV → St → Prop} {n : Nat}
theorem mapSeq_lst {l : Addr} {h : Heap} {its : Array Value} {m : Nat} (e : h.get? l = some (lstObj its m)) (f : Array Value → Array Value) : ∃ m', (h.update l (Obj.mapSeq f)).get? l = some (lstObj (f its) m') :=
  ⟨_, Heap.get?_update_self _ e rfl⟩

theorem UP.list {k : Nat} {xs ys : List PV} {l : Addr} {its : Array Value} {m : Nat} {f : Array Value → Array Value} {Q : St → Prop} (R : Rel g ρ σ s.heap) (e1 : σ[k]? = some (.list xs)) (er : ρ[k]? = some (l, l))
    (hg : s.heap.get? l = some (lstObj its m)) (hv : All2 (VR s.heap ρ) ys (f its).toList) (hb : ys.length ≤ big) (q : Q (σ.set k (.list ys))) (t : Nat) : UP g ρ s Q { s with heap := s.heap.update l (Obj.mapSeq f), toks := t } := by
  obtain ⟨m', hg'⟩ := mapSeq_lst hg f
  have hs : Heap.SameBut (l, l).2 s.heap (s.heap.update l (Obj.mapSeq f)) := Heap.SameBut.update ..
  have S := Step.set er hs ⟨_, hg'⟩
  refine ⟨_, ρ, ⟨_, _, rfl⟩, S, R.set (o' := .list ys) e1 er hs ⟨rfl, hb, _, _, hg', hv.mono fun _ _ r => r.step R xok_nil S⟩, q⟩

theorem dput_len {i v : PV} {kvs : List (PV × PV)} (hz : kvs.length < 1000) : (dput i v kvs).length ≤ 1000 := by
  unfold dput
  split
  · rw [List.length_map]; exact Nat.le_of_lt hz
  · rw [List.length_append]; exact hz
theorem UP.dict {k : Nat} {kvs kvs' : List (PV × PV)} {l : Addr} {h' : Heap} {Q : St → Prop} (R : Rel g ρ σ s.heap) (e1 : σ[k]? = some (.dict kvs)) (er : ρ[k]? = some (l, l)) (q : Q (σ.set k (.dict kvs'))) (t : Nat)
    (hs : Heap.SameBut l s.heap h') (hlv : ∃ o, h'.get? l = some o) (ho : Step [] ρ s.heap ρ h' → ORel g.w g.AT h' ρ (l, l) (.dict kvs')) : UP g ρ s Q { s with heap := h', toks := t } :=
  have S : Step [] ρ s.heap ρ h' := Step.set er hs hlv
  ⟨_, ρ, ⟨_, _, rfl⟩, S, R.set e1 er hs (ho S), q⟩
theorem small_dict {kvs : List (PV × PV)} {c : Nat} (hz : kvs.length < 1000) (e : kvs.length = c) : c ≤ sizeLine := by have := big_le; unfold big at this; (first | lia | omega)
theorem set_enc {K : Type} [DecidableEq K] {knd : PySem.KeyKind prog g.w K} {enc : K → PV} (N : Enc knd enc) {k : Nat} {kvs : List (PV × PV)} {l : Addr} {es : Array DictEntry} {m : Nat} {i : K} {v : PV} {y z : Value} {Q : St → Prop} (R : Rel g ρ σ s.heap) (e1 : σ[k]? = some (.dict kvs)) (er : ρ[k]? = some (l, l))
    (hg : s.heap.get? l = some (dctObj es m)) (hr : All2 (EntR g.w s.heap ρ) kvs es.toList) (hn : (kvs.map (·.1)).Nodup) (Vi : VR s.heap ρ (enc i) y) (Vv : VR s.heap ρ v z) (hk : ∀ p ∈ kvs, ∃ k, p.1 = enc k) (hz : kvs.length < 1000) (h : Q (σ.set k (.dict (dput (enc i) v kvs)))) :
    wpAny (model prog g.w) A (setItem (.ref l) y z) (fun _ => UP g ρ s Q) NoE s := by
  obtain ⟨xs, hx, D⟩ := dict_to N hg hr hn hk
  refine wpAny_setItem_pairs (N.vr Vi) D (fun h' D' hs' => UP.dict R e1 er h _ hs' (let ⟨o, _, _, e, _⟩ := D'; ⟨o, e⟩) fun S => ?_) (small_dict hz hx.length)
  exact dict_from N D' ((kv_put N hx i Vv).mono fun _ _ r => ⟨r.1, r.2.step R xok_nil S⟩) (dput_len hz)
theorem setIdx_sound (H : Room n A) {o i v : PV} {x y z : Value} (hw : g.w = w) (R : Rel g ρ σ s.heap) (Vo : VR s.heap ρ o x) (Vi : VR s.heap ρ i y) (Vv : VR s.heap ρ v z) {Q : St → Prop} (h : setIdx o i v σ Q) :
    wpAny (model prog w) A (setItem x y z) (fun _ => UP g ρ s Q) NoE s := by
  subst hw
  rcases h with h | h
  · obtain ⟨k, xs, l, its, m, rfl, rfl, e1, er, hg, hv, h2, m', rfl, h0, h1, h3⟩ := lst_two R Vo h
    obtain ⟨u, rfl⟩ := Vi.int_inv
    have hl := size_of hv
    have hz := big63
    have hb' : (xs.length : Int) ≤ big := by exact_mod_cast h2
    obtain ⟨j, rfl⟩ := Int.eq_ofNat_of_zero_le h0
    refine setItem_exact hg rfl (by (first | lia | omega)) (fitsIndex_of (by (first | lia | omega)) (by (first | lia | omega))) (UP.list R e1 er hg ?_ (by rw [List.length_set]; exact h2) h3 _)
    rw [Int.toNat_natCast, Array.toList_setIfInBounds]
    exact hv.set Vv
  · obtain ⟨k, kvs, l, es, m, rfl, rfl, e1, er, hg, hr, hn, _, hk, hz, h⟩ := dct_two R Vo h
    obtain ⟨h1, h2⟩ := keysLike_inv hk
    cases i with
    | str i => exact set_enc encStr R e1 er hg hr hn Vi Vv (fun p hp => isStrV_inv (h2 p hp)) hz h
    | int i => exact set_enc encInt R e1 er hg hr hn Vi Vv (fun p hp => isIntV_inv (h2 p hp)) hz h
    | tup x =>
      obtain ⟨i, j, rfl⟩ := isPairL_inv (pair_key h1).1
      obtain ⟨b, its, m', rfl, _⟩ := Vi.tup_inv
      obtain ⟨xs, hx, D⟩ := dictH_to (prog := prog) hg hr hn fun p hp => isPairV_inv (pair_key (h2 p hp)).2
      have hroom : (tk prog g.w).room A.in1 := by show A.units + 1 < cLine; have := H.eqd; (first | lia | omega)
      refine wpAny_setItem_heap hroom (is_pair Vi) D (fun h' D' hs' => UP.dict R e1 er h _ hs' (let ⟨o, _, _, e, _⟩ := D'; ⟨o, e⟩) fun S => ?_) (small_dict hz hx.length)
      exact dictH_from D' ((kvh_put hx Vi Vv).mono fun _ _ r => ⟨r.1, r.2.1.step R xok_nil S, r.2.2.step R xok_nil S⟩) (dput_len hz)
    | _ => exact noB h1
end
end
section
open PySem PySem.W PyProof.Rows PySem.SeqAt

section
variable {prog : Program} {w : World} {A : Around} {g : Glb} {ρ : Rho} {σ : St} {s : Shared} {Q : PV → St → Prop} {n : Nat}

theorem len_int {h : Heap} {xs : List PV} {its : Array Value} (V : All2 (VR h ρ) xs its.toList) (hb : xs.length ≤ big) : (its.size : Int) < 2 ^ 63 := by
  rw [← size_of V]
  exact Int.lt_of_le_of_lt (Int.ofNat_le.mpr hb) big63
theorem truthy_sound {a : PV} {v : Value} {b : Bool} (R : Rel g ρ σ s.heap) (V : VR s.heap ρ a v) (h : truthy σ a = some b) {P : Bool → Shared → Prop} (q : ∀ t, P b { s with toks := t }) :
    wpAny (model prog w) A (PySem.truthy v) P NoE s := by
  cases a with
  | bool c => cases V; cases h; exact wpAny_truthy_bool (q s.toks)
  | obj k =>
    obtain ⟨xs, e, rfl⟩ := Option.map_eq_some_iff.mp h
    obtain ⟨l, its, m, rfl, er, hg, hv, zb⟩ := V.list_inv R (lst_inv e)
    refine wpAny_truthy_list (isList_of hg) (len_int hv zb) ?_
    have hl := size_of hv
    have : its.isEmpty = xs.isEmpty := by
      rw [Bool.eq_iff_iff, Array.isEmpty_iff_size_eq_zero, List.isEmpty_iff_length_eq_zero, hl]
    rw [this]; exact q _
  | _ => exact nos h

theorem sliceP_len (xs : List PV) (lo hi st : Option Int) : (sliceP xs lo hi st).length ≤ xs.length := by
  have h := slicePick_size_le (xs.map fun _ => Value.none).toArray lo hi st
  have e : ∀ (is : List Nat), (is.filterMap (xs[·]?)).length = (is.filterMap ((xs.map fun _ => Value.none).toArray[·]?)).length := by
    intro is
    induction is with
    | nil => rfl
    | cons i is ih =>
      rw [List.filterMap_cons, List.filterMap_cons]
      have e2 : (xs.map fun _ => Value.none).toArray[i]? = (xs[i]?).map fun _ => Value.none := by simp
      rw [e2]
      cases xs[i]? with
      | none => exact ih
      | some x => simp [ih]
  unfold slicePick at h
  unfold sliceP
  rw [List.size_toArray] at h
  rw [e]
  simpa using h

theorem sliceL_sound {k : Nat} {xs : List PV} {o : Value} {sl : Addr} {lo hi st : Option Int} {vl vu vs : Value} (R : Rel g ρ σ s.heap) (e : σ[k]? = some (.list xs) ∨ σ[k]? = some (.ro xs)) (V : VR s.heap ρ (.obj k) o)
    (hs : s.heap.IsSliceOf sl vl vu vs) (pl : IsPart vl lo) (pu : IsPart vu hi) (ps : IsPart vs st) (h0 : st ≠ some 0) (q : Q (.obj σ.length) (σ ++ [.list (sliceP xs lo hi st)])) :
    wpAny (model prog w) A (getItem o (.ref sl)) (EP g ρ s Q) NoE s := by
  have inv : ∃ l its, o = .ref l ∧ s.heap.IsList l its ∧ All2 (VR s.heap ρ) xs its.toList ∧ xs.length ≤ big := by
    rcases e with e | e
    · obtain ⟨l, its, m, h1, _, h2, h3, h4⟩ := V.list_inv R e
      exact ⟨l, its, h1, isList_of h2, h3, h4⟩
    · obtain ⟨p, hp, ho⟩ := R.lookup e
      cases V with
      | obj hk =>
        rw [hp] at hk; cases hk
        obtain ⟨e1, z, its, h1, h2⟩ := ho
        exact ⟨_, its, rfl, by dsimp only at e1 h1; rw [e1]; exact h1, h2, z⟩
  obtain ⟨l, its, rfl, hg, hv, zb⟩ := inv
  have hl : xs.length = its.size := by have := hv.length; simpa using this
  refine wpAny_getItem_list_slice hg hs pl pu ps h0 (EP.newList R ?_ (Nat.le_trans (sliceP_len ..) zb) q _) (by have := big_le; (first | lia | omega))
  unfold slicePick sliceP
  rw [hl]
  have := hv.filterMap_get (sliceRange (sliceBounds lo hi st its.size).1 (sliceBounds lo hi st its.size).2.1 (sliceBounds lo hi st its.size).2.2)
  simpa using this

theorem ints_are {h : Heap} : ∀ {xs : List PV} {vs : List Value} {ns : List Int}, All2 (VR h ρ) xs vs → ints? xs = some ns → IntsAre vs ns
  | [], [], _, _, e => by cases e; exact .nil
  | .int i :: xs, v :: vs, ns, V, e => by
    simp only [ints?, Option.map_eq_some_iff] at e
    obtain ⟨ms, e1, rfl⟩ := e
    obtain ⟨t, rfl⟩ := V.1.int_inv
    exact .cons i t (ints_are V.2 e1)
  | [], _ :: _, _, V, _ => V.elim
  | _ :: _, [], _, V, _ => V.elim
  | .none :: _, _, _, _, e => by cases e
  | .bool _ :: _, _, _, _, e => by cases e
  | .str _ :: _, _, _, _, e => by cases e
  | .tup _ :: _, _, _, _, e => by cases e
  | .obj _ :: _, _, _, _, e => by cases e
theorem are_ints {h : Heap} : ∀ {vs : List Value} {ns : List Int}, IntsAre vs ns → All2 (VR h ρ) (ns.map .int) vs
  | _, _, .nil => trivial
  | _, _, .cons i t r => ⟨.int i t, are_ints r⟩

theorem len_sound {a : PV} {v : Value} (R : Rel g ρ σ s.heap) (V : VR s.heap ρ a v) (h : prim1 .len a σ Q) : wpAny (model prog w) A (call (.builtin "len") [v]) (EP g ρ s Q) NoE s := by
  rcases h with h | h
  · obtain ⟨xs, l, its, m, rfl, rfl, hg, hv, zb, h⟩ := tup_two V h
    rw [size_of hv] at h
    exact PySem.P.len_tuple hg (Int.not_le.mpr (len_int hv zb)) (EP.here R (.int _ _) h _)
  · obtain ⟨k, xs, l, its, m, rfl, rfl, _, _, hg, hv, zb, h⟩ := lst_two R V h
    rw [size_of hv] at h
    exact PySem.Calls.call_len_list (isList_of hg) (len_int hv zb) (EP.here R (.int _ _) h _)
theorem tuple_sound {a : PV} {v : Value} (R : Rel g ρ σ s.heap) (V : VR s.heap ρ a v) (h : prim1 .tupleOf a σ Q) : wpAny (model prog w) A (call (.type "tuple") [v]) (EP g ρ s Q) NoE s := by
  rcases h with h | h
  · obtain ⟨xs, l, its, m, rfl, rfl, hg, hv, zb, h⟩ := tup_two V h
    exact call_tuple_same (isTuple_of hg) (EP.here' R V h)
  · obtain ⟨k, xs, l, its, m, rfl, rfl, _, _, hg, hv, zb, h⟩ := lst_two R V h
    refine call_tuple_list (isList_of hg) (fun h' hk => ?_) (by rw [← size_of hv]; exact Nat.le_trans zb big_le)
    have V' : All2 (VR h' ρ) xs its.toList := hv.mono fun _ _ r => by have := vr_grow (δ := []) r hk; rwa [List.append_nil] at this
    exact EP.trans (s' := { s with heap := h' }) (Like.hp _ _) (Step.grow hk) (EP.newTup (s := { s with heap := h' }) (R.grow hk) V' zb h _)
end
end
section
open PySem PySem.W PyProof.Rows PySem.SeqAt

section
variable {prog : Program} {w : World} {A : Around} {g : Glb} {ρ : Rho} {σ : St} {s : Shared} {Q : PV → St → Prop} {n : Nat}

theorem EP.fresh {xs : List PV} {its : Array Value} {h' : Heap} {a : Addr} {m : Nat} (R : Rel g ρ σ s.heap) (hk : ∀ b o, s.heap.get? b = some o → h'.get? b = some o) (hz : s.heap.objs.size ≤ a)
    (e : h'.get? a = some (lstObj its m)) (V : All2 (VR s.heap ρ) xs its.toList) (hb : xs.length ≤ big) (q : Q (.obj σ.length) (σ ++ [.list xs])) (t : Nat) : EP g ρ s Q (.ref a) { s with heap := h', toks := t } := by
  have V' : All2 (VR h' ρ) xs its.toList := V.mono fun _ _ r => by have := vr_grow (δ := []) r hk; rwa [List.append_nil] at this
  have R' : Rel g ρ σ h' := R.grow hk
  have ha : s.heap.get? a = none := by
    cases q : s.heap.get? a with
    | none => rfl
    | some o => exact absurd (Nat.lt_of_lt_of_le (Heap.lt_size q) hz) (Nat.lt_irrefl _)
  refine ⟨_, _, ρ ++ [(a, a)], ⟨_, _, rfl⟩, ⟨⟨_, rfl, fun p hp => by rw [List.mem_singleton.mp hp]; exact ha⟩, fun _ o e => ⟨o, hk _ _ e⟩, fun _ _ e _ _ => hk _ _ e⟩,
    R'.alloc (p := (a, a)) (R.fresh ha) (fun q => by obtain ⟨o, e, _⟩ := R.owned q; rw [ha] at e; cases e) (R.ne_mods hz) (orel_list e V' hb), .obj (d := a) (by rw [List.getElem?_append_right (by rw [R.len]; exact Nat.le_refl _), R.len]; simp), q⟩

theorem sorted_sound {a : PV} {v : Value} (R : Rel g ρ σ s.heap) (V : VR s.heap ρ a v) (h : prim1 .sorted a σ Q) : wpAny (model prog w) A (call (.builtin "sorted") [v]) (EP g ρ s Q) NoE s := by
  obtain ⟨k, xs, l, its, m, rfl, rfl, _, _, hg, hv, zb, ns, en, hlt, h⟩ := lst_two R V h
  have hI := ints_are hv en
  have hl : its.toList.length = ns.length := hI.length
  have hL : s.heap.IsList l its.toList.toArray := by simpa using isList_of hg
  refine sorted_ints hL hI (by (first | lia | omega)) fun out ms hO hP hS => ?_
  obtain ⟨e', he'⟩ := sortedAll_at s.heap its.toList out
  refine EP.fresh R (fun b o eb => sortedAll_old eb) (Nat.le_succ _) he' (are_ints hO) ?_ (h ms hP hS) _
  rw [List.length_map, hP.length_eq]; unfold big; (first | lia | omega)

theorem listDict_sound (H : Room n A) {a : PV} {v : Value} (hw : g.w = w) (R : Rel g ρ σ s.heap) (V : VR s.heap ρ a v) (h : prim1 .listDict a σ Q) : wpAny (model prog w) A (call (.type "list") [v]) (EP g ρ s Q) NoE s := by
  subst hw
  obtain ⟨k, kvs, l, es, m, rfl, rfl, _, er, hg, hr, hn, zb, hk, h⟩ := dct_two R V h
  have hm : (l == sysModules) = false := not_mods R er
  obtain ⟨h1, h2⟩ := keysLike_inv hk
  obtain ⟨xs, hx, D⟩ := dict_to (prog := prog) (knd := PySem.intKind prog g.w) encInt hg hr hn fun p hp => isIntV_inv (h2 p hp)
  obtain ⟨ep, DA⟩ := D.dictAt
  have hl := hx.length
  refine kdl_call (kdl_dict hm) H.hd DA (by have := big_le; unfold big at this; (first | lia | omega)) fun h' tk acc c' hk he hI => ?_
  refine EP.fresh R hk (Nat.le_refl _) he ?_ (by rw [List.length_map]; unfold big; (first | lia | omega)) h _
  refine All2.of_get ?_ fun i pv v ei ev => ?_
  · have e2 : acc.toList.length = acc.size := Array.length_toList
    rw [List.length_map, e2, hI.1, hl]
  · rw [List.getElem?_map, Option.map_eq_some_iff] at ei
    obtain ⟨p, ep', rfl⟩ := ei
    obtain ⟨k', x, e1, e2⟩ := hI.2 i v (by simpa using ev)
    obtain ⟨y, ey, r⟩ := hx.get ep'
    rw [e1] at ey; cases ey
    rw [r.1]; exact encInt.rv e2

theorem UP.none {Q : PV → St → Prop} {s' : Shared} (x : UP g ρ s (fun τ => Q .none τ) s') : EP g ρ s Q .none s' := by
  obtain ⟨σ', ρ', L, S, R', q⟩ := x
  exact ⟨_, σ', ρ', L, S, R', .none, q⟩
theorem append_sound {o v : PV} {x y : Value} (R : Rel g ρ σ s.heap) (Vo : VR s.heap ρ o x) (Vv : VR s.heap ρ v y) (h : bmeth .append o [v] σ Q) :
    wpAny (model prog w) A (call (.builtin "list.append") [x, y]) (EP g ρ s Q) NoE s := by
  obtain ⟨k, xs, l, its, m, rfl, rfl, e, er, hg, hv, zb, v', ev, hz, h⟩ := lst_two R Vo h
  cases ev
  refine call_meets F.slot_list_append ⟨_, hg, rfl⟩ F.entry_list_append (F.args_list_append_2 _ _) (PySem.list_append l its m y (by rw [← size_of hv]; exact Nat.le_trans (Nat.le_of_lt hz) big_le)) ⟨hg, ?_⟩
  exact UP.none (UP.list (f := fun x => x.push y) R e er hg (by rw [Array.toList_push]; exact hv.snoc Vv) (by rw [List.length_append]; exact hz) h s.toks)
theorem pop_sound {o : PV} {x : Value} (R : Rel g ρ σ s.heap) (Vo : VR s.heap ρ o x) (h : bmeth .pop o [] σ Q) :
    wpAny (model prog w) A (call (.builtin "list.pop") [x]) (EP g ρ s Q) NoE s := by
  obtain ⟨k, xs, l, its, m, rfl, rfl, e, er, hg, hv, zb, _, pv, ep, h⟩ := lst_two R Vo h
  have hl := size_of hv
  rw [List.getLast?_eq_getElem?] at ep
  obtain ⟨y, ey, r⟩ := hv.get ep
  rw [hl] at ey
  refine call_meets F.slot_list_pop ⟨_, hg, rfl⟩ F.entry_list_pop (F.args_list_pop_1 _) (MeetsSeq.list_pop_last l its m y (by simpa using ey) (by rw [← hl]; exact Nat.le_trans zb big_le)) ⟨hg, ?_⟩
  have hpos : 0 < its.size := by have := (List.getElem?_eq_some_iff.mp ey).1; rw [Array.length_toList] at this; (first | lia | omega)
  have ed : (its.eraseIdxIfInBounds (its.size - 1)).toList = its.toList.dropLast := by
    rw [Array.eraseIdxIfInBounds, dif_pos (Nat.sub_lt hpos Nat.one_pos), Array.toList_eraseIdx, List.eraseIdx_eq_take_drop_succ, List.dropLast_eq_take, Array.length_toList, List.drop_of_length_le (by rw [Array.length_toList]; (first | lia | omega)), List.append_nil]
  obtain ⟨σ', ρ', L, S, R', q⟩ := UP.list (Q := fun τ => Q pv τ) (f := fun xs => xs.eraseIdxIfInBounds (its.size - 1)) R e er hg (by rw [ed]; exact hv.dropLast) (by rw [List.length_dropLast]; exact Nat.le_trans (Nat.sub_le _ _) zb) h s.toks
  exact ⟨_, σ', ρ', L, S, R', r.step R xok_nil S, q⟩
theorem reverse_sound {o : PV} {x : Value} (R : Rel g ρ σ s.heap) (Vo : VR s.heap ρ o x) (h : bmeth .reverse o [] σ Q) :
    wpAny (model prog w) A (call (.builtin "list.reverse") [x]) (EP g ρ s Q) NoE s := by
  obtain ⟨k, xs, l, its, m, rfl, rfl, e, er, hg, hv, zb, _, h⟩ := lst_two R Vo h
  have hl := size_of hv
  refine call_meets F.slot_list_reverse ⟨_, hg, rfl⟩ F.entry_list_reverse (F.args_list_reverse_1 _) (AutoSeq1.list_reverse_list_0 l its m (by rw [← hl]; exact Nat.le_trans zb big_le)) ⟨hg, ?_⟩
  exact UP.none (UP.list (f := fun x => x.reverse) R e er hg (by rw [Array.toList_reverse]; exact hv.reverse) (by rw [List.length_reverse]; exact zb) h s.toks)
theorem get_enc {K : Type} [DecidableEq K] {knd : PySem.KeyKind prog g.w K} {enc : K → PV} (N : Enc knd enc) {l : Addr} {es : Array DictEntry} {m : Nat} {kvs : List (PV × PV)} {i : K} {d : PV} {y z : Value} (R : Rel g ρ σ s.heap) (hm : (l == sysModules) = false)
    (hg : s.heap.get? l = some (dctObj es m)) (hr : All2 (EntR g.w s.heap ρ) kvs es.toList) (hn : (kvs.map (·.1)).Nodup) (Vk : VR s.heap ρ (enc i) y) (Vd : VR s.heap ρ d z) (hk : ∀ p ∈ kvs, ∃ k, p.1 = enc k) (h : Q ((dget (enc i) kvs).getD d) σ) :
    wpAny (model prog g.w) A (call (.builtin "dict.get") [.ref l, y, z]) (EP g ρ s Q) NoE s := by
  obtain ⟨xs, hx, D⟩ := dict_to N hg hr hn hk
  refine call_meetsIn F.slot_dict_get ⟨_, hg, rfl⟩ F.entry_dict_get (F.args_dict_get_3 _ _ _) (meets_dict_get_default knd l (N.vr Vk) hm z) ⟨_, D.mapOf, EP.here R ?_ h _⟩
  rcases kv_get N hx i with ⟨a, b⟩ | ⟨_, _, a, b, r⟩ <;> rw [a, b]
  · exact Vd
  · exact r
theorem get_sound (H : Room n A) {o key d : PV} {x y z : Value} (hw : g.w = w) (R : Rel g ρ σ s.heap) (Vo : VR s.heap ρ o x) (Vk : VR s.heap ρ key y) (Vd : VR s.heap ρ d z) (h : bmeth .get o [key, d] σ Q) :
    wpAny (model prog w) A (call (.builtin "dict.get") [x, y, z]) (EP g ρ s Q) NoE s := by
  subst hw
  obtain ⟨k, kvs, l, es, m, rfl, rfl, e, er, hg, hr, hn, zb, key', d', ek, hk, h⟩ := dct_two R Vo h
  cases ek
  have hm : (l == sysModules) = false := not_mods R er
  obtain ⟨h1, h2⟩ := keysLike_inv hk
  cases key with
  | str i => exact get_enc encStr R hm hg hr hn Vk Vd (fun p hp => isStrV_inv (h2 p hp)) h
  | int i => exact get_enc encInt R hm hg hr hn Vk Vd (fun p hp => isIntV_inv (h2 p hp)) h
  | tup x =>
    obtain ⟨i, j, rfl⟩ := isPairL_inv (pair_key h1).1
    obtain ⟨b, its, m', rfl, _⟩ := Vk.tup_inv
    obtain ⟨xs, hx, D⟩ := dictH_to (prog := prog) hg hr hn fun p hp => isPairV_inv (pair_key (h2 p hp)).2
    have hroom : (tk prog g.w).room A.in1 := by show A.units + 1 < cLine; have := H.eqd; (first | lia | omega)
    refine call_meetsIn F.slot_dict_get ⟨_, hg, rfl⟩ F.entry_dict_get (F.args_dict_get_3 _ _ _) (meetsH_dict_get_default (tk prog g.w) l b hm z) ⟨hroom, _, _, is_pair Vk, D, EP.here R ?_ h _⟩
    rcases kvh_get hx i j with ⟨a, b⟩ | ⟨_, _, a, b, r⟩ <;> rw [a, b]
    · exact Vd
    · exact r
  | _ => exact noB h1
end
end
section
open PySem PySem.W PyProof.Rows
section
variable {prog : Program} {w : World} {g : Glb} {n : Nat} {σ : St} {A : Around} {s : Shared} {ρ : Rho} {Q : PV → St → Prop}
theorem all_drop {h : Heap} {xs : List PV} {vs : List Value} (V : All2 (VR h ρ) xs vs) : ∀ k, All2 (VR h ρ) (xs.drop k) (vs.drop k).toArray.toList := by
  intro k
  refine All2.of_get ?_ fun i x v hx hv => ?_
  · rw [List.toList_toArray, List.length_drop, List.length_drop, V.length]
  · rw [List.toList_toArray, List.getElem?_drop] at hv
    rw [List.getElem?_drop] at hx
    obtain ⟨y, hy, r⟩ := V.get hx
    rw [hv] at hy; cases hy; exact r
theorem seq_list_iadd : isSeqSlot (some (.builtin "list.__iadd__")) = true := by decide +kernel
theorem iadd_lists {l b : Addr} {its its2 : Array Value} {m m2 : Nat} {P : Value → Shared → Prop} (hl : s.heap.get? l = some (lstObj its m)) (hb : s.heap.get? b = some (lstObj its2 m2)) (hz : its.size + its2.size ≤ sizeLine)
    (h : P (.ref l) { s with heap := s.heap.update l (Obj.mapSeq fun x => x ++ its2) }) : wpAny (model prog w) A (inplaceOp .Add (.ref l) (.ref b)) P NoE s := by
  have ta : s.TypeIs (.ref l) "list" := ⟨_, hl, rfl⟩
  have tb : s.TypeIs (.ref b) "list" := ⟨_, hb, rfl⟩
  have hlk := F.slot_list_iadd.lookup
  unfold inplaceOp
  refine wpAny_holding ?_
  have hfi : fillsInplaceSlot (.type "list") "add" (Operator.Add == .Add) = pure false := by
    unfold fillsInplaceSlot
    show (typeLookup (.type "list") (dunderI "add") >>= fun fi => pure (fi.isSome && !isSeqSlot fi)) = pure false
    rw [hlk, pure_bind, seq_list_iadd]; rfl
  have hsi : seqSlot? (.type "list") (dunderI "add") = pure (some (.builtin "list.__iadd__")) := PySem.seqSlot_of hlk seq_list_iadd
  refine wpAny_bind (wpAny_typeOf ta (wpAny_bind (wpAny_of_eq hfi ?_)))
  show wpAny _ _ (if false = true then _ else _) _ _ s
  rw [if_neg Bool.false_ne_true]
  refine wpAny_bind (wpAny_binaryOp1_none (nm := "add") ta tb noFill_list_add ?_)
  refine wpAny_bind (wpAny_of_eq hsi ?_)
  refine wpAny_bind (wpAny_rule ?_)
  refine call_meets F.slot_list_iadd ta F.entry_list_iadd (F.args_list_iadd_2 _ _) (AutoSeq1.list___iadd___list_list_0 l its m b its2 m2 ?_ (by (first | lia | omega)) (by (first | lia | omega))) ⟨hl, hb, h⟩
  have : Builtin.List.listTooLong (its.size + its2.size) = false := by
    unfold Builtin.List.listTooLong
    have : sizeLine < 1000000000000 := by rw [sizeLine_eq]; decide
    simp; (first | lia | omega)
  rw [this]; simp

theorem cutT_last2 {sl : Addr} {k : Nat} {u : Tok} {P : Int × Int × Nat → Shared → Prop} {E : Value → Shared → Prop} (hs : s.heap.IsSliceOf sl (.int (-2) u) .none .none) (h2 : 2 ≤ k) (h : P (((k - 2 : Nat) : Int), 1, 2) s) :
    wpAny (model prog w) A (Builtin.Slice.sliceApplied (.ref sl) (pure (k : Int))) P E s := by
  obtain ⟨os, hos, hcs, hds⟩ := id hs
  unfold Builtin.Slice.sliceApplied Builtin.Slice.sliceFields
  refine wpAny_bind (wpAny_bind (wpAny_field hos hds (x := .int (-2) u) rfl (wpAny_bind (wpAny_field hos hds (x := .none) rfl (wpAny_bind (wpAny_field hos hds (x := .none) rfl (wpAny_pure ?_)))))))
  refine wpAny_bind (slicePart_none ?_)
  show wpAny _ _ (if ((1 : Int) == 0) = true then _ else _) _ _ s
  rw [if_neg (by decide)]
  refine wpAny_bind (slicePart_int (wpAny_bind (slicePart_none (wpAny_bind (wpAny_pure ?_)))))
  show wpAny _ _ (match Builtin.Slice.sliceAdjust (some (-2)) none 1 (k : Int) with | (lo, hi) => pure (lo, (1 : Int), Builtin.Slice.slicePlaces lo hi 1)) _ _ s
  have e : Builtin.Slice.sliceAdjust (some (-2)) none 1 (k : Int) = (((k - 2 : Nat) : Int), (k : Int)) := by
    unfold Builtin.Slice.sliceAdjust
    have h1 : ¬ ((1 : Int) < 0) := by (first | lia | omega)
    have h2 : (-2 : Int) < 0 := by (first | lia | omega)
    simp only [h1, h2, if_false, if_true]
    congr 1
    (first | lia | omega)
  rw [e]
  show wpAny _ _ (pure (((k - 2 : Nat) : Int), (1 : Int), Builtin.Slice.slicePlaces ((k - 2 : Nat) : Int) (k : Int) 1)) _ _ s
  have e2 : Builtin.Slice.slicePlaces ((k - 2 : Nat) : Int) (k : Int) 1 = 2 := by
    unfold Builtin.Slice.slicePlaces
    have h1 : (1 : Int) > 0 := by (first | lia | omega)
    simp only [h1, if_true, Int.ediv_one]
    split <;> (first | lia | omega)
  rw [e2]
  exact wpAny_pure h
theorem getItem_last2 {t sl : Addr} {its : Array Value} {m : Nat} {u : Tok} {P : Value → Shared → Prop} {E : Value → Shared → Prop} (ht : s.heap.get? t = some (tupObj its m)) (hs : s.heap.IsSliceOf sl (.int (-2) u) .none .none) (h2 : 2 ≤ its.size) (hz : its.size ≤ sizeLine)
    (hall : its.size = 2 → P (.ref t) s)
    (h : P (.ref s.heap.objs.size) { s with heap := s.heap.push { cls := .type "tuple", data := .seq (its.toList.drop (its.size - 2)).toArray } }) :
    wpAny (model prog w) A (getItem (.ref t) (.ref sl)) P E s := by
  have it : IsTup s.heap t its := ⟨_, ht, rfl, _, rfl⟩
  have hdrop : sizeOk (.seq (its.toList.drop (its.size - 2)).toArray) := by
    show (its.toList.drop (its.size - 2)).toArray.size ≤ sizeLine
    rw [List.size_toArray, List.length_drop, Array.length_toList]
    (first | lia | omega)
  obtain ⟨os, hos, hcs, hds⟩ := id hs
  have hTs : s.TypeIs (.ref sl) "slice" := ⟨os, hos, hcs⟩
  unfold getItem
  try with_reducible refine wpAny_holding ?_
  first | refine wpAny_bind (wpAny_pure ?_) | skip
  refine wpAny_bind (wpAny_sequenceKey it.typeIs (by decide) ?_)
  refine wpAny_bind (wpAny_callSpecial?_slot (name := Str.ofString "__getitem__") it.typeIs slot_tuple_getitem
    (wpAny_call_entry slot_tuple_getitem it.typeIs entry_tuple_getitem ?_ (args_tuple_getitem _ _)))
  show wpAny _ _ (Builtin.Tuple.tupleItemsOf (.ref t) >>= _) _ _ s
  refine wpAny_bind (tupleItemsOf_ it ?_)
  refine wpAny_bind (wpAny_typeOf hTs ?_)
  rw [if_pos (by decide)]
  refine wpAny_bind (cutT_last2 hs h2 ?_)
  have hp := pick_from its (its.size - 2) (by (first | lia | omega))
  rw [show its.size - (its.size - 2) = 2 by (first | lia | omega)] at hp
  show wpAny _ _ (if (((its.size - 2 : Nat) : Int) == 0 && (1 : Int) == 1 && 2 == its.size) = true then _ else _) _ _ s
  by_cases he : its.size = 2
  · rw [if_pos (by rw [he]; rfl)]
    have hT : s.TypeIs (.ref t) "tuple" := it.typeIs
    unfold Builtin.Tuple.tupleIsExact
    first
      | refine wpAny_bind (wpAny_bind (wpAny_typeOf hT (wpAny_pure ?_)))
      | refine wpAny_bind (wpAny_bind (wpAny_bind (wpAny_typeOf hT (wpAny_pure ?_))))
    rw [if_pos (by decide)]
    exact wpAny_bind (wpAny_rule (wpAny_pure ⟨_, rfl, wpAny_pure (hall he)⟩))
  · have hno : ¬ ((((its.size - 2 : Nat) : Int) == 0 && (1 : Int) == 1 && 2 == its.size) = true) := by
      have : (2 == its.size) = false := by rw [beq_eq_false_iff_ne]; (first | lia | omega)
      rw [this]; simp
    rw [if_neg hno, hp]
    first
      | exact wpAny_bind (m := Builtin.Tuple.tupleExact _) (wpAny_newObj_type (wpAny_pure ⟨_, rfl, wpAny_pure h⟩) hdrop)
      | exact wpAny_bind (m := Builtin.Tuple.tupleExact _) (wpAny_newObj_type (wpAny_bind (wpAny_pure (wpAny_pure ⟨_, rfl, wpAny_pure h⟩))) hdrop)
      | exact wpAny_bind (wpAny_bind (m := Builtin.Tuple.tupleExact _) (wpAny_newObj_type (wpAny_pure (wpAny_pure ⟨_, rfl, wpAny_pure h⟩)) hdrop))
      | exact wpAny_bind (wpAny_bind (m := Builtin.Tuple.tupleExact _) (wpAny_newObj_type (wpAny_pure ⟨_, rfl, wpAny_pure h⟩) hdrop))
end
end
section
open PySem PySem.W PyProof.Rows PySem.SeqAt

theorem plain_contains_iter : plainId "proto.contains_iter" = true := by decide +kernel
theorem entry_contains_iter : entryFor table "proto.contains_iter" = some Builtin.«proto.contains_iter» := entryFor_of_tree (by kernel_rfl)
theorem no_contains_values : typeLookup (.type "dict_values") "__contains__" = pure none := by rw [typeLookup_type, builtinLookup_eq_fast]; kernel_rfl

section
variable {prog : Program} {w : World} {A : Around} {g : Glb} {ρ : Rho} {σ : St} {s : Shared} {Q : PV → St → Prop} {n : Nat}

end
end
section
open PySem PySem.W PyProof.Rows PySem.SeqAt

theorem owner_rev : Manifest.owners.lookup (String.ofList ['d', 'e', 's', 'r', 'e', 'v', 'e', 'r'].reverse) = some Manifest.sig_reversed := by kernel_rfl
theorem slot_rev_next : Slot "reversed" "__next__" "reversed.__next__" :=
  .of (owner := "reversed") (n := "__next__") (by rw [typeLookup_type, builtinLookup_eq_fast]; kernel_rfl) (by decide +kernel) (by decide +kernel) (by decide +kernel)
    (by first | exact .inl (by decide +kernel) | exact .inr (by decide +kernel)) (by rw [isSubtype_type]; kernel_rfl)
theorem entry_rev_next : entryFor table "reversed.__next__" = some Builtin.«reversed.__next__» := entryFor_of_tree (by kernel_rfl)
theorem args_rev_next (a : Value) : argsOk "reversed.__next__" ⟨[a], []⟩ := by
  unfold argsOk; rw [signature?_of (id := "reversed.__next__") (n := ['_', '_', 't', 'x', 'e', 'n', '_', '_']) (o := ['d', 'e', 's', 'r', 'e', 'v', 'e', 'r']) (by kernel_rfl) owner_rev]; kernel_rfl
theorem slot_rev_iter : Slot "reversed" "__iter__" "reversed.__iter__" :=
  .of (owner := "reversed") (n := "__iter__") (by rw [typeLookup_type, builtinLookup_eq_fast]; kernel_rfl) (by decide +kernel) (by decide +kernel) (by decide +kernel)
    (by first | exact .inl (by decide +kernel) | exact .inr (by decide +kernel)) (by rw [isSubtype_type]; kernel_rfl)
theorem args_rev_iter (a : Value) : argsOk "reversed.__iter__" ⟨[a], []⟩ := by
  unfold argsOk; rw [signature?_of (id := "reversed.__iter__") (n := ['_', '_', 'r', 'e', 't', 'i', '_', '_']) (o := ['d', 'e', 's', 'r', 'e', 'v', 'e', 'r']) (by kernel_rfl) owner_rev]; kernel_rfl
theorem entry_rev_iter : entryFor table "reversed.__iter__" = some Builtin.«dict_keyiterator.__iter__» :=
  entryFor_alias (id' := "dict_keyiterator.__iter__") (by kernel_rfl) (by first | rfl | decide +kernel | (unfold String.splitOn; simp +decide [String.splitOnAux])) (by decide +kernel) (by kernel_rfl)
theorem slot_rev_hint : Slot "reversed" "__length_hint__" "reversed.__length_hint__" :=
  .of (owner := "reversed") (n := "__length_hint__") (by rw [typeLookup_type, builtinLookup_eq_fast]; kernel_rfl) (by decide +kernel) (by decide +kernel) (by decide +kernel)
    (by first | exact .inl (by decide +kernel) | exact .inr (by decide +kernel)) (by rw [isSubtype_type]; kernel_rfl)
theorem entry_rev_hint : entryFor table "reversed.__length_hint__" = some Builtin.«reversed.__length_hint__» := entryFor_of_tree (by kernel_rfl)
theorem args_rev_hint (a : Value) : argsOk "reversed.__length_hint__" ⟨[a], []⟩ := by
  unfold argsOk; rw [signature?_of (id := "reversed.__length_hint__") (n := ['_', '_', 't', 'n', 'i', 'h', '_', 'h', 't', 'g', 'n', 'e', 'l', '_', '_']) (o := ['d', 'e', 's', 'r', 'e', 'v', 'e', 'r']) (by kernel_rfl) owner_rev]; kernel_rfl
theorem no_rev_len : typeLookup (.type "reversed") "__len__" = pure none := by rw [typeLookup_type, builtinLookup_eq_fast]; kernel_rfl
theorem no_tuple_rev : typeLookup (.type "tuple") "__reversed__" = pure none := by rw [typeLookup_type, builtinLookup_eq_fast]; kernel_rfl
theorem no_lri_len : typeLookup (.type "list_reverseiterator") "__len__" = pure none := by rw [typeLookup_type, builtinLookup_eq_fast]; kernel_rfl
theorem lri_hint : typeLookup (.type "list_reverseiterator") "__length_hint__" = pure (some (.builtin "list_reverseiterator.__length_hint__")) := by rw [typeLookup_type, builtinLookup_eq_fast]; kernel_rfl
theorem slot_rev_init : Slot "reversed" "__init__" "object.__init__" :=
  .of (owner := "object") (n := "__init__") (by rw [typeLookup_type, builtinLookup_eq_fast]; kernel_rfl) (by decide +kernel) (by decide +kernel) (by decide +kernel)
    (by first | exact .inl (by decide +kernel) | exact .inr (by decide +kernel)) (by rw [isSubtype_type]; kernel_rfl)
theorem called_rev : TypeCalled "reversed" "reversed.__new__" "object.__init__" :=
  ⟨by decide +kernel, F.create_reversed, ⟨_, _, F.mro_reversed⟩, F.made_reversed, F.plain_reversed_new, F.sub_reversed_self, slot_rev_init⟩

noncomputable def revT (t : Addr) (i : Int) : Obj := { cls := .type "reversed", data := .fields #[.ref t, rawInt i] }

section
variable {prog : Program} {w : World} {A : Around} {E : Value → Shared → Prop} {s : Shared}

theorem hint_lri {r : Addr} {P : Bool → Shared → Prop} (hT : s.TypeIs (.ref r) "list_reverseiterator") (q : P false s) : wpAny (model prog w) A (Builtin.List.listLengthHint (.ref r)) P E s := by
  unfold Builtin.List.listLengthHint
  refine wpAny_bind (wpAny_specialOf hT no_lri_len ?_)
  refine wpAny_ite_split (fun hab => absurd hab (by decide)) (fun _ => ?_)
  refine wpAny_ite_split (fun hab => absurd hab (by decide)) (fun _ => ?_)
  refine wpAny_bind (wpAny_specialOf hT lri_hint ?_)
  generalize hid : ("list_reverseiterator.__length_hint__" : String) = id0
  wp_delta
  rw [show splitId id0 = some ("list_reverseiterator", "__length_hint__") from by subst hid; decide +kernel]
  subst hid
  refine wpAny_bind (wpAny_isInstance (T := "list_reverseiterator") (b := true) hT (by rw [isSubtype_type]; kernel_rfl) ?_)
  refine wpAny_ite_split (fun hab => absurd hab (by decide)) (fun _ => ?_)
  refine wpAny_ite_split (fun _ => ?_) (fun hab => absurd (by decide +kernel) hab)
  refine wpAny_ite_split (fun hab => absurd hab (by decide)) (fun _ => ?_)
  exact wpAny_pure q

theorem meets_reversed_tuple (t : Addr) (its : Array Value) (m : Nat) (hz : its.size ≤ big) :
    Meets (Builtin.«reversed.__new__» ⟨[.type "reversed", .ref t], []⟩) (fun _ R s => s.heap.get? t = some (tupObj its m) ∧
      R (.ok (.ret (.ref s.heap.objs.size))) { s with heap := s.heap.push (revT t ((its.size : Int) - 1)), toks := s.toks + 1 + 1 }) :=
  .of_wp fun prog w A R s ⟨e, h⟩ => by
    have hb : (its.size : Int) ≤ big := by exact_mod_cast hz
    have hb2 := big63
    have hT : s.TypeIs (.ref t) "tuple" := ⟨_, e, rfl⟩
    unfold Builtin.«reversed.__new__»
    refine wpAny_bind (wpAny_of_eq (newClass_reversed _) ?_)
    try dsimp only
    refine wpAny_bind (wpAny_of_eq (a := ()) (by first | rfl | kernel_rfl) ?_)
    refine wpAny_bind (wpAny_of_eq (a := ()) (by first | rfl | kernel_rfl) ?_)
    try dsimp only
    refine wpAny_bind (wpAny_specialOf hT no_tuple_rev ?_)
    try dsimp only
    refine wpAny_bind ?_
    wp_delta
    refine wpAny_bind (wpAny_isInstance (T := "tuple") (b := false) hT (by rw [isSubtype_type]; kernel_rfl) ?_)
    refine wpAny_ite_split (fun hab => absurd hab (by decide)) (fun _ => ?_)
    refine wpAny_bind (wpAny_specialOf hT F.slot_tuple_getitem.lookup ?_)
    dsimp only
    refine wpAny_ite_split (fun _ => wpAny_pure ?_) (fun hab => absurd (by decide) hab)
    refine wpAny_ite_split (fun hab => absurd hab (by decide)) (fun _ => ?_)
    refine wpAny_bind (PySem.P.len_tuple e (by (first | lia | omega)) ?_)
    refine wpAny_bind (wpAny_of_eq (a := some (its.size : Int)) (by first | rfl | kernel_rfl) ?_)
    try dsimp only
    refine wpAny_bind ?_
    unfold Builtin.SmallTypes.newRecord
    refine wpAny_newObj_type ?_
    exact wpAny_pure ⟨_, rfl, h⟩

theorem call_reversed_tuple {t : Addr} {its : Array Value} {m : Nat} {P : Value → Shared → Prop} (e : s.heap.get? t = some (tupObj its m)) (hz : its.size ≤ big)
    (q : ∀ tk, P (.ref s.heap.objs.size) { s with heap := s.heap.push (revT t ((its.size : Int) - 1)), toks := tk }) : wpAny (model prog w) A (call (.type "reversed") [.ref t]) P E s :=
  callType_new called_rev (by decide) (F.typeCall_reversed_1 _) (F.newCall_reversed_1 _) (fun obj => F.args_object_init_2 obj _) F.entry_reversed_new (meets_reversed_tuple t its m hz)
    ⟨e, ⟨_, Heap.get?_push_size _ rfl, rfl⟩, q _⟩

theorem wpAny_pyNext_revT_item {it t : Addr} {i : Nat} {its : Array Value} {m : Nat} {x : Value} {P : Option Value → Shared → Prop} (hit : s.heap.get? it = some (revT t (i : Int))) (ht : s.heap.get? t = some (tupObj its m)) (hx : its[i]? = some x) (hz : its.size ≤ big)
    (hQ : ∀ h' tk, h'.get? it = some (revT t ((i : Int) - 1)) → Heap.SameBut it s.heap h' → P (some x) { s with heap := h', toks := tk }) : wpAny (model prog w) A (pyNext (.ref it)) P E s := by
  have hb : (its.size : Int) ≤ big := by exact_mod_cast hz
  have hb2 := big63
  have hT : s.TypeIs (.ref it) "reversed" := ⟨_, hit, rfl⟩
  have hTt : s.TypeIs (.ref t) "tuple" := ⟨_, ht, rfl⟩
  have hlt : i < its.size := (Array.getElem?_eq_some_iff.mp hx).1
  unfold pyNext
  refine wpAny_bind (wpAny_attempt (wpAny_callSpecial?_slot (name := Str.ofString "__next__") hT slot_rev_next
    (wpAny_call_entry slot_rev_next hT entry_rev_next ?_ (args_rev_next _))))
  unfold Builtin.«reversed.__next__»
  refine wpAny_bind (wpAny_of_eq (a := (Value.ref it, [])) rfl ?_)
  try dsimp only
  refine wpAny_bind (wpAny_field hit rfl (x := .ref t) rfl ?_)
  refine wpAny_bind (wpAny_field hit rfl (x := rawInt (i : Int)) rfl ?_)
  show wpAny _ _ (if (i : Int) < 0 then _ else _) _ _ s
  rw [if_neg (by (first | lia | omega))]
  refine wpAny_bind (wpAny_specialOf hTt F.slot_tuple_getitem.lookup ?_)
  refine wpAny_ite_split (fun hab => absurd hab (by decide)) (fun _ => ?_)
  refine wpAny_bind (wpAny_mkInt ?_)
  refine wpAny_bind (wpAny_attempt (PySem.P.getItem_tuple (k := i) (y := x) ht (by (first | lia | omega)) (by (first | lia | omega)) (by
    have h1 : ¬ ((i : Int) < 0) := by (first | lia | omega)
    have h2 : (0 : Int) ≤ i := by (first | lia | omega)
    have h3 : (i : Int) < its.size := by (first | lia | omega)
    unfold seqIndex?; simp [h1, h2, h3]) hx ?_))
  try dsimp only
  refine wpAny_bind (wpAny_field hit rfl (x := rawInt (i : Int)) rfl ?_)
  try dsimp only
  refine wpAny_bind (wpAny_setField hit rfl (by simp) ?_)
  refine wpAny_pure ⟨x, rfl, wpAny_pure (hQ _ _ ?_ (Heap.SameBut.update ..))⟩
  exact Heap.get?_update_self _ hit rfl

theorem wpAny_pyNext_revT_end {it t : Addr} {P : Option Value → Shared → Prop} (hh : A.handled = none) (hit : s.heap.get? it = some (revT t (-1)))
    (hQ : ∀ h' tk, Heap.ExtBut it s.heap h' → P none { s with heap := h', toks := tk }) : wpAny (model prog w) A (pyNext (.ref it)) P E s := by
  have hT : s.TypeIs (.ref it) "reversed" := ⟨_, hit, rfl⟩
  unfold pyNext
  refine wpAny_bind (wpAny_attempt (wpAny_callSpecial?_slot (name := Str.ofString "__next__") hT slot_rev_next
    (wpAny_call_entry slot_rev_next hT entry_rev_next ?_ (args_rev_next _))))
  unfold Builtin.«reversed.__next__»
  refine wpAny_bind (wpAny_of_eq (a := (Value.ref it, [])) rfl ?_)
  try dsimp only
  refine wpAny_bind (wpAny_field hit rfl (x := .ref t) rfl ?_)
  refine wpAny_bind (wpAny_field hit rfl (x := rawInt (-1)) rfl ?_)
  show wpAny _ _ (if (-1 : Int) < 0 then _ else _) _ _ s
  rw [if_pos (by decide)]
  refine wpAny_bind (wpAny_rule ?_)
  refine wpAny_bind ?_
  wp_delta
  refine wpAny_bind (wpAny_setField hit rfl (by simp) ?_)
  have h1 : (s.heap.update it (Obj.mapFields fun x => x.setIfInBounds 1 (rawInt (-1)))).get? it = some (revT t (-1)) := Heap.get?_update_self _ hit rfl
  refine wpAny_setField (s := { s with heap := s.heap.update it (Obj.mapFields fun x => x.setIfInBounds 1 (rawInt (-1))) }) h1 rfl (by simp) ?_
  refine wpAny_bind ?_
  unfold Builtin.SmallTypes.stopIteration
  refine wpAny_bind ?_
  simp only [newExc, newTuple]
  refine wpAny_bind (wpAny_newObj_type ?_ (by size_fits))
  refine wpAny_bind (m := firstArgMember _ _) (wpAny_of_eq (a := Value.none) (by first | rfl | (simp only [firstArgMember]; rfl)) ?_)
  refine wpAny_newObj_type ?_ (by size_fits)
  simp only [raiseNew]
  refine wpAny_bind (wpAny_handled ?_)
  first | rw [show A.in1.handled = none from hh] | rw [hh]
  refine wpAny_bind (wpAny_pure (wpAny_throw ?_))
  refine wpAny_bind (wpAny_isInstance (T := "StopIteration") (b := true) ⟨_, Heap.get?_push_size _ rfl, rfl⟩ isSubtype_stop ?_)
  refine wpAny_pure (hQ _ _ ?_)
  exact (((Heap.SameBut.update ..).trans (Heap.SameBut.update ..)).extBut.push _).push _

theorem wpAny_pyIter_revT {it t : Addr} {i : Int} {P : Value → Shared → Prop} (hit : s.heap.get? it = some (revT t i)) (q : P (.ref it) s) : wpAny (model prog w) A (pyIter (.ref it)) P E s := by
  have hT : s.TypeIs (.ref it) "reversed" := ⟨_, hit, rfl⟩
  refine wpAny_pyIter_slot hT slot_rev_iter (wpAny_call_entry slot_rev_iter hT entry_rev_iter ?_ (args_rev_iter _))
  show wpAny _ _ (ret (.ref it)) _ _ s
  exact wpAny_pure ⟨_, rfl, "reversed", _, hT, slot_rev_next.lookup, q⟩
end
theorem walks_revT {prog : Program} {w : World} {A : Around} (hh : A.handled = none) (I t : Addr) (hne : t ≠ I) (its : Array Value) (m : Nat) (hz : its.size ≤ big) :
    Walks prog w A I [I, t] [I] its.size (fun i v => its[its.size - 1 - i]? = some v) (fun i h => i ≤ its.size ∧ h.get? I = some (revT t ((its.size : Int) - 1 - (i : Int))) ∧ h.get? t = some (tupObj its m)) where
  sub := fun b hb => by simp at hb; simp [hb]
  frame := fun _ _ _ x hk => ⟨x.1, hk I (by simp) _ x.2.1, hk t (by simp) _ x.2.2⟩
  item := fun i s Q E hi x hQ => by
    have e : (its.size : Int) - 1 - (i : Int) = ((its.size - 1 - i : Nat) : Int) := by (first | lia | omega)
    have hit := x.2.1
    rw [e] at hit
    have hx : its[its.size - 1 - i]? = some (its[its.size - 1 - i]'(by (first | lia | omega))) := Array.getElem?_eq_getElem (by (first | lia | omega))
    refine wpAny_pyNext_revT_item hit x.2.2 hx hz fun h' tk hit' hs' => ?_
    have e2 : ((its.size - 1 - i : Nat) : Int) - 1 = (its.size : Int) - 1 - ((i + 1 : Nat) : Int) := by (first | lia | omega)
    rw [e2] at hit'
    exact hQ _ h' tk hx ⟨hi, hit', (hs'.2 t hne).trans x.2.2⟩ fun b o hb eo => hs'.extBut b o (fun h => hb (by simp [h])) eo
  done := fun s Q E x hQ => by
    have e : (its.size : Int) - 1 - (its.size : Int) = -1 := by (first | lia | omega)
    have hit := x.2.1
    rw [e] at hit
    exact wpAny_pyNext_revT_end hh hit fun h' tk he' => hQ h' tk fun b o hb eo => he' b o (fun h => hb (by simp [h])) eo
  self := fun _ _ _ _ x hQ => wpAny_pyIter_revT x.2.1 hQ
end
section
open PySem PySem.W PyProof.Rows PySem.SeqAt

noncomputable def ShP (acc : Array Value) (P : Nat → Value → Prop) (j : Nat) (v : Value) : Prop := if j < acc.size then acc[j]? = some v else P (j - acc.size) v

theorem shiftW {prog : Program} {w : World} {A : Around} {I : Addr} {fp wr : List Addr} {n : Nat} {P : Nat → Value → Prop} {S : Nat → Heap → Prop} (W : Walks prog w A I fp wr n P S) (acc : Array Value) :
    Walks prog w A I fp wr (acc.size + n) (ShP acc P) (fun j h => acc.size ≤ j ∧ S (j - acc.size) h) where
  sub := W.sub
  frame := fun i h h' st hk => ⟨st.1, W.frame _ h h' st.2 hk⟩
  item := fun i s Q E hi st hQ => W.item (i - acc.size) s Q E (by (first | lia | omega)) st.2 fun v h' tk hp st' hk => hQ v h' tk (by unfold ShP; rw [if_neg (by (first | lia | omega))]; exact hp)
    ⟨by (first | lia | omega), by rw [show i + 1 - acc.size = i - acc.size + 1 by (first | lia | omega)]; exact st'⟩ hk
  done := fun s Q E st hQ => W.done s Q E (by have := st.2; rwa [Nat.add_sub_cancel_left] at this) hQ
  self := fun i s Q E st hQ => W.self _ s Q E st.2 hQ

section
variable {prog : Program} {w : World} {A : Around} {E : Value → Shared → Prop} {s : Shared}

theorem hint_rev {I t : Addr} {i : Int} {its : Array Value} {m : Nat} {P : Bool → Shared → Prop} (hI : s.heap.get? I = some (revT t i)) (ht : s.heap.get? t = some (tupObj its m)) (h0 : -1 ≤ i) (h1 : i + 1 ≤ its.size) (hz : its.size ≤ big)
    (q : ∀ b tk, P b { s with toks := tk }) : wpAny (model prog w) A (Builtin.List.listLengthHint (.ref I)) P E s := by
  have hb : (its.size : Int) ≤ big := by exact_mod_cast hz
  have hb2 := big63
  have hT : s.TypeIs (.ref I) "reversed" := ⟨_, hI, rfl⟩
  unfold Builtin.List.listLengthHint
  refine wpAny_bind (wpAny_specialOf hT no_rev_len ?_)
  refine wpAny_ite_split (fun hab => absurd hab (by decide)) (fun _ => ?_)
  refine wpAny_ite_split (fun hab => absurd hab (by decide)) (fun _ => ?_)
  refine wpAny_bind (wpAny_specialOf hT slot_rev_hint.lookup ?_)
  generalize hid : ("reversed.__length_hint__" : String) = id0
  wp_delta
  rw [show splitId id0 = some ("reversed", "__length_hint__") from by subst hid; decide +kernel]
  subst hid
  refine wpAny_bind (wpAny_isInstance (T := "reversed") (b := true) hT (by rw [isSubtype_type]; kernel_rfl) ?_)
  refine wpAny_ite_split (fun hab => absurd hab (by decide)) (fun _ => ?_)
  refine wpAny_ite_split (fun hab => absurd hab (by decide +kernel)) (fun _ => ?_)
  refine wpAny_bind (wpAny_rule ?_)
  refine wpAny_bind (wpAny_of_eq (slot_rev_hint.bind _) ?_)
  try dsimp only
  refine wpAny_bind (wpAny_attempt (wpAny_call_entry slot_rev_hint hT entry_rev_hint ?_ (args_rev_hint _)))
  unfold Builtin.«reversed.__length_hint__»
  refine wpAny_bind (wpAny_of_eq (a := Value.ref I) (by first | rfl | kernel_rfl) ?_)
  refine wpAny_bind (wpAny_field hI rfl (x := .ref t) rfl ?_)
  refine wpAny_ite_split (fun hab => absurd hab Bool.false_ne_true) (fun _ => ?_)
  refine wpAny_bind (PySem.P.len_tuple ht (by (first | lia | omega)) ?_)
  refine wpAny_bind (wpAny_of_eq (a := some (its.size : Int)) (by first | rfl | kernel_rfl) ?_)
  try dsimp only
  refine wpAny_bind (wpAny_field (s := { s with toks := s.toks + 1 + 1 }) hI rfl (x := rawInt i) rfl ?_)
  show wpAny _ _ (if (its.size : Int) < i + 1 then _ else _) _ _ _
  rw [if_neg (by (first | lia | omega))]
  unfold retInt
  refine wpAny_bind (wpAny_mkInt ?_)
  refine wpAny_pure ⟨_, rfl, ?_⟩
  try dsimp only
  refine wpAny_bind (wpAny_of_eq (a := some (i + 1)) (by first | rfl | kernel_rfl) ?_)
  try dsimp only
  have f1 : Builtin.List.listFitsIndex (i + 1) = true := fitsIndex_of (by (first | lia | omega)) (by (first | lia | omega))
  refine wpAny_ite_split (fun hab => absurd hab (by rw [f1]; decide)) (fun _ => ?_)
  refine wpAny_ite_split (fun hab => absurd hab (by (first | lia | omega))) (fun _ => ?_)
  refine wpAny_ite_split (fun hab => absurd hab ?_) (fun _ => wpAny_pure (q _ _))
  have hbl := big_le
  have f2 : Builtin.List.listTooLong (i + 1).toNat = false := by
    unfold Builtin.List.listTooLong; rw [decide_eq_false_iff_not]; (first | lia | omega)
  rw [f2]; decide

theorem ext_core {T : String} {I d S : Addr} {n : Nat} {P : Nat → Value → Prop} {St : Nat → Heap → Prop} (W : Walks prog w A.in1 I [I, d] [I] n P St) (hT : s.TypeIs (.ref I) T) (nl : (Value.type T == Value.type "list") = false)
    (nt : (Value.type T == Value.type "tuple") = false) (hint : ∀ (Q : Bool → Shared → Prop), (∀ b tk, Q b { s with toks := tk }) → wpAny (model prog w) A.in1 (Builtin.List.listLengthHint (.ref I)) Q E s)
    (st : St 0 s.heap) {acc : Array Value} {c : Nat} (hS : s.heap.get? S = some (lstObj acc c)) (hSI : S ≠ I) (hSd : S ≠ d) (hz : acc.size + n ≤ big) (res : Value) {R : Result → Shared → Prop}
    (hR : ∀ h' tk acc' c', (∀ b o, b ≠ S → b ≠ I → s.heap.get? b = some o → h'.get? b = some o) → h'.get? S = some (lstObj acc' c') → ItemsOf (ShP acc P) acc' (acc.size + n) → R (.ok (.ret res)) { s with heap := h', toks := tk }) :
    wpAny (model prog w) A.in1 (Builtin.List.listExtendWith (.ref S) (.ref I) res)
      (fun fin s' => match fin with | .done f => R (.ok f) s' | .again c' => c'.quiet = true ∧ codeAny (model prog w) A c' R s') E s := by
  have hbl := big_le
  have hSf : S ∉ [I, d] := by simp only [List.mem_cons, List.not_mem_nil, or_false, not_or]; exact ⟨hSI, hSd⟩
  have key : ∀ (h : Heap) (c₁ tk : Nat), (∀ b o, b ≠ S → s.heap.get? b = some o → h.get? b = some o) → h.get? S = some (lstObj acc c₁) →
      codeAny (model prog w) A (.builtin "list.extend.loop" ⟨[.ref S, .ref I, res], []⟩) R { s with heap := h, toks := tk } := by
    intro h c₁ tk hk hS₁
    have st' : St 0 h := W.frame 0 _ _ st fun b hb o e => hk b o (fun q => hSf (q ▸ hb)) e
    refine codeAny_extend_loopS (shiftW W acc).toS (by (first | lia | omega)) S hSf res n acc.size _ acc c₁ (by (first | lia | omega)) (Nat.le_add_right _ _) ⟨Nat.le_refl _, by rw [Nat.sub_self]; exact st'⟩ hS₁ ⟨rfl, fun j v e => ?_⟩ fun s' acc' c' hm hS' hacc => ?_
    · unfold ShP; rw [if_pos (Array.getElem?_eq_some_iff.mp e).1]; exact e
    · rw [Moved.eq_with hm]
      refine hR s'.heap s'.toks acc' c' (fun b o hb hbI e => hm.heap b o (fun hmem => ?_) (hk b o hb e)) hS' hacc
      rcases List.mem_cons.mp hmem with e' | hmem
      · exact hb e'
      · exact hbI (List.mem_singleton.mp hmem)
  unfold Builtin.List.listExtendWith
  refine wpAny_bind (wpAny_typeOf (T := T) hT ?_)
  have h1 : Builtin.List.listSameRef (.ref S) (.ref I) = false := by simp [Builtin.List.listSameRef, hSI]
  simp only [h1, nl, nt, Bool.or_false, Bool.false_eq_true, if_false]
  refine wpAny_bind (W.self 0 _ _ _ st ?_)
  refine wpAny_bind (wpAny_holding (hint _ fun b tk => ?_))
  refine wpAny_ite_split (fun _ => ?_) (fun _ => wpAny_pure ⟨plainId_quiet PySem.F.plain_extend_loop _, key _ c tk (fun b o _ e => e) hS⟩)
  refine wpAny_bind (wpAny_rule ?_)
  refine wpAny_bind ?_
  show wpAny _ _ (updateSeq S (·.push .none) >>= fun _ => updateSeq S (·.pop)) _ _ _
  refine wpAny_bind (wpAny_updateSeq (s := { s with toks := tk }) hS rfl ?_ (by (first | lia | omega)) (by rw [Array.size_push]; (first | lia | omega)))
  have hS₂ := Heap.get?_update_self (Obj.mapSeq (·.push Value.none)) hS rfl
  refine wpAny_updateSeq (s := { s with heap := s.heap.update S (Obj.mapSeq (·.push Value.none)), toks := tk }) hS₂ rfl ?_ (by rw [Array.size_push]; unfold big at hz; rw [sizeLine_eq]; (first | lia | omega)) (by rw [Array.size_pop, Array.size_push]; (first | lia | omega))
  have hS₃ := Heap.get?_update_self (Obj.mapSeq (·.pop)) hS₂ rfl
  obtain ⟨c2, hS₄⟩ : ∃ c2, ((s.heap.update S (Obj.mapSeq (·.push Value.none))).update S (Obj.mapSeq (·.pop))).get? S = some (lstObj acc c2) := by
    rw [hS₃]
    obtain ⟨k, e1⟩ : ∃ k, Obj.mapSeq (·.push Value.none) (lstObj acc c) = lstObj (acc.push .none) k := ⟨_, rfl⟩
    rw [e1]
    obtain ⟨k', e2⟩ : ∃ k', Obj.mapSeq (·.pop) (lstObj (acc.push .none) k) = lstObj ((acc.push .none).pop) k' := ⟨_, rfl⟩
    rw [e2, Array.pop_push]
    exact ⟨_, rfl⟩
  refine wpAny_pure ⟨plainId_quiet PySem.F.plain_extend_loop _, key _ c2 tk (fun b o hb e => ?_) hS₄⟩
  exact (Heap.get?_update_other _ _ (Ne.symm hb)).trans ((Heap.get?_update_other _ _ (Ne.symm hb)).trans e)

theorem call_extend_iter {T : String} {I d S : Addr} {n : Nat} {P : Nat → Value → Prop} {St : Nat → Heap → Prop} (W : Walks prog w A.in1 I [I, d] [I] n P St) (hT : s.TypeIs (.ref I) T) (nl : (Value.type T == Value.type "list") = false)
    (nt : (Value.type T == Value.type "tuple") = false) (hint : ∀ (E : Value → Shared → Prop) (Q : Bool → Shared → Prop), (∀ b tk, Q b { s with toks := tk }) → wpAny (model prog w) A.in1 (Builtin.List.listLengthHint (.ref I)) Q E s)
    (st : St 0 s.heap) {acc : Array Value} {c : Nat} (hS : s.heap.get? S = some (lstObj acc c)) (hSI : S ≠ I) (hSd : S ≠ d) (hz : acc.size + n ≤ big) {Q : Value → Shared → Prop}
    (hQ : ∀ h' tk acc' c', (∀ b o, b ≠ S → b ≠ I → s.heap.get? b = some o → h'.get? b = some o) → h'.get? S = some (lstObj acc' c') → ItemsOf (ShP acc P) acc' (acc.size + n) → Q .none { s with heap := h', toks := tk }) :
    wpAny (model prog w) A (call (.builtin "list.extend") [.ref S, .ref I]) Q E s := by
  have g : MeetsIn prog w (Builtin.«list.extend» ⟨[.ref S, .ref I], []⟩) (fun A' R s' => A' = A ∧ s' = s ∧
      ∀ h' tk acc' c', (∀ b o, b ≠ S → b ≠ I → s.heap.get? b = some o → h'.get? b = some o) → h'.get? S = some (lstObj acc' c') → ItemsOf (ShP acc P) acc' (acc.size + n) → R (.ok (.ret .none)) { s with heap := h', toks := tk }) := by
    rintro A' R s' ⟨rfl, rfl, hR⟩
    show wpAny _ _ (Builtin.List.listExtendWith (.ref S) (.ref I) .none) _ _ _
    exact ext_core W hT nl nt (hint _) st hS hSI hSd hz .none hR
  exact call_meetsIn F.slot_list_extend ⟨_, hS, rfl⟩ F.entry_list_extend (F.args_list_extend_2 _ _) g ⟨rfl, rfl, hQ⟩

theorem call_list_iter {T : String} {I d : Addr} {n : Nat} {P : Nat → Value → Prop} {St : Nat → Heap → Prop} (W : Walks prog w A.in1.in1 I [I, d] [I] n P St) (hT : s.TypeIs (.ref I) T) (nl : (Value.type T == Value.type "list") = false)
    (nt : (Value.type T == Value.type "tuple") = false) (hint : ∀ (E : Value → Shared → Prop) (h : Heap) (Q : Bool → Shared → Prop), (∀ b o, s.heap.get? b = some o → h.get? b = some o) → (∀ b tk, Q b { s with heap := h, toks := tk }) → wpAny (model prog w) A.in1.in1 (Builtin.List.listLengthHint (.ref I)) Q E { s with heap := h })
    (st : St 0 s.heap) (hd : ∃ o, s.heap.get? d = some o) (hz : n ≤ big) {Q : Value → Shared → Prop}
    (hQ : ∀ h' tk acc' c', (∀ b o, b ≠ I → s.heap.get? b = some o → h'.get? b = some o) → h'.get? s.heap.objs.size = some (lstObj acc' c') → ItemsOf P acc' n → Q (.ref s.heap.objs.size) { s with heap := h', toks := tk }) :
    wpAny (model prog w) A (call (.type "list") [.ref I]) Q E s := by
  have hbl := big_le
  refine callType_codes (Q₁ := fun obj s₁ => obj = .ref s.heap.objs.size ∧ s₁ = { s with heap := s.heap.push (lstObj #[] 0) }) F.called_list (F.typeCall_list_1 _) F.entry_list_init
    (code_list_new _ ⟨rfl, rfl⟩) fun obj s₁ h₁ => ?_
  obtain ⟨rfl, rfl⟩ := h₁
  have hS : (s.heap.push (lstObj #[] 0)).get? s.heap.objs.size = some (lstObj #[] 0) := Heap.get?_push_size _ rfl
  obtain ⟨oI, hI, hIc⟩ := hT
  obtain ⟨od, hdg⟩ := hd
  have hSI : s.heap.objs.size ≠ I := Nat.ne_of_gt (Heap.lt_size hI)
  have hSd : s.heap.objs.size ≠ d := Nat.ne_of_gt (Heap.lt_size hdg)
  refine ⟨⟨_, hS, rfl⟩, F.args_list_init_2 _ _, ?_⟩
  show wpAny _ _ (do let old ← Builtin.List.listItems (.ref s.heap.objs.size); Builtin.List.listUpdate (.ref s.heap.objs.size) (fun _ => #[]); letGo old.toList.reverse; Builtin.List.listExtendWith (.ref s.heap.objs.size) (.ref I) .none) _ _ _
  refine wpAny_bind ?_
  unfold Builtin.List.listItems
  refine wpAny_bind (wpAny_seqItems hS rfl (wpAny_pure ?_))
  show wpAny _ _ (updateSeq s.heap.objs.size (fun _ => #[]) >>= fun _ => letGo (#[] : Array Value).toList.reverse >>= fun _ => Builtin.List.listExtendWith (.ref s.heap.objs.size) (.ref I) .none) _ _ _
  refine wpAny_bind (wpAny_updateSeq hS rfl ?_)
  obtain ⟨c2, hS₂⟩ : ∃ c2, ((s.heap.push (lstObj #[] 0)).update s.heap.objs.size (Obj.mapSeq (fun _ => (#[] : Array Value)))).get? s.heap.objs.size = some (lstObj #[] c2) :=
    ⟨_, Heap.get?_update_self (Obj.mapSeq (fun _ => (#[] : Array Value))) hS rfl⟩
  have oth : ∀ b o, s.heap.get? b = some o → ((s.heap.push (lstObj #[] 0)).update s.heap.objs.size (Obj.mapSeq (fun _ => (#[] : Array Value)))).get? b = some o :=
    fun b o e => (Heap.get?_update_other _ _ (Nat.ne_of_gt (Heap.lt_size e))).trans (Heap.get?_push_of_some _ e)
  refine wpAny_bind (wpAny_letGo ?_)
  refine ext_core (A := A.in1) (s := { s with heap := (s.heap.push (lstObj #[] 0)).update s.heap.objs.size (Obj.mapSeq (fun _ => (#[] : Array Value))) }) W ⟨oI, oth _ _ hI, hIc⟩ nl nt (fun Q q => hint _ _ Q oth q)
    (W.frame 0 _ _ st fun b _ o e => oth _ _ e) hS₂ hSI hSd (by simpa using hz) .none fun h' tk acc' c' hk hS' hacc => ?_
  refine ⟨rfl, hQ h' tk acc' c' (fun b o hb e => hk b o (Nat.ne_of_lt (Heap.lt_size e)) hb (oth _ _ e)) hS' ⟨by simpa using hacc.1, fun j v e => ?_⟩⟩
  have := hacc.2 j v e
  unfold ShP at this
  simpa using this
end
end
section
open PySem PySem.W PyProof.Rows PySem.SeqAt

section
variable {prog : Program} {w : World} {A : Around} {g : Glb} {ρ : Rho} {σ : St} {s : Shared} {Q : PV → St → Prop} {n : Nat}

theorem all2_rev {h : Heap} {xs : List PV} {its out : Array Value} (hv : All2 (VR h ρ) xs its.toList) (hs : out.size = its.size) (hi : ∀ j v, out[j]? = some v → its[its.size - 1 - j]? = some v) : All2 (VR h ρ) xs.reverse out.toList := by
  have hl : xs.length = its.size := by have := hv.length; simpa using this
  refine All2.of_get ?_ fun i x v ex ev => ?_
  · have e2 : out.toList.length = out.size := Array.length_toList
    rw [List.length_reverse, e2, hs, hl]
  · have hlt : i < xs.length := by have := (List.getElem?_eq_some_iff.mp ex).1; simpa using this
    rw [List.getElem?_reverse hlt, hl] at ex
    have := hi i v (by simpa using ev)
    obtain ⟨u, eu, r⟩ := hv.get ex
    have e3 : its.toList[its.size - 1 - i]? = its[its.size - 1 - i]? := by simp
    rw [e3, this] at eu
    cases eu; exact r

theorem reversedL_sound {k : Nat} {xs : List PV} {o : Value} (R : Rel g ρ σ s.heap) (V : VR s.heap ρ (.obj k) o) (e : σ[k]? = some (.list xs)) {P : Value → Shared → Prop} {E : Value → Shared → Prop}
    (q : ∀ l its m, o = .ref l → ρ[k]? = some (l, l) → s.heap.get? l = some (lstObj its m) → All2 (VR s.heap ρ) xs its.toList → xs.length ≤ big → P (.ref s.heap.objs.size) { s with heap := s.heap.push (revObj l ((its.size : Int) - 1)) }) :
    wpAny (model prog w) A (call (.type "reversed") [o]) P E s := by
  obtain ⟨l, its, m, rfl, er, hg, hv, zb⟩ := V.list_inv R e
  exact call_reversed_list (isList_of hg) (q l its m rfl er hg hv zb)

theorem listRev_sound (H : Room n A) {k : Nat} {xs : List PV} {o : Value} (R : Rel g ρ σ s.heap) (V : VR s.heap ρ (.obj k) o) (e : σ[k]? = some (.list xs)) (q : Q (.obj σ.length) (σ ++ [.list xs.reverse])) :
    wpAny (model prog w) A (call (.type "reversed") [o]) (fun it s₁ => wpAny (model prog w) A (call (.type "list") [it]) (EP g ρ s Q) NoE s₁) NoE s := by
  refine reversedL_sound R V e fun l its m _ er hg hv zb => ?_
  have hl : xs.length = its.size := by have := hv.length; simpa using this
  have hIl : l ≠ s.heap.objs.size := Nat.ne_of_lt (Heap.lt_size hg)
  have W := Walks.listRev (prog := prog) (w := w) (A := A.in1.in1) H.hd s.heap.objs.size l hIl its
  have hIr : (s.heap.push (revObj l ((its.size : Int) - 1))).IsRevIter s.heap.objs.size l ((its.size : Int) - 1) := ⟨_, Heap.get?_push_size _ rfl, rfl, rfl⟩
  refine call_list_iter (s := { s with heap := s.heap.push (revObj l ((its.size : Int) - 1)) }) (T := "list_reverseiterator") W ⟨_, Heap.get?_push_size _ rfl, rfl⟩ (by decide) (by decide)
    (fun E h Q' hk q' => hint_lri ⟨_, hk _ _ (Heap.get?_push_size _ rfl), rfl⟩ (q' _ _)) ⟨Nat.zero_le _, ?_, isList_of (get_push_lt hg)⟩ ⟨_, get_push_lt hg⟩ (by (first | lia | omega)) fun h' tk acc' c' hk hS' hI => ?_
  · have : ((its.size : Int) - 1 - ((0 : Nat) : Int)) = (its.size : Int) - 1 := by (first | lia | omega)
    rw [this]; exact hIr
  · refine EP.fresh R (fun b ob eb => hk b ob (Nat.ne_of_lt (Heap.lt_size eb)) (get_push_lt eb)) ?_ hS' (all2_rev hv hI.1 hI.2) (by rw [List.length_reverse]; exact zb) q tk
    rw [Heap.size_push]; exact Nat.le_succ _

theorem extendRev_sound (H : Room n A) {k : Nat} {xs ys : List PV} {o t : Value} (R : Rel g ρ σ s.heap) (V : VR s.heap ρ (.obj k) o) (e : σ[k]? = some (.list xs)) (Vt : VR s.heap ρ (.tup ys) t) (hz : xs.length + ys.length ≤ big)
    (q : Q .none (σ.set k (.list (xs ++ ys.reverse)))) :
    wpAny (model prog w) A (call (.type "reversed") [t]) (fun it s₁ => wpAny (model prog w) A (call (.builtin "list.extend") [o, it]) (EP g ρ s Q) NoE s₁) NoE s := by
  obtain ⟨l, its, m, rfl, er, hg, hv, zb⟩ := V.list_inv R e
  obtain ⟨lt, jts, mt, rfl, hgt, hvt, zt⟩ := Vt.tup_inv
  have hl : xs.length = its.size := by have := hv.length; simpa using this
  have hlt : ys.length = jts.size := by have := hvt.length; simpa using this
  refine call_reversed_tuple hgt (by (first | lia | omega)) fun tk => ?_
  have hI : (s.heap.push (revT lt ((jts.size : Int) - 1))).get? s.heap.objs.size = some (revT lt ((jts.size : Int) - 1)) := Heap.get?_push_size _ rfl
  have hgt' := get_push_lt (o := revT lt ((jts.size : Int) - 1)) hgt
  have hg' := get_push_lt (o := revT lt ((jts.size : Int) - 1)) hg
  have hIt : lt ≠ s.heap.objs.size := Nat.ne_of_lt (Heap.lt_size hgt)
  have hIl : l ≠ s.heap.objs.size := Nat.ne_of_lt (Heap.lt_size hg)
  have hllt : l ≠ lt := fun q => by rw [q, hgt] at hg; exact NotT.list.1 _ _ (Option.some.inj hg).symm
  have W := walks_revT (prog := prog) (w := w) (A := A.in1) H.hd s.heap.objs.size lt hIt jts mt (by (first | lia | omega))
  refine call_extend_iter (s := { s with heap := s.heap.push (revT lt ((jts.size : Int) - 1)), toks := tk }) (T := "reversed") (acc := its) (c := m) (n := jts.size) W ⟨_, hI, rfl⟩ (by decide) (by decide)
    (fun E Q' q' => hint_rev hI hgt' (by (first | lia | omega)) (by (first | lia | omega)) (by (first | lia | omega)) q') ⟨Nat.zero_le _, by rw [show ((jts.size : Int) - 1 - ((0 : Nat) : Int)) = (jts.size : Int) - 1 by (first | lia | omega)]; exact hI, hgt'⟩ hg' hIl hllt (by (first | lia | omega)) fun h' tk' acc' c' hk hS' hI' => ?_
  have keep : ∀ b ob, b ≠ l → s.heap.get? b = some ob → h'.get? b = some ob := fun b ob hb eb => hk b ob hb (Nat.ne_of_lt (Heap.lt_size eb)) (get_push_lt eb)
  have hX : Xok [l] ρ s.heap := fun a ha => by rw [List.mem_singleton.mp ha]; exact ⟨_, hg, .list⟩
  have S0 : Step [l] ρ s.heap ρ h' := ⟨⟨[], by simp, by simp⟩, fun a ob ea => by
    by_cases qa : a = l
    · exact ⟨_, qa ▸ hS'⟩
    · exact ⟨_, keep a ob qa ea⟩, fun a ob ea _ hx => keep a ob (fun qa => hx (by simp [qa])) ea⟩
  have S : Step [] ρ s.heap ρ h' := ⟨S0.ext, S0.live, fun a ob ea hn _ => keep a ob (fun qa => hn (qa ▸ mem_own er)) ea⟩
  have V1 : All2 (VR h' ρ) (xs ++ ys.reverse) acc'.toList := by
    refine All2.of_get ?_ fun i x v ex ev => ?_
    · have e2 : acc'.toList.length = acc'.size := Array.length_toList
      rw [List.length_append, List.length_reverse, e2, hI'.1, hl, hlt]
    · have hp := hI'.2 i v (by simpa using ev)
      unfold ShP at hp
      by_cases hi : i < its.size
      · rw [if_pos hi] at hp
        rw [List.getElem?_append_left (by (first | lia | omega))] at ex
        obtain ⟨u, eu, r⟩ := hv.get ex
        have e3 : its.toList[i]? = its[i]? := by simp
        rw [e3, hp] at eu; cases eu
        exact r.step R hX S0
      · rw [if_neg hi] at hp
        rw [List.getElem?_append_right (by (first | lia | omega)), hl] at ex
        have hj : i - its.size < ys.length := by have := (List.getElem?_eq_some_iff.mp ex).1; simpa using this
        rw [List.getElem?_reverse hj, hlt] at ex
        obtain ⟨u, eu, r⟩ := hvt.get ex
        have e3 : jts.toList[jts.size - 1 - (i - its.size)]? = jts[jts.size - 1 - (i - its.size)]? := by simp
        rw [e3, hp] at eu; cases eu
        exact r.step R hX S0
  have hko : ∀ a its' n', s.heap.get? a = some (tupObj its' n') → h'.get? a = some (tupObj its' n') := R.tupKeep hX S0
  have hki : ∀ a C dx, s.heap.get? a = some (instObj C dx) → h'.get? a = some (instObj C dx) := R.instKeep hX S0
  refine ⟨.none, σ.set k (.list (xs ++ ys.reverse)), ρ, ⟨_, _, rfl⟩, S, ?_, .none, q⟩
  exact {
    keep := fun b ob eb => keep b ob (fun qb => by rw [qb, R.above _ (List.mem_of_getElem? er)] at eb; cases eb) (R.keep b ob eb)
    low := R.low
    mods := R.mods
    above := R.above
    nodup := R.nodup
    len := by rw [List.length_set]; exact R.len
    objs := fun j oj p ej ep => by
      by_cases hjk : j = k
      · subst hjk
        rw [er] at ep; cases ep
        rw [List.getElem?_set_self (List.getElem?_eq_some_iff.mp e).1] at ej
        cases ej
        exact ⟨rfl, by rw [List.length_append, List.length_reverse]; (first | lia | omega), _, _, hS', V1⟩
      · rw [List.getElem?_set_ne (Ne.symm hjk)] at ej
        have := (R.objs j oj p ej ep).keep (δ := []) hko hki fun ob eo => keep _ _ (R.own_ne ep er hjk) eo
        rwa [List.append_nil] at this
    fro := fun j zs p ej ep => by
      by_cases hjk : j = k
      · subst hjk
        rw [List.getElem?_set_self (List.getElem?_eq_some_iff.mp e).1] at ej
        cases ej
      · rw [List.getElem?_set_ne (Ne.symm hjk)] at ej
        obtain ⟨o, eo, _⟩ := R.owned (mem_own ep)
        rw [keep _ _ (R.own_ne ep er hjk) eo, ← R.fro j zs p ej ep, eo] }
end
end
section
open PySem PySem.W PyProof.Rows

structure EnvS (cc : CC) (env : Env) : Prop where
  kind : env.scope.kind = .function
  gl : env.globals = mainGlobals
  bl : env.builtins = builtinsNs
  nm : ∀ x, env.kindOf x = cc.names.lookup x
  vk : ∀ x i, cc.vars.lookup x = some i → env.kindOf x = some .local ∨ (env.kindOf x = some .cell ∧ ∃ c, env.cells.lookup x = some c)
  inj : ∀ x y i, cc.vars.lookup x = some i → cc.vars.lookup y = some i → x = y
  cinj : ∀ x y c, env.cells.lookup x = some c → env.cells.lookup y = some c → x = y
  cl : ∀ x c, env.cells.lookup x = some c → c ≠ env.locals
  cc : ∀ x, env.kindOf x = some .cell → ∃ c, env.cells.lookup x = some c

noncomputable def Xof (env : Env) : List Addr := env.locals :: (env.cells.filter fun p => env.cells.lookup p.1 == some p.2).map (·.2)
theorem lk_mem {α : Type} : ∀ {l : List (Str × α)} {x : Str} {c : α}, l.lookup x = some c → (x, c) ∈ l := PySem.mem_of_lookup
theorem mem_X {env : Env} {a : Addr} (h : a ∈ Xof env) : a = env.locals ∨ ∃ x, env.cells.lookup x = some a := by
  rcases List.mem_cons.mp h with h | h
  · exact .inl h
  · obtain ⟨p, hp, rfl⟩ := List.mem_map.mp h
    exact .inr ⟨p.1, beq_iff_eq.mp (List.mem_filter.mp hp).2⟩
theorem X_loc (env : Env) : env.locals ∈ Xof env := List.mem_cons_self
theorem X_cell {env : Env} {x : Str} {c : Addr} (h : env.cells.lookup x = some c) : c ∈ Xof env :=
  List.mem_cons_of_mem _ (List.mem_map.mpr ⟨(x, c), List.mem_filter.mpr ⟨lk_mem h, beq_iff_eq.mpr h⟩, rfl⟩)

structure LRel (g : Glb) (cc : CC) (env : Env) (ρ : Rho) (lm : LM) (h : Heap) : Prop where
  ns : ∃ m, h.Ns env.locals m ∧ ∀ x i v, cc.vars.lookup x = some i → lm i = some v → env.kindOf x = some .local → ∃ u, m x = some u ∧ VR h ρ v u
  cell : ∀ x c, env.cells.lookup x = some c → ∃ o, h.IsCell c o ∧ ∀ i v, cc.vars.lookup x = some i → lm i = some v → env.kindOf x = some .cell → ∃ u, o = some u ∧ VR h ρ v u
  own : ∀ a ∈ Xof env, a ∉ ρ.map (·.2) ∧ g.h₀.get? a = none

section
variable {g : Glb} {cc : CC} {env : Env} {ρ ρ' : Rho} {lm : LM} {σ : St} {h h' : Heap}

theorem LRel.live (L : LRel g cc env ρ lm h) {a : Addr} (ha : a ∈ Xof env) : ∃ o, h.get? a = some o ∧ NotT o := by
  rcases mem_X ha with rfl | ⟨x, hx⟩
  · obtain ⟨m, ⟨o, es, ep, ho, hd, _⟩, _⟩ := L.ns
    exact ⟨o, ho, NotT.dict hd⟩
  · obtain ⟨o, ⟨ob, ho, hd⟩, _⟩ := L.cell x a hx
    exact ⟨ob, ho, NotT.cell hd⟩
theorem LRel.xok (L : LRel g cc env ρ lm h) : Xok (Xof env) ρ h := fun _ ha => L.live ha

theorem LRel.step {X : List Addr} (R : Rel g ρ σ h) (L : LRel g cc env ρ lm h) (hX : Xok X ρ h) (hd : ∀ a ∈ Xof env, a ∉ X) (S : Step X ρ h ρ' h') : LRel g cc env ρ' lm h' := by
  have kp : ∀ a ∈ Xof env, ∀ o, h.get? a = some o → h'.get? a = some o := fun a ha o e => S.keep a o e (L.own a ha).1 (hd a ha)
  refine ⟨?_, ?_, ?_⟩
  · obtain ⟨m, hn, hm⟩ := L.ns
    refine ⟨m, hn.at' (kp _ (X_loc env)), fun x i v hx hv hk => ?_⟩
    obtain ⟨u, e, V⟩ := hm x i v hx hv hk
    exact ⟨u, e, V.step R hX S⟩
  · intro x c hx
    obtain ⟨o, ⟨ob, ho, hdt⟩, hm⟩ := L.cell x c hx
    refine ⟨o, ⟨ob, kp _ (X_cell hx) _ ho, hdt⟩, fun i v hi hv hk => ?_⟩
    obtain ⟨u, e, V⟩ := hm i v hi hv hk
    exact ⟨u, e, V.step R hX S⟩
  · intro a ha
    refine ⟨fun q => ?_, (L.own a ha).2⟩
    obtain ⟨δ, rfl, hδ⟩ := S.ext
    rw [List.map_append, List.mem_append] at q
    rcases q with q | q
    · exact (L.own a ha).1 q
    · obtain ⟨p, hp, rfl⟩ := List.mem_map.mp q
      obtain ⟨o, ho, _⟩ := L.live ha
      rw [hδ p hp] at ho; cases ho
theorem LRel.step0 (R : Rel g ρ σ h) (L : LRel g cc env ρ lm h) (S : Step [] ρ h ρ' h') : LRel g cc env ρ' lm h' := L.step R xok_nil (fun _ _ q => nomatch q) S
end

section
variable {prog : Program} {w : World} {A : Around} {E : Value → Shared → Prop} {s : Shared} {g : Glb} {cc : CC} {env : Env} {ρ : Rho} {lm : LM} {σ : St}

theorem load_sound (V : EnvS cc env) (L : LRel g cc env ρ lm s.heap) {x : Str} {i : Nat} {v : PV} (hx : cc.vars.lookup x = some i) (hv : lm i = some v) {Q : Value → Shared → Prop}
    (q : ∀ u, VR s.heap ρ v u → Q u s) : wpAny (model prog w) A (loadName env x) Q E s := by
  rcases V.vk x i hx with hk | ⟨hk, c, hc⟩
  · obtain ⟨m, hn, hm⟩ := L.ns
    obtain ⟨u, e, W⟩ := hm x i v hx hv hk
    exact wpAny_loadName_local V.kind hk hn e (q u W)
  · obtain ⟨o, hi, hm⟩ := L.cell x c hc
    obtain ⟨u, rfl, W⟩ := hm i v hx hv hk
    exact wpAny_loadName_cell V.kind hk hc hi (q u W)

theorem step_but {a : Addr} {h h' : Heap} (hs : Heap.SameBut a h h') (hl : ∃ o, h'.get? a = some o) : Step [a] ρ h ρ h' :=
  ⟨⟨[], by simp, by simp⟩, fun b ob eb => by
    by_cases q : b = a
    · exact q ▸ hl
    · exact ⟨ob, (hs.2 b q).trans eb⟩, fun b _ eb _ hx => (hs.2 b (by simpa using hx)).trans eb⟩

theorem store_rel {a : Addr} {h h' : Heap} (R : Rel g ρ σ h) (L : LRel g cc env ρ lm h) (ha : a ∈ Xof env) (hs : Heap.SameBut a h h') (hl : ∃ o, h'.get? a = some o) :
    Step [a] ρ h ρ h' ∧ Rel g ρ σ h' ∧ (∀ x u, VR h ρ x u → VR h' ρ x u) := by
  have S : Step [a] ρ h ρ h' := step_but hs hl
  have hX : Xok [a] ρ h := fun b hb => by rw [List.mem_singleton.mp hb]; exact L.live ha
  refine ⟨S, R.mono hX (fun b hb => by rw [List.mem_singleton.mp hb]; exact (L.own a ha).2) S fun b hb o e => ?_, fun x u V => V.step R hX S⟩
  exact (hs.2 b fun q => (L.own a ha).1 (q ▸ hb)).trans e

theorem store_sound (V : EnvS cc env) (R : Rel g ρ σ s.heap) (L : LRel g cc env ρ lm s.heap) {x : Str} {i : Nat} {v : PV} {u : Value} (hx : cc.vars.lookup x = some i) (Vu : VR s.heap ρ v u) {Q : Unit → Shared → Prop}
    (q : ∀ s' a, a ∈ Xof env → (env.kindOf x = some .local → a = env.locals) → Like s s' → Step [a] ρ s.heap ρ s'.heap → Rel g ρ σ s'.heap → LRel g cc env ρ (upd lm i v) s'.heap → VR s'.heap ρ v u → Q () s') : wpAny (model prog w) A (storeName env x u) Q E s := by
  rcases V.vk x i hx with hk | ⟨hk, c, hc⟩
  · obtain ⟨m, hn, hm⟩ := L.ns
    refine wpAny_storeName_local hk hn (fun h' hn' hs' => ?_) (by rw [V.kind]; rfl)
    have hl : ∃ o, h'.get? env.locals = some o := by obtain ⟨o, _, _, ho, _⟩ := hn'; exact ⟨o, ho⟩
    obtain ⟨S, R', kv⟩ := store_rel R L (X_loc env) hs' hl
    refine q _ _ (X_loc env) (fun _ => rfl) (Like.mk s h' _) S R' ⟨⟨_, hn', fun y j z hy hz hky => ?_⟩, fun y c hc => ?_, L.own⟩ (kv _ _ Vu)
    · by_cases e : y = x
      · subst e
        rw [hx] at hy; cases hy
        refine ⟨u, by simp, ?_⟩
        simp only [upd, if_true] at hz; cases hz
        exact kv _ _ Vu
      · have hji : j ≠ i := fun q => e (V.inj y x i (q ▸ hy) hx)
        rw [upd, if_neg hji] at hz
        obtain ⟨u', e', V'⟩ := hm y j z hy hz hky
        exact ⟨u', by simp [e, e'], kv _ _ V'⟩
    · obtain ⟨o, hi, hm'⟩ := L.cell y c hc
      refine ⟨o, hi.sameBut hs' (V.cl y c hc), fun j z hj hz hky => ?_⟩
      have hyx : y ≠ x := fun e => by subst e; rw [hk] at hky; cases hky
      have hji : j ≠ i := fun q => hyx (V.inj y x i (q ▸ hj) hx)
      rw [upd, if_neg hji] at hz
      obtain ⟨u', e', V'⟩ := hm' j z hj hz hky
      exact ⟨u', e', kv _ _ V'⟩
  · obtain ⟨o, hi, hm⟩ := L.cell x c hc
    refine wpAny_storeName_cell V.kind hk hc hi fun h' hc' hs' => ?_
    have hl : ∃ o, h'.get? c = some o := by obtain ⟨o, ho, _⟩ := hc'; exact ⟨o, ho⟩
    obtain ⟨S, R', kv⟩ := store_rel R L (X_cell hc) hs' hl
    obtain ⟨m, hn, hmn⟩ := L.ns
    refine q _ _ (X_cell hc) (fun z => by rw [hk] at z; cases z) (Like.mk s h' _) S R' ⟨⟨m, hn.sameBut hs' (V.cl x c hc).symm, fun y j z hy hz hky => ?_⟩, fun y d hd => ?_, L.own⟩ (kv _ _ Vu)
    · have hyx : y ≠ x := fun e => by subst e; rw [hk] at hky; cases hky
      have hji : j ≠ i := fun q => hyx (V.inj y x i (q ▸ hy) hx)
      rw [upd, if_neg hji] at hz
      obtain ⟨u', e', V'⟩ := hmn y j z hy hz hky
      exact ⟨u', e', kv _ _ V'⟩
    · by_cases e : y = x
      · subst e
        rw [hc] at hd; cases hd
        refine ⟨some u, hc', fun j z hj hz hky => ⟨u, rfl, ?_⟩⟩
        rw [hx] at hj; cases hj
        simp only [upd, if_true] at hz; cases hz
        exact kv _ _ Vu
      · obtain ⟨o', hi', hm'⟩ := L.cell y d hd
        refine ⟨o', hi'.sameBut hs' fun q => e (V.cinj y x c (q ▸ hd) hc), fun j z hj hz hky => ?_⟩
        have hji : j ≠ i := fun q => e (V.inj y x i (q ▸ hj) hx)
        rw [upd, if_neg hji] at hz
        obtain ⟨u', e', V'⟩ := hm' j z hj hz hky
        exact ⟨u', e', kv _ _ V'⟩
end

theorem Rel.away {g : Glb} {ρ : Rho} {σ : St} {h h' : Heap} {Y : List Addr} (R : Rel g ρ σ h) (hY : ∀ a ∈ Y, a ∉ ρ.map (·.2) ∧ g.h₀.get? a = none ∧ ∀ o, h.get? a = some o → NotT o)
    (k : ∀ a o, a ∉ Y → h.get? a = some o → h'.get? a = some o) : Rel g ρ σ h' ∧ ∀ a its n, h.get? a = some (tupObj its n) → h'.get? a = some (tupObj its n) := by
  have kt : ∀ a its n, h.get? a = some (tupObj its n) → h'.get? a = some (tupObj its n) := fun a its n e => k a _ (fun q => ((hY a q).2.2 _ e).1 _ _ rfl) e
  have ki : ∀ a C dx, h.get? a = some (instObj C dx) → h'.get? a = some (instObj C dx) := fun a C dx e => k a _ (fun q => ((hY a q).2.2 _ e).2 _ _ rfl) e
  refine ⟨⟨fun b o e => k b o (fun q => by rw [(hY b q).2.1] at e; cases e) (R.keep b o e), R.low, R.mods, R.above, R.nodup, R.len, fun j o p e1 e2 => ?_, fun j xs p e1 e2 => by
    obtain ⟨o, eo, _⟩ := R.owned (mem_own e2)
    rw [k _ o (fun q => (hY _ q).1 (mem_own e2)) eo, ← R.fro j xs p e1 e2, eo]⟩, kt⟩
  have := (R.objs j o p e1 e2).keep (δ := []) kt ki fun ob eo => k _ _ (fun q => (hY _ q).1 (mem_own e2)) eo
  rwa [List.append_nil] at this
theorem Step.fin {ρ ρ' : Rho} {h h' h3 : Heap} {Y : List Addr} (S : Step Y ρ h ρ' h') (hY : ∀ a ∈ Y, h.get? a = none) (k : ∀ a o, a ∉ Y → h'.get? a = some o → h3.get? a = some o) : Step [] ρ h ρ' h3 := by
  have ny : ∀ a o, h.get? a = some o → a ∉ Y := fun a o e q => by rw [hY a q] at e; cases e
  exact ⟨S.ext, fun a o e => by obtain ⟨o', e'⟩ := S.live a o e; exact ⟨o', k a o' (ny a o e) e'⟩, fun a o e hn _ => k a o (ny a o e) (S.keep a o e hn (ny a o e))⟩
theorem Step.own {ρ ρ' : Rho} {h h' : Heap} {Y : List Addr} (S : Step Y ρ h ρ' h') {a : Addr} (ha : a ∉ ρ.map (·.2)) (hl : ∃ o, h.get? a = some o) : a ∉ ρ'.map (·.2) := by
  obtain ⟨δ, rfl, hδ⟩ := S.ext
  rw [List.map_append, List.mem_append]
  rintro (q | q)
  · exact ha q
  · obtain ⟨p, hp, rfl⟩ := List.mem_map.mp q
    obtain ⟨o, ho⟩ := hl
    rw [hδ p hp] at ho; cases ho

structure Base (K : Frag) (g : Glb) : Prop where
  X : K.In g.h₀
  at' : g.AT = attrAt
  T : ∃ p loose mg mb, TopRead p loose mg mb g.h₀

section
variable {prog : Program} {w : World} {A : Around} {E : Value → Shared → Prop} {s : Shared} {g : Glb} {cc : CC} {env : Env} {ρ : Rho} {lm : LM} {σ : St} {K : Frag}
theorem Base.in (B : Base K g) (R : Rel g ρ σ s.heap) : K.In s.heap := by
  exact B.X.keeps R.keep
theorem nameG_sound (B : Base K g) (V : EnvS cc env) (R : Rel g ρ σ s.heap) {x : Str} (hi : cc.implicit x = true) {v : Value} (e : gval K x = some v) {pos : Pos} {Q : Value → Shared → Prop} (q : Q v s) :
    wpAny (model prog w) A (eval (.Name x pos) env) Q E s := by
  obtain ⟨p, loose, mg, mb, T⟩ := B.T
  simp only [CC.implicit, Bool.and_eq_true, beq_iff_eq, bne_iff_ne, ne_eq] at hi
  have e' : nsIn K mainGlobals x = some (some v) := by
    unfold gval at e
    cases h : nsIn K mainGlobals x with
    | none => rw [h] at e; cases e
    | some o => rw [h] at e; cases o with
      | none => cases e
      | some u => cases e; rfl
  refine PySem.Calls.Name_function_global V.kind ((V.nm x).trans hi.1.2) (PySem.Calls.loadGlobal_global (env := env) (V.gl ▸ T.g.keeps R.keep) (mg_of B.X T.g e') q) ?_
  simpa using hi.2
theorem nameB_sound (B : Base K g) (V : EnvS cc env) (R : Rel g ρ σ s.heap) {x : Str} (hi : cc.implicit x = true) (e : isB K x = true) (hn : x ≠ "__name__") {v : Value} (hv : bootBuiltins x = some v) {pos : Pos} {Q : Value → Shared → Prop} (q : Q v s) :
    wpAny (model prog w) A (eval (.Name x pos) env) Q E s := by
  obtain ⟨p, loose, mg, mb, T⟩ := B.T
  simp only [CC.implicit, Bool.and_eq_true, beq_iff_eq, bne_iff_ne, ne_eq] at hi
  have e' : nsIn K mainGlobals x = some none := by
    unfold isB at e
    split at e
    · assumption
    · cases e
  refine PySem.Calls.Name_function_global V.kind ((V.nm x).trans hi.1.2) (PySem.Calls.loadGlobal_builtin (env := env) (V.gl ▸ T.g.keeps R.keep) (mg_none_of B.X T.g e') (V.bl ▸ T.b.keeps R.keep) ((T.builtins x hn).trans hv) q) ?_
  simpa using hi.2
end
end
section
open PySem PySem.W PyProof.Rows

theorem attrAt_of {nm : Str} {a : Nat} (h : attrId nm = some a) : attrAt a = nm ∧ a < AN.length := by
  unfold attrId at h
  obtain ⟨hl, e, _⟩ := List.findIdx?_eq_some_iff_getElem.mp h
  refine ⟨?_, hl⟩
  unfold attrAt
  rw [List.getD_eq_getElem?_getD, List.getElem?_eq_getElem hl]
  exact beq_iff_eq.mp e
theorem AN_ne : ∀ a, a < AN.length → attrAt a ≠ Str.empty := by decide +kernel
theorem AN_inj : ∀ a, a < AN.length → ∀ b, b < AN.length → attrAt a = attrAt b → a = b := by decide +kernel
theorem attrAt_inj {a : Nat} (ha : a < AN.length) {i : Nat} (h : attrAt i = attrAt a) : i = a := by
  by_cases hi : i < AN.length
  · exact AN_inj i hi a ha h
  · refine absurd ?_ (AN_ne a ha)
    rw [← h]
    unfold attrAt
    rw [List.getD_eq_getElem?_getD, List.getElem?_eq_none (Nat.le_of_not_lt hi)]
    rfl

section
variable {h : Heap} {ρ : Rho} {a : Nat}
theorem isStr_self (x : Str) (t : Tok) : (Value.str x t).isStr x = true := by simp [Value.isStr]
theorem isStr_iff {x y : Str} {t : Tok} : (Value.str x t).isStr y = true ↔ x = y := by simp [Value.isStr]
theorem no_ref : ∀ {fs : List (Nat × PV)} {es : List DictEntry}, All2 (FldR attrAt h ρ) fs es → es.any (·.refKey) = false
  | [], [], _ => rfl
  | p :: fs, e :: es, H => by
    obtain ⟨t, ht⟩ := H.1.1
    rw [List.any_cons, no_ref H.2, Bool.or_false]
    simp [DictEntry.refKey, ht]
  | [], _ :: _, H => H.elim
  | _ :: _, [], H => H.elim
theorem find_some (ha : a < AN.length) : ∀ {fs : List (Nat × PV)} {es : List DictEntry} {v : PV}, All2 (FldR attrAt h ρ) fs es → fs.lookup a = some v → ∃ e, es.find? (·.key.isStr (attrAt a)) = some e ∧ VR h ρ v e.val
  | p :: fs, e :: es, v, H, hl => by
    obtain ⟨t, ht⟩ := H.1.1
    rw [List.lookup_cons] at hl
    rw [List.find?_cons, ht]
    by_cases q : p.1 = a
    · have q' : (a == p.1) = true := by simp [q]
      rw [q'] at hl
      cases hl
      rw [q, isStr_self]
      exact ⟨e, rfl, H.1.2⟩
    · have q' : (a == p.1) = false := by simp [Ne.symm q]
      rw [q'] at hl
      have : (Value.str (attrAt p.1) t).isStr (attrAt a) = false := by
        rw [Bool.eq_false_iff]; intro z; exact q (attrAt_inj ha (isStr_iff.mp z))
      rw [this]
      exact find_some ha H.2 hl
  | [], [], _, _, hl => by cases hl
  | [], _ :: _, _, H, _ => H.elim
  | _ :: _, [], _, H, _ => H.elim
theorem find_none (ha : a < AN.length) : ∀ {fs : List (Nat × PV)} {es : List DictEntry}, All2 (FldR attrAt h ρ) fs es → fs.lookup a = none → es.find? (·.key.isStr (attrAt a)) = none
  | p :: fs, e :: es, H, hl => by
    obtain ⟨t, ht⟩ := H.1.1
    rw [List.lookup_cons] at hl
    rw [List.find?_cons, ht]
    by_cases q : p.1 = a
    · have q' : (a == p.1) = true := by simp [q]
      rw [q'] at hl; cases hl
    · have q' : (a == p.1) = false := by simp [Ne.symm q]
      rw [q'] at hl
      have : (Value.str (attrAt p.1) t).isStr (attrAt a) = false := by
        rw [Bool.eq_false_iff]; intro z; exact q (attrAt_inj ha (isStr_iff.mp z))
      rw [this]
      exact find_none ha H.2 hl
  | [], [], _, _ => rfl
  | [], _ :: _, H, _ => H.elim
  | _ :: _, [], H, _ => H.elim
theorem getL_some (ha : a < AN.length) {fs : List (Nat × PV)} {es : List DictEntry} {v : PV} (H : All2 (FldR attrAt h ρ) fs es) (hl : fs.lookup a = some v) : ∃ u, getL (attrAt a) es = some (some u) ∧ VR h ρ v u := by
  obtain ⟨e, he, V⟩ := find_some ha H hl
  exact ⟨e.val, by unfold getL; rw [he], V⟩
theorem getL_none (ha : a < AN.length) {fs : List (Nat × PV)} {es : List DictEntry} (H : All2 (FldR attrAt h ρ) fs es) (hl : fs.lookup a = none) : getL (attrAt a) es = some none := by
  unfold getL; rw [find_none ha H hl]
  dsimp only
  rw [no_ref H]; rfl
theorem putL_rel (ha : a < AN.length) {hs : Int} {v : PV} {u : Value} {t : Tok} (V : VR h ρ v u) : ∀ {fs : List (Nat × PV)} {es : List DictEntry}, All2 (FldR attrAt h ρ) fs es → All2 (FldR attrAt h ρ) (fput a v fs) (putL (attrAt a) hs (.str (attrAt a) t) u es)
  | p :: fs, e :: es, H => by
    obtain ⟨t', ht⟩ := H.1.1
    unfold fput putL
    rw [ht]
    by_cases q : p.1 = a
    · rw [if_pos q, q, if_pos (isStr_self ..)]
      exact ⟨⟨⟨t', rfl⟩, V⟩, H.2⟩
    · rw [if_neg q, if_neg (by rw [isStr_iff]; exact fun z => q (attrAt_inj ha z))]
      exact ⟨⟨⟨t', ht⟩, H.1.2⟩, putL_rel ha V H.2⟩
  | [], [], _ => ⟨⟨⟨t, rfl⟩, V⟩, trivial⟩
  | [], _ :: _, H => H.elim
  | _ :: _, [], H => H.elim
end
theorem VR.handed {h : Heap} {ρ : Rho} {x : PV} {v : Value} (V : VR h ρ x v) : handedIn v = true := by cases V <;> rfl

section
variable {prog : Program} {w : World} {A : Around} {E : Value → Shared → Prop} {s : Shared} {g : Glb} {ρ : Rho} {σ : St} {K : Frag} {Q : PV → St → Prop}

theorem inst_at (hat : g.AT = attrAt) (R : Rel g ρ σ s.heap) {k : Nat} {c : Addr} {fs : List (Nat × PV)} {o : Value} (Vo : VR s.heap ρ (.obj k) o) (e : σ[k]? = some (.inst c fs)) :
    ∃ x dx es n, o = .ref x ∧ ρ[k]? = some (x, dx) ∧ s.heap.get? x = some (instObj c dx) ∧ s.heap.get? dx = some (dictOf es n) ∧ InstAt s.heap x (instObj c dx) c (some (dictOf es n)) ∧ All2 (FldR attrAt s.heap ρ) fs es := by
  obtain ⟨x, dx, es, n, rfl, hp, h1, h2, h3⟩ := Vo.inst_inv R e
  exact ⟨x, dx, es, n, rfl, hp, h1, h2, ⟨h1, rfl, rfl, h2⟩, hat ▸ h3⟩

theorem getAttr_sound (B : Base K g) (R : Rel g ρ σ s.heap) {k : Nat} {c : Addr} {fs : List (Nat × PV)} {o : Value} {v : PV} {a : Nat} {b : Bool} (ha : a < AN.length) (Vo : VR s.heap ρ (.obj k) o) (e : σ[k]? = some (.inst c fs))
    (hl : fs.lookup a = some v) (hf : fldOf K c a = true) (q : Q v σ) : wpAny (model prog w) A (getAttr o (attrAt a) b) (EP g ρ s Q) NoE s := by
  obtain ⟨x, dx, es, n, rfl, hp, h1, h2, I, H⟩ := inst_at B.at' R Vo e
  obtain ⟨u, hu, V⟩ := getL_some ha H hl
  obtain ⟨f1, f2, ⟨attr, hfi, f3⟩, f4, f5, f6⟩ := fldOf_inv hf
  exact get_value (B.in R) I (plainGet_of f1).1 (findObj_own f2 hfi f3 hu) V.handed (EP.here R V q _)

theorem getMethod_sound (B : Base K g) (R : Rel g ρ σ s.heap) {k : Nat} {c : Addr} {fs : List (Nat × PV)} {o : Value} {a : Nat} {f : Addr} {pl : Sem Bool} (ha : a < AN.length) (Vo : VR s.heap ρ (.obj k) o) (e : σ[k]? = some (.inst c fs))
    (hl : fs.lookup a = none) (hf : methOf K c a = some f) {P : Value × List Value → Shared → Prop} (q : P (.ref f, [o]) s) : keepIn K (.ref f) = true ∧ wpAny (model prog w) A (getMethod o (attrAt a) pl) P E s := by
  obtain ⟨x, dx, es, n, rfl, hp, h1, h2, I, H⟩ := inst_at B.at' R Vo e
  obtain ⟨hfi, h1, h2, h3⟩ := methOf_inv hf
  exact ⟨h3, method_fn (B.in R) I (plainGet_of h1).1 (plainGet_of h1).2 hfi (beq_iff_eq.mp h2) (by show (lookIn (attrAt a) (dictOf es n)).map _ = _; rw [lookIn_dict, getL_none ha H hl]; rfl) q⟩

theorem osa_set {R : Result → Shared → Prop} {C x dx : Addr} {ox : Obj} {es : List DictEntry} {n : Nat} {name : Str} {tk : Tok} {v : Value} (X : K.In s.heap) (I : InstAt s.heap x ox C (some (dictOf es n))) (hd : ox.dict = some dx) (hp : plainOver K C = true) (ht : takerIn K C name = some none)
    (hh : (clsIn K C).any (·.hasDict) = true) (hr : es.any (·.refKey) = false) (D : s.heap.get? dx = some (dictOf es n)) (hz : (putL name (PyData.keyHash w.params name) (.str name s.toks) v es).length ≤ 1000)
    (h : ∀ h', Heap.SameBut dx s.heap h' → h'.get? dx = some (dictOf (putL name (PyData.keyHash w.params name) (.str name s.toks) v es) (putN name es n)) → R (.ok (.ret .none)) { s with heap := h', toks := s.toks + 1 }) :
    codeAny (model prog w) A (.call (.builtin "object.__setattr__") ⟨[.ref x, .str name tk, v], []⟩) R s := by
  refine osa_open X I hp ht fun b => ?_
  obtain ⟨cd, hc, hd'⟩ := any_some hh
  have D' : (s.heap.update dx (Obj.putName name (PyData.keyHash w.params name) (.str name s.toks) v)).get? dx = some (dictOf (putL name (PyData.keyHash w.params name) (.str name s.toks) v es) (putN name es n)) := by
    have e := putName_dict name (PyData.keyHash w.params name) (.str name s.toks) v es n
    rw [← e]
    exact Heap.get?_update_self _ D (by rw [e]; rfl)
  obtain ⟨hx, hcl, hn, -⟩ := I
  obtain ⟨oc, odi, oda, osl⟩ := ox
  dsimp only at hcl hd
  subst hcl hd
  refine wpAny_bind (wpAny_pure (wpAny_bind (wpAny_bind (wpAny_loadPart hx (wpAny_bind ((looks_clsIn X hc).here ?_))))))
  rw [hd']
  refine wpAny_pure (a := some dx) (wpAny_bind (wpAny_pure (wpAny_bind ?_)))
  unfold nsSet
  refine wpAny_bind (wpAny_bind (wpAny_askSetting (wpAny_pure (wpAny_bind (wpAny_mkText (wpAny_bind (wpAny_loadPart D ?_)))))))
  dsimp only
  have c : (!es.toArray.any (·.key.isStr name) && es.toArray.any (·.refKey)) = false := by
    rw [← Array.any_toList, ← Array.any_toList]
    show (_ && es.any _) = false
    rw [hr, Bool.and_false]
  rw [aRefKeyMayBeTheName_at, c]
  refine wpAny_updatePart D ?_
  refine wpAny_bind (wpAny_lookBehind D' (pastItsLine_dict (by rw [List.size_toArray, sizeLine_eq]; (first | lia | omega))) ?_)
  exact wpAny_pure (h _ (Heap.SameBut.update ..) D')

theorem fput_len (a : Nat) (v : PV) : ∀ fs : List (Nat × PV), (fput a v fs).length ≤ fs.length + 1
  | [] => by simp [fput]
  | p :: r => by unfold fput; split <;> simp; exact fput_len a v r

theorem setAttr_sound (B : Base K g) (R : Rel g ρ σ s.heap) {o v : PV} {x y : Value} {a : Nat} (ha : a < AN.length) (Vo : VR s.heap ρ o x) (Vv : VR s.heap ρ v y) {Q : St → Prop} (h : setAttr' (fldOf K) o a v σ Q) :
    wpAny (model prog w) A (setAttr x (attrAt a) y) (fun _ => UP g ρ s Q) NoE s := by
  obtain ⟨k, c, fs, rfl, e, hf, hlen, q⟩ := h
  · obtain ⟨x', dx, es, n, rfl, hp, h1, h2, I, H⟩ := inst_at B.at' R Vo e
    obtain ⟨f1, f2, _, f4, f5, f6⟩ := fldOf_inv hf
    have hz : (putL (attrAt a) (PyData.keyHash w.params (attrAt a)) (.str (attrAt a) (s.toks + 1)) y es).length ≤ 1000 := by
      have := (putL_rel (hs := PyData.keyHash w.params (attrAt a)) (t := s.toks + 1) ha Vv H).length
      have := fput_len a v fs
      (first | lia | omega)
    refine set_plain (B.in R) I f4 (osa_set (s := { s with toks := s.toks + 1 }) (B.in R) I rfl f5 f6 f2 (no_ref H) h2 hz fun h' hs' hg => ?_)
    have ne : x' ≠ dx := fun z => by rw [← z, h1] at h2; injection h2 with h2; injection h2 with h2 _ _; cases h2
    have S := Step.set (k := k) (p := (x', dx)) hp hs' ⟨_, hg⟩
    have kt := R.tupKeep xok_nil S
    refine ⟨_, ρ, Like.mk s h' _, S, R.set (o' := .inst c (fput a v fs)) e hp hs' ⟨(hs'.2 x' ne).trans h1, _, _, hg, ?_⟩, q⟩
    rw [B.at']
    refine (putL_rel ha Vv H).mono fun p e' r => ⟨r.1, ?_⟩
    have := r.2.mono (δ := []) kt
    rwa [List.append_nil] at this
end
end
section
open PySem PySem.W PyProof.Rows

structure RoomC (n : Nat) (A : Around) : Prop where
  hd : A.handled = none
  dp : A.depth + 2 * n + 5 ≤ recursionLimit
  un : A.units + 20 * n + 1010 ≤ cLine
theorem Room.c {n A} (x : Room (n + 1) A) : RoomC n A := ⟨x.hd, by have := x.dp; (first | lia | omega), by have := x.un; (first | lia | omega)⟩

noncomputable def RP (g : Glb) (ρ : Rho) (s : Shared) (Q : PV → St → Prop) : Result → Shared → Prop
  | .ok (.ret v), s' => EP g ρ s Q v s'
  | _, _ => False
theorem RP_inv {g : Glb} {ρ : Rho} {s s' : Shared} {Q : PV → St → Prop} {r : Result} (x : RP g ρ s Q r s') : ∃ v, r = .ok (.ret v) ∧ EP g ρ s Q v s' := by
  cases r with
  | error e => exact x.elim
  | ok fl => cases fl <;> first | exact x.elim | exact ⟨_, rfl, x⟩
noncomputable def CSound (prog : Program) (w : World) (K : Frag) (g : Glb) (n : Nat) : Prop :=
  ∀ {A : Around} {s : Shared} {ρ : Rho} {σ : St} {f : Addr} {pvs : List PV} {vs : List Value} {Q : PV → St → Prop}, RoomC n A → Rel g ρ σ s.heap → VRs s.heap ρ pvs vs → wpCall (pgOf K) n f pvs σ Q →
    codeAny (model prog w) A (.call (.ref f) ⟨vs, []⟩) (RP g ρ s Q) s

section
variable (prog : Program) (w : World) (K : Frag) (g : Glb) (n fu : Nat)
noncomputable def ESnd : Prop := ∀ {cc : CC} {env : Env} {e : Expr} {lm : LM} {σ : St} {Q : PV → St → Prop} {A : Around} {s : Shared} {ρ : Rho}, EnvS cc env → Room (n + 1) A → LRel g cc env ρ lm s.heap → Rel g ρ σ s.heap →
  wpe (wpCall (pgOf K) n) (pgOf K) (cE K fu cc e) lm σ Q → wpAny (model prog w) A (eval e env) (EP g ρ s Q) NoE s
inductive TP (g : Glb) (ρ : Rho) (s : Shared) (Q : Bool → St → Prop) (b : Bool) (s' : Shared) : Prop
  | mk (σ' : St) (ρ' : Rho) (l : Like s s') (S : Step [] ρ s.heap ρ' s'.heap) (R : Rel g ρ' σ' s'.heap) (q : Q b σ')
noncomputable def TSnd : Prop := ∀ {cc : CC} {env : Env} {e : Expr} {lm : LM} {σ : St} {Q : Bool → St → Prop} {A : Around} {s : Shared} {ρ : Rho}, EnvS cc env → Room (n + 1) A → LRel g cc env ρ lm s.heap → Rel g ρ σ s.heap →
  wpt (wpCall (pgOf K) n) (pgOf K) (cT K fu cc e) lm σ Q → wpAny (model prog w) A (isTrue e env (eval e env)) (TP g ρ s Q) NoE s
end

section
variable {prog : Program} {w : World} {K : Frag} {g : Glb} {n fu : Nat} {cc : CC} {env : Env} {lm : LM} {σ : St} {A : Around} {s : Shared} {ρ : Rho} {Q : PV → St → Prop}

theorem ev {t : Sem Value} {E : Value → Shared → Prop} {P : Value → Shared → Prop} (R : Rel g ρ σ s.heap) (L : LRel g cc env ρ lm s.heap) (h : wpAny (model prog w) A t (EP g ρ s Q) NoE s)
    (k : ∀ pv v σ' ρ' s', Like s s' → Step [] ρ s.heap ρ' s'.heap → Rel g ρ' σ' s'.heap → LRel g cc env ρ' lm s'.heap → VR s'.heap ρ' pv v → Q pv σ' → P v s') : wpAny (model prog w) A t P E s :=
  wpAny_mono h (fun v s' x => by obtain ⟨pv, σ', ρ', l, S, R', V, q⟩ := x; exact k pv v σ' ρ' s' l S R' (L.step0 R S) V q) fun _ _ f => f.elim
theorem tv {t : Sem Bool} {E : Value → Shared → Prop} {P : Bool → Shared → Prop} {Q : Bool → St → Prop} (R : Rel g ρ σ s.heap) (L : LRel g cc env ρ lm s.heap) (h : wpAny (model prog w) A t (TP g ρ s Q) NoE s)
    (k : ∀ b σ' ρ' s', Like s s' → Step [] ρ s.heap ρ' s'.heap → Rel g ρ' σ' s'.heap → LRel g cc env ρ' lm s'.heap → Q b σ' → P b s') : wpAny (model prog w) A t P E s :=
  wpAny_mono h (fun v s' x => by obtain ⟨σ', ρ', l, S, R', q⟩ := x; exact k v σ' ρ' s' l S R' (L.step0 R S) q) fun _ _ f => f.elim
theorem EPm {t : Sem Value} {ρ' : Rho} {s' : Shared} (l : Like s s') (S : Step [] ρ s.heap ρ' s'.heap) (h : wpAny (model prog w) A t (EP g ρ' s' Q) NoE s') : wpAny (model prog w) A t (EP g ρ s Q) NoE s' :=
  wpAny_mono h (fun _ _ x => x.trans l S) fun _ _ f => f
theorem TP.trans {Q : Bool → St → Prop} {ρ' : Rho} {s' s'' : Shared} {b : Bool} (l : Like s s') (S : Step [] ρ s.heap ρ' s'.heap) (x : TP g ρ' s' Q b s'') : TP g ρ s Q b s'' := by
  obtain ⟨σ', ρ'', l', S', R', q⟩ := x
  exact ⟨σ', ρ'', l.trans l', S.trans S', R', q⟩
theorem TPm {Q : Bool → St → Prop} {t : Sem Bool} {ρ' : Rho} {s' : Shared} (l : Like s s') (S : Step [] ρ s.heap ρ' s'.heap) (h : wpAny (model prog w) A t (TP g ρ' s' Q) NoE s') : wpAny (model prog w) A t (TP g ρ s Q) NoE s' :=
  wpAny_mono h (fun _ _ x => x.trans l S) fun _ _ f => f

theorem starEach_cons {e : Expr} (he : notStar e = true) (rest : List Expr) (env : Env) : starEach (e :: rest) env = (false, eval e env) :: starEach rest env := by
  cases e <;> first | rfl | cases he
theorem star_plain : ∀ {es : List Expr} (_ : es.all notStar = true) (pos : Pos) (env : Env), (backTo pos (starEach es env)).any (·.1) = false
  | [], _, _, _ => rfl
  | e :: r, h, pos, env => by
    rw [List.all_cons, Bool.and_eq_true] at h
    rw [starEach_cons h.1]
    show (false || (backTo pos (starEach r env)).any (·.1)) = false
    rw [star_plain h.2]; rfl
theorem star_all {es : List Expr} (h : es.all notStar = true) (pos : Pos) (env : Env) : (backTo pos (starEach es env)).all (fun x => !x.1) = true := by
  have := star_plain h pos env
  rw [List.any_eq_false] at this
  rw [List.all_eq_true]
  intro x hx
  have := this x hx
  simpa using this

theorem args_sound (IH : ESnd prog w K g n fu) (V : EnvS cc env) (H : Room (n + 1) A) (pos : Pos) : ∀ {es : List Expr} {s : Shared} {ρ : Rho} {σ : St} {Q : List PV → St → Prop}, es.all notStar = true → LRel g cc env ρ lm s.heap → Rel g ρ σ s.heap →
    wpes (wpCall (pgOf K) n) (pgOf K) (MEs.of (es.map (cE K fu cc))) lm σ Q → wpAny (model prog w) A (spliced (backTo pos (starEach es env))) (EPs g ρ s Q) NoE s
  | [], s, ρ, σ, Q, _, L, R, h => PySem.Calls.spliced_nil ⟨[], σ, ρ, Like.refl s, Step.refl .., R, .nil, h⟩
  | e :: r, s, ρ, σ, Q, hs, L, R, h => by
    rw [List.all_cons, Bool.and_eq_true] at hs
    rw [starEach_cons hs.1]
    refine PySem.Calls.spliced_cons (ev R L (IH V H L R h) fun pv v σ₁ ρ₁ s₁ l₁ S₁ R₁ L₁ V₁ h₁ => ?_)
    refine wpAny_mono (args_sound IH V H pos hs.2 L₁ R₁ h₁) (fun vs s₂ x => ?_) fun _ _ f => f
    obtain ⟨pvs, σ₂, ρ₂, l₂, S₂, R₂, V₂, q⟩ := x
    exact ⟨pv :: pvs, σ₂, ρ₂, l₁.trans l₂, S₁.trans S₂, R₂, .cons (V₁.step R₁ xok_nil S₂) V₂, q⟩
theorem evalArgs_sound (IH : ESnd prog w K g n fu) (V : EnvS cc env) (H : Room (n + 1) A) (pos : Pos) {f : Value} {es : List Expr} {Q : List PV → St → Prop} (hs : es.all notStar = true) (L : LRel g cc env ρ lm s.heap) (R : Rel g ρ σ s.heap)
    (h : wpes (wpCall (pgOf K) n) (pgOf K) (MEs.of (es.map (cE K fu cc))) lm σ Q) {P : Args → Shared → Prop} {E : Value → Shared → Prop} (k : ∀ vs s', EPs g ρ s Q vs s' → P ⟨vs, []⟩ s') :
    wpAny (model prog w) A (evalArgs f true (backTo pos (starEach es env)) []) P E s := by
  have base := args_sound IH V H pos hs L R h
  cases es with
  | nil =>
    refine evalArgs_nil3 ?_
    exact k [] s ⟨[], σ, ρ, Like.refl s, Step.refl .., R, .nil, h⟩
  | cons e r =>
    rw [List.all_cons, Bool.and_eq_true] at hs
    rw [starEach_cons hs.1] at base ⊢
    exact PySem.Calls.evalArgs_plain (wpAny_mono base (fun vs s' x => k vs s' x) fun _ _ f => f.elim)
theorem argsC_sound {es : List Expr} {Q : List PV → St → Prop} (h : wpes (wpCall (pgOf K) n) (pgOf K) (argsC es (cE K fu cc)) lm σ Q) : es.all notStar = true ∧ wpes (wpCall (pgOf K) n) (pgOf K) (MEs.of (es.map (cE K fu cc))) lm σ Q := by
  unfold argsC at h
  by_cases hs : es.all notStar = true
  · rw [if_pos hs] at h; exact ⟨hs, h⟩
  · rw [if_neg hs] at h; exact h.elim

theorem callFn_sound (C : CSound prog w K g n) (H : Room (n + 1) A) {f : Addr} {pvs : List PV} {vs : List Value} (R : Rel g ρ σ s.heap) (V : VRs s.heap ρ pvs vs) (h : wpCall (pgOf K) n f pvs σ Q) : wpAny (model prog w) A (call (.ref f) vs) (EP g ρ s Q) NoE s :=
  wpAny_call (codeAny_mono (C H.c R V h) fun r s' x => by obtain ⟨v, rfl, x⟩ := RP_inv x; exact x)

theorem E_const {c : Const} {k : Nat} {pos : Pos} (R : Rel g ρ σ s.heap) (h : wpe (wpCall (pgOf K) n) (pgOf K) (cConst c) lm σ Q) : wpAny (model prog w) A (eval (.Constant c k pos) env) (EP g ρ s Q) NoE s := by
  cases c <;> try exact h.elim
  · exact wpAny_Constant_none (EP.here' R .none h)
  · exact wpAny_Constant_bool (EP.here' R (.bool _) h)
  · exact wpAny_Constant_int (EP.here R (.int _ _) h _)
  · exact PySem.Calls.Constant_str (EP.here R (.str _ _) h _)

theorem E_name (B : Base K g) (V : EnvS cc env) (L : LRel g cc env ρ lm s.heap) (R : Rel g ρ σ s.heap) {x : Str} {pos : Pos} (h : wpe (wpCall (pgOf K) n) (pgOf K) (cName K cc x) lm σ Q) : wpAny (model prog w) A (eval (.Name x pos) env) (EP g ρ s Q) NoE s := by
  unfold cName at h
  by_cases hd : x = "__debug__"
  · rw [if_pos hd] at h; exact h.elim
  rw [if_neg hd] at h
  cases hi : cc.vars.lookup x with
  | some i =>
    rw [hi] at h
    obtain ⟨v, hv, h⟩ := h
    exact wpAny_Name (load_sound V L hi hv fun u W => EP.here' R W h) (by simpa using hd)
  | none =>
    rw [hi] at h
    by_cases hm : cc.implicit x = true
    · replace h : wpe (wpCall (pgOf K) n) (pgOf K) (if cc.implicit x = true then cNameG (gInt K x) else .stuck) lm σ Q := h
      rw [if_pos hm] at h
      cases hg : gInt K x with
      | none => rw [hg] at h; exact h.elim
      | some i =>
        rw [hg] at h
        obtain ⟨t, e⟩ := gInt_inv hg
        exact nameG_sound B V R hm e (EP.here' R (.int _ _) h)
    · replace h : wpe (wpCall (pgOf K) n) (pgOf K) (if cc.implicit x = true then cNameG (gInt K x) else .stuck) lm σ Q := h
      rw [if_neg hm] at h; exact h.elim

theorem E_neg {op : UnaryOp} {x : Expr} {pos : Pos} (R : Rel g ρ σ s.heap) (h : wpe (wpCall (pgOf K) n) (pgOf K) (cNeg op x) lm σ Q) : wpAny (model prog w) A (eval (.UnaryOp op x pos) env) (EP g ρ s Q) NoE s := by
  cases op <;> try exact h.elim
  revert h
  show wpe _ _ (match sv x with | .const c _ _ => _ | _ => _) _ _ _ → _
  cases sv x with
  | const c k p =>
    intro h
    cases c <;> try exact h.elim
    exact UnaryOp_ (wpAny_Constant_int (neg_int (EP.here (s := s) (t := s.toks + 1 + 1) R (.int _ _) h)))
  | _ => exact fun h => h.elim

theorem E_bin (IH : ESnd prog w K g n fu) (V : EnvS cc env) (H : Room (n + 1) A) (L : LRel g cc env ρ lm s.heap) (R : Rel g ρ σ s.heap) {l r : Expr} {op : Operator} {pos : Pos} (h : wpe (wpCall (pgOf K) n) (pgOf K) (cBin op (cE K fu cc l) (cE K fu cc r)) lm σ Q) :
    wpAny (model prog w) A (eval (.BinOp l op r pos) env) (EP g ρ s Q) NoE s := by
  unfold cBin at h
  cases hp : binPrimC op with
  | none => rw [hp] at h; exact h.elim
  | some p =>
    rw [hp] at h
    exact wpAny_BinOp (ev R L (IH V H L R h) fun a u σ₁ ρ₁ s₁ l₁ S₁ R₁ L₁ V₁ h₁ => ev R₁ L₁ (IH V H L₁ R₁ h₁) fun b v σ₂ ρ₂ s₂ l₂ S₂ R₂ L₂ V₂ h₂ =>
      EPm (l₁.trans l₂) (S₁.trans S₂) (binop_sound hp R₂ (V₁.step R₁ xok_nil S₂) V₂ h₂))

theorem E_tup (IH : ESnd prog w K g n fu) (V : EnvS cc env) (H : Room (n + 1) A) (L : LRel g cc env ρ lm s.heap) (R : Rel g ρ σ s.heap) {es : List Expr} {k : Nat} {pos : Pos} (h : wpe (wpCall (pgOf K) n) (pgOf K) (.tup (argsC es (cE K fu cc))) lm σ Q) :
    wpAny (model prog w) A (eval (.Tuple es k pos) env) (EP g ρ s Q) NoE s := by
  obtain ⟨hs, h⟩ := argsC_sound (σ := σ) h
  refine Tuple_ (wpAny_mono (args_sound IH V H pos hs L R h) (fun vs s₁ x => ?_) fun _ _ f => f)
  obtain ⟨pvs, σ₁, ρ₁, l₁, S₁, R₁, V₁, hb, q⟩ := x
  refine wpAny_newTuple ?_ (by have := V₁.all.length; unfold big at hb; rw [sizeLine_eq]; (first | lia | omega))
  exact (EP.newTup (its := vs.toArray) R₁ (by simpa using V₁.all) hb q s₁.toks).trans l₁ S₁
theorem E_list (IH : ESnd prog w K g n fu) (V : EnvS cc env) (H : Room (n + 1) A) (L : LRel g cc env ρ lm s.heap) (R : Rel g ρ σ s.heap) {es : List Expr} {pos : Pos} (h : wpe (wpCall (pgOf K) n) (pgOf K) (.list (argsC es (cE K fu cc))) lm σ Q) :
    wpAny (model prog w) A (eval (.List es pos) env) (EP g ρ s Q) NoE s := by
  obtain ⟨hs, h⟩ := argsC_sound (σ := σ) h
  refine List_ (wpAny_mono (args_sound IH V H pos hs L R h) (fun vs s₁ x => ?_) fun _ _ f => f)
  obtain ⟨pvs, σ₁, ρ₁, l₁, S₁, R₁, V₁, hb, q⟩ := x
  refine wpAny_newObj_type ?_ (by show vs.toArray.size ≤ sizeLine; rw [List.size_toArray]; have := V₁.all.length; unfold big at hb; rw [sizeLine_eq]; (first | lia | omega))
  exact (EP.newList (its := vs.toArray) R₁ (by simpa using V₁.all) hb q s₁.toks).trans l₁ S₁
theorem E_dict {ks : List (Option Expr)} {vs : List Expr} {pos : Pos} (R : Rel g ρ σ s.heap) (h : wpe (wpCall (pgOf K) n) (pgOf K) (cE K (fu + 1) cc (.Dict ks vs pos)) lm σ Q) : wpAny (model prog w) A (eval (.Dict ks vs pos) env) (EP g ρ s Q) NoE s := by
  cases ks with
  | cons => exact h.elim
  | nil => cases vs with
    | cons => exact h.elim
    | nil => exact wpAny_Dict_empty (EP.newDict (kvs := []) (es := #[]) R trivial List.nodup_nil (by decide) h s.toks)

theorem E_ite (IH : ESnd prog w K g n fu) (IT : TSnd prog w K g n fu) (V : EnvS cc env) (H : Room (n + 1) A) (L : LRel g cc env ρ lm s.heap) (R : Rel g ρ σ s.heap) {t a b : Expr} {pos : Pos} (h : wpe (wpCall (pgOf K) n) (pgOf K) (cE K (fu + 1) cc (.IfExp t a b pos)) lm σ Q) :
    wpAny (model prog w) A (eval (.IfExp t a b pos) env) (EP g ρ s Q) NoE s := by
  refine IfExp_ (tv R L (IT V H L R h) fun c σ₁ ρ₁ s₁ l₁ S₁ R₁ L₁ h₁ => ?_)
  cases c
  · exact EPm l₁ S₁ (IH V H L₁ R₁ h₁)
  · exact EPm l₁ S₁ (IH V H L₁ R₁ h₁)

theorem like_tok (s : Shared) (t : Nat) : Like s { s with toks := t } := ⟨s.heap, t, rfl⟩

theorem E_or (IH : ESnd prog w K g n fu) (V : EnvS cc env) (H : Room (n + 1) A) (L : LRel g cc env ρ lm s.heap) (R : Rel g ρ σ s.heap) {a b : Expr} {pos : Pos} (h : wpe (wpCall (pgOf K) n) (pgOf K) (.or (cE K fu cc a) (cE K fu cc b)) lm σ Q) :
    wpAny (model prog w) A (eval (.BoolOp .Or [a, b] pos) env) (EP g ρ s Q) NoE s := by
  refine BoolOp_or (ev R L (IH V H L R h) fun x u σ₁ ρ₁ s₁ l₁ S₁ R₁ L₁ V₁ h₁ => ?_)
  obtain ⟨t, ht, h₁⟩ := h₁
  refine truthy_sound R₁ V₁ ht fun tk => ?_
  cases t
  · exact BoolOp_one (EPm (ρ' := ρ₁) (l₁.trans (like_tok s₁ tk)) S₁ (IH (s := { s₁ with toks := tk }) V H L₁ R₁ h₁))
  · exact (EP.here R₁ V₁ h₁ tk).trans l₁ S₁
end
end
section
open PySem PySem.W PyProof.Rows
section
variable {prog : Program} {w : World} {K : Frag} {g : Glb} {n fu : Nat} {cc : CC} {env : Env} {lm : LM} {σ : St} {A : Around} {s : Shared} {ρ : Rho} {Q : PV → St → Prop}

end
section
variable {prog : Program} {w : World} {K : Frag} {g : Glb} {n fu : Nat} {cc : CC} {env : Env} {lm : LM} {σ : St} {A : Around} {s : Shared} {ρ : Rho} {Q : PV → St → Prop}

theorem base_of {o : Expr} (h : plainBase o = true) (a : Str) (env : Env) (t : Sem Value) : attributeBase o a env t = t := by
  cases o <;> first | rfl | cases h
theorem set_of {r : Expr} (h : notSet r = true) (op : CmpOp) : behindInMarks op r = false := by
  cases r <;> first | rfl | cases h

noncomputable def CmpSnd (prog : Program) (w : World) (A : Around) (g : Glb) (ρ : Rho) (s : Shared) (Q : PV → St → Prop) (env : Env) (l r : Expr) (op : CmpOp) : Prop :=
  behindInMarks op r = false ∧ wpAny (model prog w) A (eval l env) (fun a s₁ => wpAny (model prog w) A (eval r env) (fun b s₂ => wpAny (model prog w) A (compareOp op a b) (EP g ρ s Q) NoE s₂) NoE s₁) NoE s
theorem cmp_two (hw : g.w = w) (IH : ESnd prog w K g n fu) (V : EnvS cc env) (H : Room (n + 1) A) (L : LRel g cc env ρ lm s.heap) (R : Rel g ρ σ s.heap) {l r : Expr} {op : CmpOp} (h : wpe (wpCall (pgOf K) n) (pgOf K) (cCmp2 l op r (cE K fu cc)) lm σ Q) :
    CmpSnd prog w A g ρ s Q env l r op := by
  unfold cCmp2 at h
  by_cases hn : notSet r = true
  · rw [if_pos hn] at h
    cases hp : cmpPrimC op with
    | none => rw [hp] at h; exact h.elim
    | some p =>
      rw [hp] at h
      exact ⟨set_of hn op, ev R L (IH V H L R h) fun a u σ₁ ρ₁ s₁ l₁ S₁ R₁ L₁ V₁ h₁ => ev R₁ L₁ (IH V H L₁ R₁ h₁) fun b v σ₂ ρ₂ s₂ l₂ S₂ R₂ L₂ V₂ h₂ =>
        EPm (l₁.trans l₂) (S₁.trans S₂) (cmp_sound H hp hw R₂ (V₁.step R₁ xok_nil S₂) V₂ h₂)⟩
  · rw [if_neg hn] at h; exact h.elim
theorem cmp_parts (hw : g.w = w) (IH : ESnd prog w K g n fu) (V : EnvS cc env) (H : Room (n + 1) A) (L : LRel g cc env ρ lm s.heap) (R : Rel g ρ σ s.heap) {l r : Expr} {op : CmpOp} (h : wpe (wpCall (pgOf K) n) (pgOf K) (cCmp1 l op r (cE K fu cc)) lm σ Q) :
    CmpSnd prog w A g ρ s Q env l r op := by
  exact cmp_two hw IH V H L R h
theorem cmp_inv {l : Expr} {ops : List CmpOp} {rs : List Expr} {f : Expr → ME} {C : CT} {P : Pg} {Q : PV → St → Prop} (h : wpe C P (cCmp l ops rs f) lm σ Q) : ∃ op r, ops = [op] ∧ rs = [r] ∧ wpe C P (cCmp1 l op r f) lm σ Q := by
  match ops, rs, h with
  | [op], [r], h => exact ⟨op, r, rfl, rfl, h⟩

theorem test_of {Q : Bool → St → Prop} {v : Value} {s' : Shared} (x : EP g ρ s (truK Q) v s') : wpAny (model prog w) A (PySem.truthy v) (TP g ρ s Q) NoE s' := by
  obtain ⟨pv, σ', ρ', l, S, R', V, q⟩ := x
  obtain ⟨t, ht, q⟩ := q
  exact truthy_sound R' V ht fun tk => ⟨σ', ρ', l.trans (like_tok s' tk), S, R', q⟩

theorem T_and_last {Q : Bool → St → Prop} {b : Expr} {pos : Pos} {whole : Sem Value} (h : wpAny (model prog w) A (isTrue b env (eval b env)) (TP g ρ s Q) NoE s) : wpAny (model prog w) A (isTrue (.BoolOp .And [b] pos) env whole) (TP g ρ s Q) NoE s := by
  refine isTrue_and (wpAny_mono h (fun c s' x => ?_) fun _ _ f => f)
  cases c
  · exact x
  · exact isTrue_and_nil x
theorem T_or_last {Q : Bool → St → Prop} {b : Expr} {pos : Pos} {whole : Sem Value} (h : wpAny (model prog w) A (isTrue b env (eval b env)) (TP g ρ s Q) NoE s) : wpAny (model prog w) A (isTrue (.BoolOp .Or [b] pos) env whole) (TP g ρ s Q) NoE s := by
  refine isTrue_or (wpAny_mono h (fun c s' x => ?_) fun _ _ f => f)
  cases c
  · exact isTrue_or_nil x
  · exact x
theorem T_and {Q : Bool → St → Prop} (IT : TSnd prog w K g n fu) (V : EnvS cc env) (H : Room (n + 1) A) (L : LRel g cc env ρ lm s.heap) (R : Rel g ρ σ s.heap) {a : Expr} {rest : List Expr} {b : MT} {pos : Pos} {whole : Sem Value}
    (h : wpt (wpCall (pgOf K) n) (pgOf K) (.and (cT K fu cc a) b) lm σ Q)
    (k : ∀ {σ' ρ' s'}, LRel g cc env ρ' lm s'.heap → Rel g ρ' σ' s'.heap → wpt (wpCall (pgOf K) n) (pgOf K) b lm σ' Q → wpAny (model prog w) A (isTrue (.BoolOp .And rest pos) env whole) (TP g ρ' s' Q) NoE s') :
    wpAny (model prog w) A (isTrue (.BoolOp .And (a :: rest) pos) env whole) (TP g ρ s Q) NoE s := by
  refine isTrue_and (tv R L (IT V H L R h) fun c σ₁ ρ₁ s₁ l₁ S₁ R₁ L₁ h₁ => ?_)
  cases c
  · exact ⟨σ₁, ρ₁, l₁, S₁, R₁, h₁⟩
  · exact TPm l₁ S₁ (k L₁ R₁ h₁)
theorem T_or {Q : Bool → St → Prop} (IT : TSnd prog w K g n fu) (V : EnvS cc env) (H : Room (n + 1) A) (L : LRel g cc env ρ lm s.heap) (R : Rel g ρ σ s.heap) {a : Expr} {rest : List Expr} {b : MT} {pos : Pos} {whole : Sem Value}
    (h : wpt (wpCall (pgOf K) n) (pgOf K) (.or (cT K fu cc a) b) lm σ Q)
    (k : ∀ {σ' ρ' s'}, LRel g cc env ρ' lm s'.heap → Rel g ρ' σ' s'.heap → wpt (wpCall (pgOf K) n) (pgOf K) b lm σ' Q → wpAny (model prog w) A (isTrue (.BoolOp .Or rest pos) env whole) (TP g ρ' s' Q) NoE s') :
    wpAny (model prog w) A (isTrue (.BoolOp .Or (a :: rest) pos) env whole) (TP g ρ s Q) NoE s := by
  refine isTrue_or (tv R L (IT V H L R h) fun c σ₁ ρ₁ s₁ l₁ S₁ R₁ L₁ h₁ => ?_)
  cases c
  · exact TPm l₁ S₁ (k L₁ R₁ h₁)
  · exact ⟨σ₁, ρ₁, l₁, S₁, R₁, h₁⟩

theorem T_andL {Q : Bool → St → Prop} (IT : TSnd prog w K g n fu) (V : EnvS cc env) (H : Room (n + 1) A) {pos : Pos} {whole : Sem Value} : ∀ {es : List Expr} {σ : St} {s : Shared} {ρ : Rho}, LRel g cc env ρ lm s.heap → Rel g ρ σ s.heap →
    wpt (wpCall (pgOf K) n) (pgOf K) (andL (es.map (cT K fu cc))) lm σ Q → wpAny (model prog w) A (isTrue (.BoolOp .And es pos) env whole) (TP g ρ s Q) NoE s
  | [], _, _, _, _, _, h => h.elim
  | [_], _, _, _, L, R, h => T_and_last (IT V H L R h)
  | _ :: b :: r, _, _, _, L, R, h => T_and IT V H L R h fun L₁ R₁ h₁ => T_andL IT V H (es := b :: r) L₁ R₁ h₁
theorem T_orL {Q : Bool → St → Prop} (IT : TSnd prog w K g n fu) (V : EnvS cc env) (H : Room (n + 1) A) {pos : Pos} {whole : Sem Value} : ∀ {es : List Expr} {σ : St} {s : Shared} {ρ : Rho}, LRel g cc env ρ lm s.heap → Rel g ρ σ s.heap →
    wpt (wpCall (pgOf K) n) (pgOf K) (orL (es.map (cT K fu cc))) lm σ Q → wpAny (model prog w) A (isTrue (.BoolOp .Or es pos) env whole) (TP g ρ s Q) NoE s
  | [], _, _, _, _, _, h => h.elim
  | [_], _, _, _, L, R, h => T_or_last (IT V H L R h)
  | _ :: b :: r, _, _, _, L, R, h => T_or IT V H L R h fun L₁ R₁ h₁ => T_orL IT V H (es := b :: r) L₁ R₁ h₁
theorem cmp_of {e : Expr} (h : isCmp e = true) : ∃ l ops rs pos, e = .Compare l ops rs pos := by
  cases e <;> first | exact ⟨_, _, _, _, rfl⟩ | exact noB h
theorem T_cmp (hw : g.w = w) (IH' : ∀ m, fu = m + 1 → ESnd prog w K g n m) (V : EnvS cc env) (H : Room (n + 1) A) (L : LRel g cc env ρ lm s.heap) (R : Rel g ρ σ s.heap) {Q : Bool → St → Prop} {l : Expr} {ops : List CmpOp} {rs : List Expr} {pos : Pos}
    (h : wpe (wpCall (pgOf K) n) (pgOf K) (cE K fu cc (.Compare l ops rs pos)) lm σ (truK Q)) : wpAny (model prog w) A (isTrue (.Compare l ops rs pos) env (eval (.Compare l ops rs pos) env)) (TP g ρ s Q) NoE s := by
  cases fu with
  | zero => exact h.elim
  | succ m =>
    obtain ⟨op, r, rfl, rfl, h⟩ := cmp_inv (show wpe _ _ (cCmp l ops rs (cE K m cc)) lm σ (truK Q) from h)
    have x := cmp_parts hw (IH' m rfl) V H L R h
    exact wpAny_isTrue_Compare1 (wpAny_mono x.2 (fun a s₁ x₁ => wpAny_mono x₁ (fun b s₂ x₂ => wpAny_mono x₂ (fun c s₃ x₃ => test_of x₃) fun _ _ f => f) fun _ _ f => f) fun _ _ f => f) x.1

theorem T_step (hw : g.w = w) (IH : ESnd prog w K g n fu) (IH' : ∀ m, fu = m + 1 → ESnd prog w K g n m) (IT : TSnd prog w K g n fu) : TSnd prog w K g n (fu + 1) := by
  intro cc env e lm σ Q A s ρ V H L R
  show wpt _ _ (match tview e with | .not x _ => _ | .bool op es _ => _ | .plain e _ => _ | .other _ => _) _ _ _ → _
  cases tview e with
  | not x p =>
    intro h
    refine isTrue_not (wpAny_mono (IT (Q := fun b σ₁ => Q (!b) σ₁) V H L R h) (fun c s' x => ?_) fun _ _ f => f)
    obtain ⟨σ', ρ', l, S, R', q⟩ := x
    exact ⟨σ', ρ', l, S, R', q⟩
  | bool op es p =>
    cases op
    · exact T_andL IT V H L R
    · exact T_orL IT V H L R
  | plain e' he =>
    intro h
    rcases he env with hc | he
    · obtain ⟨l, ops, rs, pos, rfl⟩ := cmp_of hc
      exact T_cmp hw IH' V H L R h
    · exact isTrue_plain (wpAny_mono (IH (Q := truK Q) V H L R h) (fun _ _ x => test_of x) fun _ _ f => f) he
  | other _ => exact fun h => h.elim

theorem E_attr (B : Base K g) (IH : ESnd prog w K g n fu) (V : EnvS cc env) (H : Room (n + 1) A) (L : LRel g cc env ρ lm s.heap) (R : Rel g ρ σ s.heap) {o : Expr} {a : Str} {pos : Pos} (h : wpe (wpCall (pgOf K) n) (pgOf K) (cAttr o a (cE K fu cc)) lm σ Q) :
    wpAny (model prog w) A (eval (.Attribute o a pos) env) (EP g ρ s Q) NoE s := by
  unfold cAttr at h
  cases hi : attrId a with
  | none => rw [hi] at h; exact h.elim
  | some i =>
    rw [hi] at h
    replace h : wpe (wpCall (pgOf K) n) (pgOf K) (if plainBase o = true then .attr (cE K fu cc o) i else .stuck) lm σ Q := h
    by_cases hb : plainBase o = true
    · rw [if_pos hb] at h
      rw [arm_eval_Attribute, base_of hb]
      refine wpAny_bind (ev R L (IH V H L R h) fun ov v σ₁ ρ₁ s₁ l₁ S₁ R₁ L₁ V₁ h₁ => ?_)
      obtain ⟨k, c, fs, rfl, ek, u, hu, hf, h₁⟩ := h₁
      obtain ⟨rfl, hal⟩ := attrAt_of hi
      refine wpAny_bind (wpAny_standAt (wpAny_bind (wpAny_holding (wpAny_mono (getAttr_sound (b := true) (prog := prog) (w := w) (A := A) B R₁ hal V₁ ek hu hf h₁) (fun r s₂ x => ?_) fun _ _ f => f))))
      exact wpAny_bind (wpAny_letTemporaryGo (wpAny_pure (x.trans l₁ S₁)))
    · rw [if_neg hb] at h; exact h.elim

theorem E_idx (hw : g.w = w) (IH : ESnd prog w K g n fu) (V : EnvS cc env) (H : Room (n + 1) A) (L : LRel g cc env ρ lm s.heap) (R : Rel g ρ σ s.heap) {o i : Expr} {pos : Pos} (hs : ∀ x y, subscripted i false x y = operate [x, y] (getItem x y))
    (h : wpe (wpCall (pgOf K) n) (pgOf K) (.prim .idx (.cons (cE K fu cc o) (.cons (cE K fu cc i) .nil))) lm σ Q) : wpAny (model prog w) A (eval (.Subscript o i pos) env) (EP g ρ s Q) NoE s := by
  refine Subscript_ (ev R L (IH V H L R h) fun a u σ₁ ρ₁ s₁ l₁ S₁ R₁ L₁ V₁ h₁ => ev R₁ L₁ (IH V H L₁ R₁ h₁) fun b v σ₂ ρ₂ s₂ l₂ S₂ R₂ L₂ V₂ h₂ => ?_)
  obtain ⟨⟨T, id, hT, hl⟩, hg⟩ := getItem_sound (prog := prog) (A := A) hw R₂ (V₁.step R₁ xok_nil S₂) V₂ h₂
  exact EPm (l₁.trans l₂) (S₁.trans S₂) (tail_any hT hl hg (hs _ _))
end
end
section
open PySem PySem.W PyProof.Rows
section
variable {prog : Program} {w : World} {K : Frag} {g : Glb} {n fu : Nat} {cc : CC} {env : Env} {lm : LM} {σ : St} {A : Around} {s : Shared} {ρ : Rho} {Q : PV → St → Prop}

theorem part_sound (IH' : ∀ m, fu = m + 1 → ESnd prog w K g n m) (V : EnvS cc env) (H : Room (n + 1) A) (L : LRel g cc env ρ lm s.heap) (R : Rel g ρ σ s.heap) {o : Option Expr} (h : wpe (wpCall (pgOf K) n) (pgOf K) (cO K fu cc o) lm σ Q) :
    wpAny (model prog w) A (evalPart o env) (EP g ρ s Q) NoE s := by
  cases fu with
  | zero => exact h.elim
  | succ m =>
    cases o with
    | none => rw [evalPart_none]; exact wpAny_pure (EP.here' R .none h)
    | some e => rw [evalPart_some]; exact IH' m rfl V H L R h

theorem part_is {h : Heap} {a : PV} {v : Value} {p : Option Int} (V : VR h ρ a v) (e : partP a = some p) : IsPart v p := by
  cases V with
  | none => cases e; exact .none
  | int => cases e; exact .int _ _
  | _ => exact nos e
theorem cut_list {h : Heap} (R : Rel g ρ σ h) {k : Nat} {xs : List PV} {u : Value} (V : VR h ρ (.obj k) u) (e : σ[k]? = some (.list xs) ∨ σ[k]? = some (.ro xs)) : ∃ a' its ob, u = .ref a' ∧ h.IsList a' its ∧ All2 (VR h ρ) xs its.toList ∧ xs.length ≤ big ∧ h.get? a' = some ob ∧ ob.cls = .type "list" := by
  rcases e with e | e
  · obtain ⟨l, its, m, rfl, _, h2, h3, h4⟩ := V.list_inv R e
    exact ⟨l, its, _, rfl, isList_of h2, h3, h4, h2, rfl⟩
  · obtain ⟨a, d, rfl, er⟩ := V.obj_inv
    obtain ⟨e1, z, its, h1, h2⟩ := R.objs k _ _ e er
    dsimp only at e1; subst e1
    have h1' := h1
    obtain ⟨ob, ho, hc, _⟩ := h1
    exact ⟨a, its, ob, rfl, h1', h2, z, ho, hc⟩

theorem E_slice (IH : ESnd prog w K g n fu) (IH' : ∀ m, fu = m + 1 → ESnd prog w K g n m) (V : EnvS cc env) (H : Room (n + 1) A) (L : LRel g cc env ρ lm s.heap) (R : Rel g ρ σ s.heap) {o : Expr} {lo hi st : Option Expr} {p pos : Pos}
    (h : wpe (wpCall (pgOf K) n) (pgOf K) (.prim .slice (.cons (cE K fu cc o) (.cons (cO K fu cc lo) (.cons (cO K fu cc hi) (.cons (cO K fu cc st) .nil))))) lm σ Q) : wpAny (model prog w) A (eval (.Subscript o (.Slice lo hi st p) pos) env) (EP g ρ s Q) NoE s := by
  refine Subscript_ (ev R L (IH V H L R h) fun a u σ₁ ρ₁ s₁ l₁ S₁ R₁ L₁ V₁ h₁ => ?_)
  refine wpAny_Slice (ev R₁ L₁ (part_sound IH' V H L₁ R₁ h₁) fun b v σ₂ ρ₂ s₂ l₂ S₂ R₂ L₂ V₂ h₂ => ev R₂ L₂ (part_sound IH' V H L₂ R₂ h₂) fun c x σ₃ ρ₃ s₃ l₃ S₃ R₃ L₃ V₃ h₃ => ev R₃ L₃ (part_sound IH' V H L₃ R₃ h₃) fun d y σ₄ ρ₄ s₄ l₄ S₄ R₄ L₄ V₄ h₄ => ?_)
  have S24 := S₃.trans S₄
  have S14 := S₂.trans S24
  have Va := V₁.step R₁ xok_nil S14
  have Vb := V₂.step R₂ xok_nil S24
  have Vc := V₃.step R₃ xok_nil S₄
  obtain ⟨_, hp⟩ := (show prim4 .slice a b c d σ₄ Q from h₄)
  rcases hp with ⟨xs, rfl, rfl, rfl, rfl, h2, q⟩ | ⟨k, xs, pl, ph, ps, rfl, e1, e2, e3, ek, h0, q⟩
  · obtain ⟨a', its, m, rfl, hg, hv, zb⟩ := Va.tup_inv
    obtain ⟨t, rfl⟩ := Vb.int_inv
    cases Vc.none_inv
    cases V₄.none_inv
    have ha' := Heap.get?_push_of_some ({ cls := .type "slice", data := .fields #[.int (-2) t, .none, .none] } : Obj) hg
    have hl := size_of hv
    have R₅ := R₄.push ({ cls := .type "slice", data := .fields #[.int (-2) t, .none, .none] } : Obj)
    have := getItem_last2 (prog := prog) (w := w) (A := A) (E := NoE) (P := EP g ρ₄ { s₄ with heap := s₄.heap.push { cls := .type "slice", data := .fields #[.int (-2) t, .none, .none] } } Q)
      (s := { s₄ with heap := s₄.heap.push { cls := .type "slice", data := .fields #[.int (-2) t, .none, .none] } }) (sl := s₄.heap.objs.size) ha' (Heap.IsSliceOf.new ..) (hl ▸ h2) (hl ▸ Nat.le_trans zb big_le)
      (fun e => EP.here' R₅ (vr_push Va) (by rw [hl, e] at q; exact q))
      (EP.newTup (s := { s₄ with heap := s₄.heap.push { cls := .type "slice", data := .fields #[.int (-2) t, .none, .none] } }) (xs := xs.drop (xs.length - 2)) (its := (its.toList.drop (its.size - 2)).toArray) R₅ (by rw [hl]; exact all_drop (all_push hv) _) (by rw [List.length_drop]; exact Nat.le_trans (Nat.sub_le _ _) zb) q _)
    refine tail_any (T := "tuple") (id := "tuple.__getitem__") (ops := if st.isNone then [.ref s₄.heap.objs.size, .ref a'] else [.ref a', .ref s₄.heap.objs.size]) ⟨_, ha', rfl⟩ slot_tuple_getitem.lookup (EPm (l₁.trans (l₂.trans (l₃.trans (l₄.trans (Like.hp s₄ _))))) (S₁.trans (S14.trans (Step.push _))) this) ?_
    cases st <;> rfl
  obtain ⟨a', its, ob, rfl, _, _, _, ha, hcl⟩ := cut_list R₄ Va ek
  have ha' := Heap.get?_push_of_some ({ cls := .type "slice", data := .fields #[v, x, y] } : Obj) ha
  have := sliceL_sound (prog := prog) (w := w) (A := A) (s := { s₄ with heap := s₄.heap.push { cls := .type "slice", data := .fields #[v, x, y] } }) (sl := s₄.heap.objs.size) (Q := Q) (R₄.push _) ek (vr_push Va) (Heap.IsSliceOf.new ..) (part_is Vb e1) (part_is Vc e2) (part_is V₄ e3) h0 q
  refine tail_any (T := "list") (id := "list.__getitem__") (ops := if st.isNone then [.ref s₄.heap.objs.size, .ref a'] else [.ref a', .ref s₄.heap.objs.size]) ⟨_, ha', hcl⟩ slot_list_getitem.lookup (EPm (l₁.trans (l₂.trans (l₃.trans (l₄.trans (Like.hp s₄ _))))) (S₁.trans (S14.trans (Step.push _))) this) ?_
  cases st <;> rfl

structure BmFit (prog : Program) (w : World) (g : Glb) (n : Nat) (A : Around) (Q : PV → St → Prop) (b : BM) (nm : Str) (T id : String) : Prop where
  pa : PlainAttrs T
  slot : Slot T nm id
  ty : typeOf (.builtin id) = pure (.type "method_descriptor")
  hT : ∀ {σ : St} {ρ : Rho} {h : Heap} {o : PV} {v : Value}, Rel g ρ σ h → VR h ρ o v → bmOk b o σ → ∃ a ob, v = .ref a ∧ h.get? a = some ob ∧ ob.cls = .type T ∧ ob.dict = none
  fin : ∀ {σ : St} {ρ : Rho} {s : Shared} {o : PV} {v : Value} {pvs : List PV} {vs : List Value}, Rel g ρ σ s.heap → VR s.heap ρ o v → VRs s.heap ρ pvs vs → bmeth b o pvs σ Q → wpAny (model prog w) A (call (.builtin id) (v :: vs)) (EP g ρ s Q) NoE s
theorem fit_list {σ : St} {ρ : Rho} {h : Heap} {o : PV} {v : Value} (R : Rel g ρ σ h) (V : VR h ρ o v) (q : lstB σ o fun _ _ => True) : ∃ a ob, v = .ref a ∧ h.get? a = some ob ∧ ob.cls = .type "list" ∧ ob.dict = none := by
  obtain ⟨k, xs, l, its, m, rfl, rfl, _, _, hg, _⟩ := lst_two R V q
  exact ⟨l, _, rfl, hg, rfl, rfl⟩
theorem vrs_one {h : Heap} {x : PV} {vs : List Value} (V : VRs h ρ [x] vs) : ∃ v, vs = [v] ∧ VR h ρ x v := by
  cases V with | cons a b => cases b; exact ⟨_, rfl, a⟩
theorem fit_append : BmFit prog w g n A Q .append "append" "list" "list.append" where
  pa := F.plainAttrs_list
  slot := F.slot_list_append
  ty := F.type_list_append
  hT := fit_list
  fin := fun R V W q => by
    obtain ⟨k, xs, rfl, e, v, rfl, q⟩ := q
    obtain ⟨u, rfl, Vu⟩ := vrs_one W
    exact append_sound R V Vu ⟨k, xs, rfl, e, v, rfl, q⟩
theorem fit_pop : BmFit prog w g n A Q .pop "pop" "list" "list.pop" where
  pa := F.plainAttrs_list
  slot := F.slot_list_pop
  ty := F.type_list_pop
  hT := fit_list
  fin := fun R V W q => by
    obtain ⟨k, xs, rfl, e, rfl, q⟩ := q
    cases W
    exact pop_sound R V ⟨k, xs, rfl, e, rfl, q⟩
theorem fit_reverse : BmFit prog w g n A Q .reverse "reverse" "list" "list.reverse" where
  pa := F.plainAttrs_list
  slot := F.slot_list_reverse
  ty := F.type_list_reverse
  hT := fit_list
  fin := fun R V W q => by
    obtain ⟨k, xs, rfl, e, rfl, q⟩ := q
    cases W
    exact reverse_sound R V ⟨k, xs, rfl, e, rfl, q⟩
theorem fit_get (H : Room (n + 1) A) (hw : g.w = w) : BmFit prog w g n A Q .get "get" "dict" "dict.get" where
  pa := F.plainAttrs_dict
  slot := F.slot_dict_get
  ty := F.type_dict_get
  hT := fun R V q => by
    obtain ⟨k, kvs, l, es, m, rfl, rfl, _, _, hg, _⟩ := dct_two R V q
    exact ⟨l, _, rfl, hg, rfl, rfl⟩
  fin := fun R V W q => by
    obtain ⟨k, kvs, rfl, e, key, d, rfl, q⟩ := q
    cases W with
    | cons x W =>
      obtain ⟨u, rfl, y⟩ := vrs_one W
      exact get_sound H hw R V x y ⟨k, kvs, rfl, e, key, d, rfl, q⟩
theorem bm_fit (H : Room (n + 1) A) (hw : g.w = w) {m : Str} {k : Nat} {b : BM} (h : bmOf m k = some b) : ∃ T id, BmFit prog w g n A Q b m T id := by
  have e : ∀ {x : Str} {j : Nat}, (m == x && k == j) = true → m = x := fun h => beq_iff_eq.mp (Bool.and_eq_true_iff.mp h).1
  unfold bmOf at h
  by_cases h1 : (m == "append" && k == 1) = true
  · rw [if_pos h1] at h; cases h; rw [e h1]; exact ⟨_, _, fit_append⟩
  rw [if_neg h1] at h
  by_cases h2 : (m == "pop" && k == 0) = true
  · rw [if_pos h2] at h; cases h; rw [e h2]; exact ⟨_, _, fit_pop⟩
  rw [if_neg h2] at h
  by_cases h3 : (m == "get" && k == 2) = true
  · rw [if_pos h3] at h; cases h; rw [e h3]; exact ⟨_, _, fit_get H hw⟩
  rw [if_neg h3] at h
  by_cases h4 : (m == "reverse" && k == 0) = true
  · rw [if_pos h4] at h; cases h; rw [e h4]; exact ⟨_, _, fit_reverse⟩
  rw [if_neg h4] at h
  exact nos h
theorem few_args {args : List Expr} (hn : args.length < 20) (hs : args.all notStar = true) {pos : Pos} : ((backTo pos (starEach args env)).all (fun x => !x.1) && (backToKw pos (keywordEach [] env)).all (fun x => x.1.isSome) && decide (args.length + ([] : List Keyword).length + (if ([] : List Keyword).isEmpty then 0 else 1) < 30)) = true := by
  rw [star_all hs]
  show (true && (true && decide (args.length + 0 + 0 < 30))) = true
  rw [Bool.true_and, Bool.true_and, decide_eq_true_iff]
  (first | lia | omega)
theorem bm_core (hw : g.w = w) (IH : ESnd prog w K g n fu) (V : EnvS cc env) (H : Room (n + 1) A) (L : LRel g cc env ρ lm s.heap) (R : Rel g ρ σ s.heap) {b : BM} {nm : Str} {o : Expr} {args : List Expr} {apos pos : Pos} (hm : bmOf nm args.length = some b) (hb : plainBase o = true) (hl : (apos.endLine == pos.line) = true) (hn : args.length < 20) (hs : args.all notStar = true)
    (h : wpe (wpCall (pgOf K) n) (pgOf K) (.bm b (cE K fu cc o) (MEs.of (args.map (cE K fu cc)))) lm σ Q) : wpAny (model prog w) A (eval (.Call (.Attribute o nm apos) args [] pos) env) (EP g ρ s Q) NoE s := by
  obtain ⟨T, id, F⟩ := bm_fit (prog := prog) (A := A) (Q := Q) H hw hm
  refine wpAny_Call_method_late (trees := backTo pos (starEach args env)) (base_of hb _ _ _) (few_args hn hs) hl rfl (ev R L (IH V H L R h) fun ov v σ₁ ρ₁ s₁ l₁ S₁ R₁ L₁ V₁ h₁ => ?_)
  obtain ⟨hok, h₁⟩ := h₁
  obtain ⟨a, ob, rfl, ha, hc, hd⟩ := F.hT R₁ V₁ hok
  refine ⟨T, id, F.pa, F.slot, F.ty, ⟨ob, ha, hc⟩, fun z e => by cases e; exact ⟨ob, ha, hd⟩, ?_⟩
  refine PySem.Calls.callWith_builtin (star_plain hs pos env) (evalArgs_sound IH V H pos hs L₁ R₁ h₁ fun vs s₂ x => ?_)
  obtain ⟨pvs, σ₂, ρ₂, l₂, S₂, R₂, V₂, q⟩ := x
  exact EPm (l₁.trans l₂) (S₁.trans S₂) (F.fin R₂ (V₁.step R₁ xok_nil S₂) V₂ q)
end
end
section
open PySem PySem.W PyProof.Rows
theorem bootM_reversed : bootBuiltins "reversed" = some (.type "reversed") := by decide +kernel
theorem bootM_len : bootBuiltins "len" = some (.builtin "len") := by decide +kernel
theorem bootM_tuple : bootBuiltins "tuple" = some (.type "tuple") := by decide +kernel
theorem bootM_sorted : bootBuiltins "sorted" = some (.builtin "sorted") := by decide +kernel
theorem bootM_list : bootBuiltins "list" = some (.type "list") := by decide +kernel
theorem bootM_range : bootBuiltins "range" = some (.type "range") := by decide +kernel

section
variable {prog : Program} {w : World} {K : Frag} {g : Glb} {n fu : Nat} {cc : CC} {env : Env} {lm : LM} {σ : St} {A : Around} {s : Shared} {ρ : Rho} {Q : PV → St → Prop}

theorem rev_eval (B : Base K g) (V : EnvS cc env) (R : Rel g ρ σ s.heap) {e t : Expr} (h : revArg? K cc e = some t) {P : Value → Shared → Prop}
    (k : wpAny (model prog w) A (eval t env) (fun tv s₁ => wpAny (model prog w) A (call (.type "reversed") [tv]) P NoE s₁) NoE s) : wpAny (model prog w) A (eval e env) P NoE s := by
  obtain ⟨p, pos, rfl, hi, hB, hs⟩ := rev_of h
  refine Call_Name rfl (nameB_sound B V R hi hB (by decide) bootM_reversed ?_)
  rw [starEach_cons hs]
  refine PyProof.Rows.callWith_type rfl (PySem.Calls.evalArgs_plain (PySem.Calls.spliced_cons (wpAny_mono k (fun tv s₁ x => ?_) fun _ _ f => f)))
  exact PySem.Calls.spliced_nil x

theorem E_extend (hw : g.w = w) (B : Base K g) (IH : ESnd prog w K g n fu) (V : EnvS cc env) (H : Room (n + 1) A) (L : LRel g cc env ρ lm s.heap) (R : Rel g ρ σ s.heap) {o a t : Expr} {apos pos : Pos} (hb : plainBase o = true) (hl : (apos.endLine == pos.line) = true) (hs : notStar a = true)
    (hr : revArg? K cc a = some t) (h : wpe (wpCall (pgOf K) n) (pgOf K) (.bm .extendRev (cE K fu cc o) (.cons (cE K fu cc t) .nil)) lm σ Q) : wpAny (model prog w) A (eval (.Call (.Attribute o "extend" apos) [a] [] pos) env) (EP g ρ s Q) NoE s := by
  refine wpAny_Call_method_late (trees := backTo pos (starEach [a] env)) (base_of hb _ _ _) (few_args (by show 1 < 20; decide) (by rw [List.all_cons, hs]; rfl)) hl rfl (ev R L (IH V H L R h) fun ov v σ₁ ρ₁ s₁ l₁ S₁ R₁ L₁ V₁ h₁ => ?_)
  obtain ⟨hok, h₁⟩ := h₁
  obtain ⟨a', ob, rfl, ha, hc, hd⟩ := fit_list R₁ V₁ hok
  refine ⟨"list", "list.extend", F.plainAttrs_list, F.slot_list_extend, F.type_list_extend, ⟨ob, ha, hc⟩, fun z e => by cases e; exact ⟨ob, ha, hd⟩, ?_⟩
  rw [starEach_cons hs]
  refine PySem.Calls.callWith_builtin rfl (PySem.Calls.evalArgs_plain (PySem.Calls.spliced_cons (rev_eval B V R₁ hr (ev R₁ L₁ (IH V H L₁ R₁ h₁) fun b x σ₂ ρ₂ s₂ l₂ S₂ R₂ L₂ V₂ h₂ => ?_))))
  obtain ⟨k, xs, rfl, ek, ys, eb, hz, q⟩ := (show bmeth .extendRev ov [b] σ₂ Q from h₂)
  cases eb
  exact wpAny_mono (extendRev_sound (A := A) H R₂ (V₁.step R₁ xok_nil S₂) ek V₂ hz q) (fun it s₃ x => PySem.Calls.spliced_nil (wpAny_mono x (fun _ _ y => y.trans (l₁.trans l₂) (S₁.trans S₂)) fun _ _ f => f)) fun _ _ f => f

theorem E_meth (B : Base K g) (C : CSound prog w K g n) (IH : ESnd prog w K g n fu) (V : EnvS cc env) (H : Room (n + 1) A) (L : LRel g cc env ρ lm s.heap) (R : Rel g ρ σ s.heap) {o : Expr} {m : Str} {i : Nat} {args : List Expr} {apos pos : Pos} (hb : plainBase o = true) (hl : (apos.endLine == pos.line) = true)
    (hn : args.length < 20) (hs : args.all notStar = true) (hm : attrId m = some i)
    (h : wpe (wpCall (pgOf K) n) (pgOf K) (.meth (cE K fu cc o) i (MEs.of (args.map (cE K fu cc)))) lm σ Q) : wpAny (model prog w) A (eval (.Call (.Attribute o m apos) args [] pos) env) (EP g ρ s Q) NoE s := by
  rw [arm_eval_Call, base_of hb]
  refine wpAny_bind (ev R L (IH V H L R h) fun ov v σ₁ ρ₁ s₁ l₁ S₁ R₁ L₁ V₁ h₁ => wpAny_bind (wpAny_standAt ?_))
  obtain ⟨k, c, fs, rfl, ek, f, hf, hlk, h₁⟩ := h₁
  obtain ⟨hal, hi⟩ := attrAt_of hm
  have hform : methodCallForm (args.length + ([] : List Keyword).length) (backTo pos (starEach args env)) (backToKw pos (keywordEach [] env)) = true := few_args hn hs
  have hpos : methodCallPos true o env apos pos = pure pos := by unfold methodCallPos; rw [hl]; rfl
  have gm := fun pl (P : Value × List Value → Shared → Prop) => getMethod_sound (prog := prog) (w := w) (A := A) (E := NoE) (pl := pl) B R₁ (P := P) hi V₁ ek hlk hf
  rw [hal] at gm
  unfold methodCall
  rw [hform]
  refine wpAny_bind (wpAny_holding ((gm _ _ ?_).2))
  refine wpAny_bind (wpAny_of_eq hpos ?_)
  have hk := (gm (pure true) (fun _ _ => True) trivial).1
  show wpAny _ _ (callWith pos (.ref f) [v] (backTo pos (starEach args env)) (backToKw pos (keywordEach [] env))) _ _ _
  refine callWith_of (P := fun h => K.In h) (by rw [star_plain hs]; rfl) (keeps_K hk) (evalArgs_sound IH V H pos hs L₁ R₁ h₁ fun vs s₂ x => ?_)
  obtain ⟨pvs, σ₂, ρ₂, l₂, S₂, R₂, V₂, q⟩ := x
  exact ⟨B.in R₂, EPm (l₁.trans l₂) (S₁.trans S₂) (callFn_sound C H R₂ (.cons (V₁.step R₁ xok_nil S₂) V₂) q)⟩

theorem E_fn (B : Base K g) (C : CSound prog w K g n) (IH : ESnd prog w K g n fu) (V : EnvS cc env) (H : Room (n + 1) A) (L : LRel g cc env ρ lm s.heap) (R : Rel g ρ σ s.heap) {x : Str} {a : Addr} {args : List Expr} {p pos : Pos} (hi : cc.implicit x = true) (hg : gRef K x = some a) (hs : args.all notStar = true)
    (h : wpe (wpCall (pgOf K) n) (pgOf K) (.call a (MEs.of (args.map (cE K fu cc)))) lm σ Q) : wpAny (model prog w) A (eval (.Call (.Name x p) args [] pos) env) (EP g ρ s Q) NoE s := by
  obtain ⟨e, hk⟩ := gRef_inv hg
  refine Call_Name rfl (nameG_sound B V R hi e ?_)
  refine callWith_of (P := fun h => K.In h) (by rw [star_plain hs]; rfl) (keeps_K hk) (evalArgs_sound IH V H pos hs L R h fun vs s₁ x => ?_)
  obtain ⟨pvs, σ₁, ρ₁, l₁, S₁, R₁, V₁, q⟩ := x
  exact ⟨B.in R₁, EPm l₁ S₁ (callFn_sound C H R₁ V₁ q)⟩

theorem under_room {c : Addr} {vs : List Value} (H : Room (n + 1) A) : RoomC n (A.under (.builtin "type.__call__" ⟨.ref c :: vs, []⟩)) := by
  have hw : (Code.builtin "type.__call__" ⟨.ref c :: vs, []⟩).weight ≤ 1 := Nat.le_of_ble_eq_true (by kernel_rfl)
  have hu : (Code.builtin "type.__call__" ⟨.ref c :: vs, []⟩).cUnits ≤ 4 := Nat.le_of_ble_eq_true (by kernel_rfl)
  exact ⟨H.hd, by have := H.dp; show A.depth + _ + 2 * n + 5 ≤ recursionLimit; (first | lia | omega), by have := H.un; show A.units + _ + 20 * n + 1010 ≤ cLine; (first | lia | omega)⟩

theorem new_sound (B : Base K g) (C : CSound prog w K g n) (H : Room (n + 1) A) (R : Rel g ρ σ s.heap) {c f : Addr} {pvs : List PV} {vs : List Value} (V : VRs s.heap ρ pvs vs) (hf : initOf K c = some f)
    (h : wpCall (pgOf K) n f (.obj σ.length :: pvs) (σ ++ [.inst c []]) fun r σ₂ => r = .none ∧ Q (.obj σ.length) σ₂) : wpAny (model prog w) A (call (.ref c) vs) (EP g ρ s Q) NoE s := by
  obtain ⟨hfi, hmk, hfn⟩ := initOf_inv hf
  obtain ⟨hh, gs, d, t, os⟩ := s
  have X := B.in R
  have k1 : ∀ b o, hh.get? b = some o → ((hh.push emptyDict).push (instObj c hh.objs.size)).get? b = some o := fun b o e => Heap.get?_push_of_some _ (Heap.get?_push_of_some _ e)
  have hx : ((hh.push emptyDict).push (instObj c hh.objs.size)).get? (hh.objs.size + 1) = some (instObj c hh.objs.size) := by heap_get
  have hdx : ((hh.push emptyDict).push (instObj c hh.objs.size)).get? hh.objs.size = some emptyDict := Heap.get?_push_of_some _ (Heap.get?_push_size _ rfl)
  have fresh := get_size hh
  have R₁ : Rel g (ρ ++ [(hh.objs.size + 1, hh.objs.size)]) (σ ++ [.inst c []]) ((hh.push emptyDict).push (instObj c hh.objs.size)) :=
    (R.grow k1).alloc (R.fresh fresh) (fun q => Nat.lt_irrefl _ (own_lt R q)) (R.ne_mods (Nat.le_refl _)) ⟨hx, [], 0, hdx, trivial⟩
  have S₁ : Step [] ρ hh (ρ ++ [(hh.objs.size + 1, hh.objs.size)]) ((hh.push emptyDict).push (instObj c hh.objs.size)) :=
    ⟨⟨_, rfl, fun p hp => by rw [List.mem_singleton.mp hp]; exact fresh⟩, fun a o e => ⟨o, k1 a o e⟩, fun a o e _ _ => k1 a o e⟩
  have Vx : VR ((hh.push emptyDict).push (instObj c hh.objs.size)) (ρ ++ [(hh.objs.size + 1, hh.objs.size)]) (.obj σ.length) (.ref (hh.objs.size + 1)) := .obj (d := hh.objs.size) (by rw [← R.len]; simp)
  refine wpAny_call (make_core (makes_of X hmk) (looks_findIn X hfi) (fun self => bind_fn X self (beq_iff_eq.mp hfn)) (.inl rfl) ?_)
  refine codeAny_mono (C (s := ⟨(hh.push emptyDict).push (instObj c hh.objs.size), gs, d, t, os⟩) (under_room H) R₁ (.cons Vx (V.mono fun _ _ _ e => k1 _ _ e)) h) fun r s' x => ?_
  obtain ⟨v, rfl, pv, σ₂, ρ₂, l₂, S₂, R₂, V₂, rfl, q⟩ := RP_inv x
  cases V₂
  exact ⟨rfl, .obj σ.length, σ₂, ρ₂, (Like.hp ⟨hh, gs, d, t, os⟩ _).trans l₂, S₁.trans S₂, R₂, Vx.step R₁ xok_nil S₂, q⟩

theorem E_new (B : Base K g) (C : CSound prog w K g n) (IH : ESnd prog w K g n fu) (V : EnvS cc env) (H : Room (n + 1) A) (L : LRel g cc env ρ lm s.heap) (R : Rel g ρ σ s.heap) {x : Str} {a : Addr} {args : List Expr} {p pos : Pos} (hi : cc.implicit x = true) (hg : gRef K x = some a) (hs : args.all notStar = true)
    (h : wpe (wpCall (pgOf K) n) (pgOf K) (.new a (MEs.of (args.map (cE K fu cc)))) lm σ Q) : wpAny (model prog w) A (eval (.Call (.Name x p) args [] pos) env) (EP g ρ s Q) NoE s := by
  obtain ⟨e, hk⟩ := gRef_inv hg
  refine Call_Name rfl (nameG_sound B V R hi e ?_)
  refine callWith_of (P := fun h => K.In h) (by rw [star_plain hs]; rfl) (keeps_K hk) (evalArgs_sound IH V H pos hs L R h fun vs s₁ x => ?_)
  obtain ⟨pvs, σ₁, ρ₁, l₁, S₁, R₁, V₁, f, hf, q⟩ := x
  exact ⟨B.in R₁, EPm l₁ S₁ (new_sound B C H R₁ V₁ hf q)⟩
end
end
section
open PySem PySem.W PyProof.Rows
section
variable {prog : Program} {w : World} {K : Frag} {g : Glb} {n fu : Nat} {cc : CC} {env : Env} {lm : LM} {σ : St} {A : Around} {s : Shared} {ρ : Rho} {Q : PV → St → Prop}

theorem b1_call (B : Base K g) (V : EnvS cc env) (R : Rel g ρ σ s.heap) {x : Str} {e : Expr} {f : Value} {p pos : Pos} (hb : bootBuiltins x = some f) (hf : (∃ id, f = .builtin id) ∨ ∃ id, f = .type id) (hn : x ≠ "__name__") (hi : cc.implicit x = true) (hB : isB K x = true) (hs : notStar e = true) {P : Value → Shared → Prop}
    (k : wpAny (model prog w) A (eval e env) (fun v s₁ => wpAny (model prog w) A (call f [v]) P NoE s₁) NoE s) : wpAny (model prog w) A (eval (.Call (.Name x p) [e] [] pos) env) P NoE s := by
  refine Call_Name rfl (nameB_sound B V R hi hB hn hb ?_)
  rw [starEach_cons hs]
  rcases hf with ⟨id, rfl⟩ | ⟨id, rfl⟩
  · exact PySem.Calls.callWith_builtin rfl (PySem.Calls.evalArgs_plain (PySem.Calls.spliced_cons (wpAny_mono k (fun tv s₁ x => PySem.Calls.spliced_nil x) fun _ _ f => f)))
  · exact PyProof.Rows.callWith_type rfl (PySem.Calls.evalArgs_plain (PySem.Calls.spliced_cons (wpAny_mono k (fun tv s₁ x => PySem.Calls.spliced_nil x) fun _ _ f => f)))
structure F1Fit (prog : Program) (w : World) (g : Glb) (Q : PV → St → Prop) (p : Prim) (x : Str) (f : Value) : Prop where
  boot : bootBuiltins x = some f
  kind : (∃ id, f = .builtin id) ∨ ∃ id, f = .type id
  nm : x ≠ "__name__"
  fin : ∀ {A : Around} {σ : St} {ρ : Rho} {s : Shared} {a : PV} {v : Value}, Rel g ρ σ s.heap → VR s.heap ρ a v → prim1 p a σ Q → wpAny (model prog w) A (call f [v]) (EP g ρ s Q) NoE s
theorem f1_fit {x : Str} {p : Prim} (h : fn1 x = some p) : ∃ f, F1Fit prog w g Q p x f := by
  unfold fn1 at h
  by_cases h1 : (x == "len") = true
  · rw [if_pos h1] at h; cases h; rw [show x = "len" from beq_iff_eq.mp h1]; exact ⟨_, bootM_len, .inl ⟨_, rfl⟩, by decide, len_sound⟩
  rw [if_neg h1] at h
  by_cases h2 : (x == "tuple") = true
  · rw [if_pos h2] at h; cases h; rw [show x = "tuple" from beq_iff_eq.mp h2]; exact ⟨_, bootM_tuple, .inr ⟨_, rfl⟩, by decide, tuple_sound⟩
  rw [if_neg h2] at h
  by_cases h3 : (x == "sorted") = true
  · rw [if_pos h3] at h; cases h; rw [show x = "sorted" from beq_iff_eq.mp h3]; exact ⟨_, bootM_sorted, .inl ⟨_, rfl⟩, by decide, sorted_sound⟩
  rw [if_neg h3] at h
  exact nos h

theorem E_callA (hw : g.w = w) (B : Base K g) (C : CSound prog w K g n) (IH : ESnd prog w K g n fu) (V : EnvS cc env) (H : Room (n + 1) A) (L : LRel g cc env ρ lm s.heap) (R : Rel g ρ σ s.heap) {o : Expr} {m : Str} {args : List Expr} {ap pos : Pos}
    (h : wpe (wpCall (pgOf K) n) (pgOf K) (cCallA K cc o m ap args pos (cE K fu cc)) lm σ Q) : wpAny (model prog w) A (eval (.Call (.Attribute o m ap) args [] pos) env) (EP g ρ s Q) NoE s := by
  unfold cCallA at h
  by_cases hc : (ap.endLine == pos.line && plainBase o && decide (args.length < 20) && args.all notStar) = true
  · rw [if_pos hc] at h
    obtain ⟨hc, hs⟩ := Bool.and_eq_true_iff.mp hc
    obtain ⟨hc, hn⟩ := Bool.and_eq_true_iff.mp hc
    obtain ⟨hl, hb⟩ := Bool.and_eq_true_iff.mp hc
    have hn := of_decide_eq_true hn
    cases hm : bmOf m args.length with
    | some b => rw [hm] at h; exact bm_core hw IH V H L R hm hb hl hn hs h
    | none =>
      rw [hm] at h
      replace h : wpe (wpCall (pgOf K) n) (pgOf K) (if (m == "extend") = true then cExt K cc o args (cE K fu cc) else cMeth o m args (cE K fu cc)) lm σ Q := h
      by_cases hx : (m == "extend") = true
      · rw [if_pos hx] at h
        rw [show m = "extend" from beq_iff_eq.mp hx]
        unfold cExt at h
        cases ha : one? args with
        | none => rw [ha] at h; exact h.elim
        | some a =>
          rw [ha] at h
          obtain rfl := one_inv ha
          replace h : wpe (wpCall (pgOf K) n) (pgOf K) (match revArg? K cc a with | some t => .bm .extendRev (cE K fu cc o) (.cons (cE K fu cc t) .nil) | none => .stuck) lm σ Q := h
          cases ht : revArg? K cc a with
          | none => rw [ht] at h; exact h.elim
          | some t => rw [ht] at h; exact E_extend hw B IH V H L R hb hl (Bool.and_eq_true_iff.mp hs).1 ht h
      · rw [if_neg hx] at h
        unfold cMeth at h
        cases hi : attrId m with
        | none => rw [hi] at h; exact h.elim
        | some i => rw [hi] at h; exact E_meth B C IH V H L R hb hl hn hs hi h
  · rw [if_neg hc] at h; exact h.elim

theorem E_list1 (hw : g.w = w) (B : Base K g) (IH : ESnd prog w K g n fu) (V : EnvS cc env) (H : Room (n + 1) A) (L : LRel g cc env ρ lm s.heap) (R : Rel g ρ σ s.heap) {x : Expr} {p pos : Pos} (hi : cc.implicit "list" = true) (hB : isB K "list" = true) (hs : notStar x = true)
    (h : wpe (wpCall (pgOf K) n) (pgOf K) (cList K cc x (cE K fu cc)) lm σ Q) : wpAny (model prog w) A (eval (.Call (.Name "list" p) [x] [] pos) env) (EP g ρ s Q) NoE s := by
  unfold cList at h
  cases ht : revArg? K cc x with
  | none =>
    rw [ht] at h
    exact b1_call B V R bootM_list (.inr ⟨_, rfl⟩) (by decide) hi hB hs (ev R L (IH V H L R h) fun a v σ₁ ρ₁ s₁ l₁ S₁ R₁ L₁ V₁ h₁ => EPm l₁ S₁ (listDict_sound H hw R₁ V₁ h₁))
  | some t =>
    rw [ht] at h
    refine b1_call B V R bootM_list (.inr ⟨_, rfl⟩) (by decide) hi hB hs (rev_eval B V R ht (ev R L (IH V H L R h) fun a v σ₁ ρ₁ s₁ l₁ S₁ R₁ L₁ V₁ h₁ => ?_))
    obtain ⟨k, xs, rfl, ek, q⟩ := (show prim1 .listRev a σ₁ Q from h₁)
    exact wpAny_mono (listRev_sound (A := A) H R₁ V₁ ek q) (fun it s₂ x => wpAny_mono x (fun _ _ y => y.trans l₁ S₁) fun _ _ f => f) fun _ _ f => f
theorem E_callN (hw : g.w = w) (B : Base K g) (C : CSound prog w K g n) (IH : ESnd prog w K g n fu) (V : EnvS cc env) (H : Room (n + 1) A) (L : LRel g cc env ρ lm s.heap) (R : Rel g ρ σ s.heap) {f : Str} {args : List Expr} {p pos : Pos}
    (h : wpe (wpCall (pgOf K) n) (pgOf K) (cCallN K cc f args (cE K fu cc)) lm σ Q) : wpAny (model prog w) A (eval (.Call (.Name f p) args [] pos) env) (EP g ρ s Q) NoE s := by
  unfold cCallN at h
  by_cases hc : (cc.implicit f && decide (args.length < 20) && args.all notStar) = true
  · rw [if_pos hc] at h
    obtain ⟨hc, hs⟩ := Bool.and_eq_true_iff.mp hc
    obtain ⟨hi, hn⟩ := Bool.and_eq_true_iff.mp hc
    cases hg : gRef K f with
    | some a =>
      rw [hg] at h
      replace h : wpe (wpCall (pgOf K) n) (pgOf K) (if fnIn K a = true then .call a (MEs.of (args.map (cE K fu cc))) else .new a (MEs.of (args.map (cE K fu cc)))) lm σ Q := h
      by_cases hf : fnIn K a = true
      · rw [if_pos hf] at h; exact E_fn B C IH V H L R hi hg hs h
      · rw [if_neg hf] at h; exact E_new B C IH V H L R hi hg hs h
    | none =>
      rw [hg] at h
      replace h : wpe (wpCall (pgOf K) n) (pgOf K) (cFnB K cc f args (cE K fu cc)) lm σ Q := h
      unfold cFnB at h
      cases ha : one? args with
      | none => rw [ha] at h; exact h.elim
      | some x =>
        rw [ha] at h
        obtain rfl := one_inv ha
        have hs1 := (Bool.and_eq_true_iff.mp hs).1
        replace h : wpe (wpCall (pgOf K) n) (pgOf K) (if isB K f = true then cFn1 K cc f x (cE K fu cc) else .stuck) lm σ Q := h
        by_cases hB : isB K f = true
        · rw [if_pos hB] at h
          unfold cFn1 at h
          cases hp : fn1 f with
          | some q =>
            rw [hp] at h
            obtain ⟨v, F⟩ := f1_fit (prog := prog) (w := w) (g := g) (Q := Q) hp
            exact b1_call B V R F.boot F.kind F.nm hi hB hs1 (ev R L (IH V H L R h) fun a v σ₁ ρ₁ s₁ l₁ S₁ R₁ L₁ V₁ h₁ => EPm l₁ S₁ (F.fin R₁ V₁ h₁))
          | none =>
            rw [hp] at h
            replace h : wpe (wpCall (pgOf K) n) (pgOf K) (if (f == "list") = true then cList K cc x (cE K fu cc) else .stuck) lm σ Q := h
            by_cases hx : (f == "list") = true
            · rw [if_pos hx] at h
              obtain rfl : f = "list" := beq_iff_eq.mp hx
              exact E_list1 hw B IH V H L R hi hB hs1 h
            · rw [if_neg hx] at h; exact h.elim
        · rw [if_neg hB] at h; exact h.elim
  · rw [if_neg hc] at h; exact h.elim
end
end
section
open PySem PySem.W PyProof.Rows

structure Itr (prog : Program) (w : World) (A : Around) (g : Glb) (I : Addr) (ys : List PV) (chk : St → Prop) (P : Nat → Rho → Heap → Prop) : Prop where
  frame : ∀ {i : Nat} {ρ δ : Rho} {h h' : Heap}, P i ρ h → (∀ o, h.get? I = some o → h'.get? I = some o) → (∀ a its n, h.get? a = some (tupObj its n) → h'.get? a = some (tupObj its n)) → P i (ρ ++ δ) h'
  live : ∀ {i : Nat} {ρ : Rho} {h : Heap}, P i ρ h → ∃ o, h.get? I = some o ∧ NotT o
  item : ∀ {i : Nat} {y : PV} {s : Shared} {ρ : Rho} {σ : St} {E : Value → Shared → Prop} {Q : Option Value → Shared → Prop}, ys[i]? = some y → Rel g ρ σ s.heap → chk σ → P i ρ s.heap →
    (∀ v h' tk, VR s.heap ρ y v → P (i + 1) ρ h' → Heap.SameBut I s.heap h' → Q (some v) { s with heap := h', toks := tk }) → wpAny (model prog w) A (pyNext (.ref I)) Q E s
  done : ∀ {s : Shared} {ρ : Rho} {σ : St} {E : Value → Shared → Prop} {Q : Option Value → Shared → Prop}, Rel g ρ σ s.heap → chk σ → P ys.length ρ s.heap →
    (∀ h' tk, Heap.ExtBut I s.heap h' → Q none { s with heap := h', toks := tk }) → wpAny (model prog w) A (pyNext (.ref I)) Q E s
  self : ∀ {i : Nat} {s : Shared} {ρ : Rho} {E : Value → Shared → Prop} {Q : Value → Shared → Prop}, P i ρ s.heap → Q (.ref I) s → wpAny (model prog w) A (pyIter (.ref I)) Q E s

theorem notT_fields {o : Obj} {vs} (h : o.data = .fields vs) : NotT o := .data (fun _ _ e => by rw [h] at e; cases e) (fun e => by rw [h] at e; cases e)

section
variable {prog : Program} {w : World} {K : Frag} {g : Glb} {n fu : Nat} {cc : CC} {env : Env} {lm : LM} {σ : St} {A : Around} {s : Shared} {ρ : Rho}


theorem Itr.tup (hh : A.handled = none) (I t : Addr) (ys : List PV) :
    Itr prog w A g I ys (fun _ => True) (fun i ρ h => h.IsTupleIter I t i ∧ ∃ its m, h.get? t = some (tupObj its m) ∧ VRs h ρ ys its.toList) where
  frame := fun {i ρ δ h h'} x hI kt => by
    obtain ⟨x, its, m, e, V⟩ := x
    exact ⟨x.at hI, its, m, kt _ _ _ e, V.mono kt⟩
  live := fun {i ρ h} x => by
    obtain ⟨⟨o, e, _, hd⟩, _⟩ := x
    exact ⟨o, e, notT_fields hd⟩
  item := fun {i y s ρ σ E Q} hy R _ x hQ => by
    obtain ⟨x, its, m, e, V⟩ := x
    obtain ⟨v, hv, Vv⟩ := V.all.get hy
    have ne : t ≠ I := fun q => by obtain ⟨o, e', hc, _⟩ := x; rw [← q, e] at e'; cases e'; injection hc with hc; exact absurd hc (by decide)
    refine wpAny_pyNext_tuple_item x (isTuple_of e) (by simpa using hv) fun h' hit' hs' => ?_
    have kt : ∀ a its n, s.heap.get? a = some (tupObj its n) → h'.get? a = some (tupObj its n) := fun a its n ea => (hs'.2 a fun q => by obtain ⟨o, e', hc, _⟩ := x; rw [← q, ea] at e'; cases e'; injection hc with hc; exact absurd hc (by decide)).trans ea
    have := V.mono (δ := []) kt
    rw [List.append_nil] at this
    exact hQ v h' s.toks Vv ⟨hit', its, m, kt _ _ _ e, this⟩ hs'
  done := fun {s ρ σ E Q} R _ x hQ => by
    obtain ⟨x, its, m, e, V⟩ := x
    refine wpAny_pyNext_tuple_end hh x (isTuple_of e) ?_ fun h' he => hQ h' s.toks he
    have := V.all.length
    rw [this.trans Array.length_toList]; exact Array.getElem?_eq_none (Nat.le_refl _)
  self := fun x q => wpAny_pyIter_tupleiter x.1 q

theorem Itr.list (hh : A.handled = none) (I a : Addr) (k : Nat) (ys : List PV) :
    Itr prog w A g I ys (fun τ => τ[k]? = some (.list ys)) (fun i ρ h => h.IsListIter I a i ∧ ρ[k]? = some (a, a)) where
  frame := fun {i ρ δ h h'} x hI kt => ⟨x.1.at hI, by rw [List.getElem?_append_left (List.getElem?_eq_some_iff.mp x.2).1]; exact x.2⟩
  live := fun {i ρ h} x => by
    obtain ⟨⟨o, e, _, hd⟩, _⟩ := x
    exact ⟨o, e, notT_fields hd⟩
  item := fun {i y s ρ σ E Q} hy R hc x hQ => by
    obtain ⟨p, hp, ho⟩ := R.lookup hc
    rw [x.2] at hp; cases hp
    obtain ⟨_, _, its, m, e, V⟩ := ho
    obtain ⟨v, hv, Vv⟩ := V.get hy
    refine wpAny_pyNext_list_item x.1 (isList_of e) (by simpa using hv) fun h' hit' hs' => ?_
    exact hQ v h' s.toks Vv ⟨hit', x.2⟩ hs'
  done := fun {s ρ σ E Q} R hc x hQ => by
    obtain ⟨p, hp, ho⟩ := R.lookup hc
    rw [x.2] at hp; cases hp
    obtain ⟨_, _, its, m, e, V⟩ := ho
    refine wpAny_pyNext_list_end hh x.1 (isList_of e) ?_ fun h' he => hQ h' s.toks he
    have := V.length
    rw [this.trans Array.length_toList]; exact Array.getElem?_eq_none (Nat.le_refl _)
  self := fun x q => wpAny_pyIter_listiter x.1 q

theorem Itr.rev (hh : A.handled = none) (I a : Addr) (k : Nat) (ys : List PV) :
    Itr prog w A g I ys.reverse (fun τ => τ[k]? = some (.list ys)) (fun i ρ h => h.IsRevIter I a ((ys.length : Int) - 1 - (i : Int)) ∧ ρ[k]? = some (a, a)) where
  frame := fun {i ρ δ h h'} x hI kt => ⟨x.1.at hI, by rw [List.getElem?_append_left (List.getElem?_eq_some_iff.mp x.2).1]; exact x.2⟩
  live := fun {i ρ h} x => by
    obtain ⟨⟨o, e, _, hd⟩, _⟩ := x
    exact ⟨o, e, notT_fields hd⟩
  item := fun {i y s ρ σ E Q} hy R hc x hQ => by
    obtain ⟨p, hp, ho⟩ := R.lookup hc
    rw [x.2] at hp; cases hp
    obtain ⟨_, _, its, m, e, V⟩ := ho
    have hi : i < ys.length := by have := (List.getElem?_eq_some_iff.mp hy).1; simpa using this
    rw [List.getElem?_reverse hi] at hy
    obtain ⟨v, hv, Vv⟩ := V.get hy
    have e1 : (ys.length : Int) - 1 - (i : Int) = ((ys.length - 1 - i : Nat) : Int) := by (first | lia | omega)
    have hit := x.1
    rw [e1] at hit
    refine wpAny_pyNext_rev_item hit (isList_of e) (by simpa using hv) fun h' hit' hs' => ?_
    have e2 : ((ys.length - 1 - i : Nat) : Int) - 1 = (ys.length : Int) - 1 - ((i + 1 : Nat) : Int) := by (first | lia | omega)
    rw [e2] at hit'
    exact hQ v h' s.toks Vv ⟨hit', x.2⟩ hs'
  done := fun {s ρ σ E Q} R hc x hQ => by
    have hit := x.1
    have e1 : (ys.length : Int) - 1 - ((ys.reverse.length : Nat) : Int) = -1 := by simp; (first | lia | omega)
    rw [e1] at hit
    exact wpAny_pyNext_rev_end hh hit fun h' he => hQ h' s.toks he
  self := fun x q => wpAny_pyIter_revIter x.1 q

theorem rangeL_get {a b c : Int} {i : Nat} {y : PV} (h : (rangeL a b c)[i]? = some y) : i < (Builtin.Range.rangeSize a b c).toNat ∧ y = .int (a + (i : Int) * c) := by
  unfold rangeL at h
  rw [List.getElem?_map] at h
  cases e : (List.range (Builtin.Range.rangeSize a b c).toNat)[i]? with
  | none => rw [e] at h; cases h
  | some j =>
    rw [e] at h
    obtain ⟨hi, e'⟩ := List.getElem?_eq_some_iff.mp e
    simp at e'
    subst e'
    rw [List.length_range] at hi
    refine ⟨hi, ?_⟩
    cases h
    rw [Int.mul_comm]
theorem Itr.range (hh : A.handled = none) (I : Addr) (a b c : Int) (m : Int) (hm : (Builtin.Range.rangeSize a b c) = m) (h0 : 0 ≤ m) :
    Itr prog w A g I (rangeL a b c) (fun _ => True) (fun i ρ h => IsRangeIter h I (a + (i : Int) * c) (m - (i : Int)) c) where
  frame := fun {i ρ δ h h'} x hI kt => hI _ x
  live := fun {i ρ h} x => ⟨_, x, notT_fields rfl⟩
  item := fun {i y s ρ σ E Q} hy R hc x hQ => by
    obtain ⟨hi, rfl⟩ := rangeL_get hy
    refine wpAny_pyNext_range_item x (by rw [hm] at hi; (first | lia | omega)) fun h' hit' hs' => ?_
    refine hQ _ h' _ (.int _ _) ?_ hs'
    have e1 : a + ((i + 1 : Nat) : Int) * c = a + (i : Int) * c + c := by push_cast; rw [Int.add_mul, Int.one_mul, Int.add_assoc]
    have e2 : m - ((i + 1 : Nat) : Int) = m - (i : Int) - 1 := by push_cast; (first | lia | omega)
    show IsRangeIter h' I (a + ((i + 1 : Nat) : Int) * c) (m - ((i + 1 : Nat) : Int)) c
    rw [e1, e2]; exact hit'
  done := fun {s ρ σ E Q} R hc x hQ => by
    refine wpAny_pyNext_range_end hh x ?_ fun h' he => hQ h' s.toks he
    have : (rangeL a b c).length = m.toNat := by unfold rangeL; simp [hm]
    rw [this]; (first | lia | omega)
  self := fun x q => wpAny_pyIter_rangeiter x q

inductive IP (prog : Program) (w : World) (A : Around) (g : Glb) (ρ : Rho) (s : Shared) (Q : List PV → (St → Prop) → St → Prop) (it : Value) (s' : Shared) : Prop
  | mk (I : Addr) (ys : List PV) (chk : St → Prop) (P : Nat → Rho → Heap → Prop) (σ' : St) (ρ' : Rho) (e : it = .ref I) (It : Itr prog w A g I ys chk P) (p0 : P 0 ρ' s'.heap) (l : Like s s') (S : Step [] ρ s.heap ρ' s'.heap) (R : Rel g ρ' σ' s'.heap) (Is : s.heap.get? I = none) (Io : I ∉ ρ'.map (·.2)) (q : Q ys chk σ')
noncomputable def ISnd (prog : Program) (w : World) (K : Frag) (g : Glb) (n fu : Nat) : Prop := ∀ {cc : CC} {env : Env} {e : Expr} {lm : LM} {σ : St} {Q : List PV → (St → Prop) → St → Prop} {A : Around} {s : Shared} {ρ : Rho}, EnvS cc env → Room (n + 1) A → LRel g cc env ρ lm s.heap → Rel g ρ σ s.heap →
  wpi (wpCall (pgOf K) n) (pgOf K) (cI K fu cc e) lm σ Q → (∀ x, foldedSetIterable e env x = pure x) ∧ wpAny (model prog w) A (eval e env) (fun xv s₁ => wpAny (model prog w) A (pyIter xv) (IP prog w A g ρ s Q) NoE s₁) NoE s

theorem new_none (h : Heap) : h.get? h.objs.size = none := by
  cases e : h.get? h.objs.size with
  | none => rfl
  | some o => exact absurd (Heap.lt_size e) (Nat.lt_irrefl _)
theorem size_le {h h' : Heap} {ρ ρ' : Rho} {X : List Addr} (S : Step X ρ h ρ' h') : h.get? h'.objs.size = none := by
  cases e : h.get? h'.objs.size with
  | none => rfl
  | some o => obtain ⟨o', e'⟩ := S.live _ _ e; exact absurd (Heap.lt_size e') (Nat.lt_irrefl _)

theorem I_val (IH : ESnd prog w K g n fu) (V : EnvS cc env) (H : Room (n + 1) A) (L : LRel g cc env ρ lm s.heap) (R : Rel g ρ σ s.heap) {e : Expr} {Q : List PV → (St → Prop) → St → Prop} (h : wpi (wpCall (pgOf K) n) (pgOf K) (.val (cE K fu cc e)) lm σ Q) :
    wpAny (model prog w) A (eval e env) (fun xv s₁ => wpAny (model prog w) A (pyIter xv) (IP prog w A g ρ s Q) NoE s₁) NoE s := by
  refine ev R L (IH V H L R h) fun a v σ₁ ρ₁ s₁ l₁ S₁ R₁ L₁ V₁ h₁ => ?_
  have hI := size_le S₁
  have hIo : s₁.heap.objs.size ∉ ρ₁.map (·.2) := fun q => Nat.lt_irrefl _ (own_lt R₁ q)
  rcases h₁ with h₁ | h₁
  · obtain ⟨xs, l, its, m, rfl, rfl, e, Vl, _, q⟩ := tup_two V₁ h₁
    exact wpAny_pyIter_tuple (isTuple_of e) ⟨_, xs, _, _, σ₁, ρ₁, rfl, Itr.tup H.hd _ _ xs, ⟨⟨_, Heap.get?_push_size _ rfl, rfl, rfl⟩, _, _, get_push_lt e, VRs.of_all (all_push Vl)⟩, l₁.trans (Like.hp s₁ _), S₁.trans (Step.push _), R₁.push _, hI, hIo, q⟩
  · obtain ⟨k, xs, l, its, m, rfl, rfl, _, er, e, Vl, _, q⟩ := lst_two R₁ V₁ h₁
    exact wpAny_pyIter_list (isList_of e) ⟨_, xs, _, _, σ₁, ρ₁, rfl, Itr.list H.hd _ _ k xs, ⟨⟨_, Heap.get?_push_size _ rfl, rfl, rfl⟩, er⟩, l₁.trans (Like.hp s₁ _), S₁.trans (Step.push _), R₁.push _, hI, hIo, q⟩

theorem I_rev (B : Base K g) (IH : ESnd prog w K g n fu) (V : EnvS cc env) (H : Room (n + 1) A) (L : LRel g cc env ρ lm s.heap) (R : Rel g ρ σ s.heap) {e t : Expr} {Q : List PV → (St → Prop) → St → Prop} (ht : revArg? K cc e = some t) (h : wpi (wpCall (pgOf K) n) (pgOf K) (.rev (cE K fu cc t)) lm σ Q) :
    wpAny (model prog w) A (eval e env) (fun xv s₁ => wpAny (model prog w) A (pyIter xv) (IP prog w A g ρ s Q) NoE s₁) NoE s := by
  refine rev_eval B V R ht (ev R L (IH V H L R h) fun a v σ₁ ρ₁ s₁ l₁ S₁ R₁ L₁ V₁ h₁ => ?_)
  have hI := size_le S₁
  have hIo : s₁.heap.objs.size ∉ ρ₁.map (·.2) := fun q => Nat.lt_irrefl _ (own_lt R₁ q)
  obtain ⟨k, xs, rfl, ek, q⟩ := h₁
  refine reversedL_sound R₁ V₁ ek fun l its m _ er hg hv zb => ?_
  have hl := size_of hv
  have hit : (s₁.heap.push (revObj l ((its.size : Int) - 1))).IsRevIter s₁.heap.objs.size l ((its.size : Int) - 1) := ⟨_, Heap.get?_push_size _ rfl, rfl, rfl⟩
  refine wpAny_pyIter_revIter (s := { s₁ with heap := s₁.heap.push (revObj l ((its.size : Int) - 1)) }) hit ⟨_, xs.reverse, _, _, σ₁, ρ₁, rfl, Itr.rev H.hd _ l k xs, ⟨?_, er⟩, l₁.trans (Like.hp s₁ _), S₁.trans (Step.push _), R₁.push _, hI, hIo, q⟩
  have e1 : (xs.length : Int) - 1 - ((0 : Nat) : Int) = (its.size : Int) - 1 := by rw [hl]; exact Int.sub_zero _
  rw [e1]; exact hit

theorem smallR_inv {a : Int} (h : smallR a = true) : -(2 ^ 62) ≤ a ∧ a < 2 ^ 62 := by
  have := of_decide_eq_true h
  (first | lia | omega)
theorem vrs_int {h : Heap} {i : Int} {ps : List PV} {vs : List Value} (V : VRs h ρ (.int i :: ps) vs) : ∃ t us, vs = .int i t :: us ∧ VRs h ρ ps us := by
  cases V with | cons a b => obtain ⟨t, rfl⟩ := a.int_inv; exact ⟨t, _, rfl, b⟩

theorem I_range (B : Base K g) (IH : ESnd prog w K g n fu) (V : EnvS cc env) (H : Room (n + 1) A) (L : LRel g cc env ρ lm s.heap) (R : Rel g ρ σ s.heap) {e : Expr} {args : List Expr} {Q : List PV → (St → Prop) → St → Prop} (ht : rangeArgs? K cc e = some args)
    (h : wpi (wpCall (pgOf K) n) (pgOf K) (.range (argsC args (cE K fu cc))) lm σ Q) :
    wpAny (model prog w) A (eval e env) (fun xv s₁ => wpAny (model prog w) A (pyIter xv) (IP prog w A g ρ s Q) NoE s₁) NoE s := by
  obtain ⟨p, pos, rfl, hi, hB⟩ := range_of ht
  obtain ⟨hs, h⟩ := argsC_sound (σ := σ) h
  refine Call_Name rfl (nameB_sound B V R hi hB (by decide) bootM_range ?_)
  refine PyProof.Rows.callWith_type (star_plain hs pos env) (evalArgs_sound IH V H pos hs L R h fun vs s₁ x => ?_)
  obtain ⟨pvs, σ₁, ρ₁, l₁, S₁, R₁, V₁, h₁⟩ := x
  have fin : ∀ {a b c : Int} {t u v : Tok}, Builtin.Range.small a b c = true → Q (rangeL a b c) (fun _ => True) σ₁ → ∀ tk : Nat,
      wpAny (model prog w) A (pyIter (.ref s₁.heap.objs.size)) (IP prog w A g ρ s Q) NoE { s₁ with heap := s₁.heap.push { cls := .type "range", data := .fields #[.int a t, .int b u, .int c v] }, toks := tk } := by
    intro a b c t u v hsm q tk
    have S₂ : Step [] ρ s.heap ρ₁ (s₁.heap.push { cls := .type "range", data := .fields #[.int a t, .int b u, .int c v] }) := S₁.trans (Step.push _)
    refine wpAny_pyIter_range (s := { s₁ with heap := s₁.heap.push { cls := .type "range", data := .fields #[.int a t, .int b u, .int c v] }, toks := tk }) (IsRange.new ..) hsm ?_
    refine ⟨_, rangeL a b c, _, _, σ₁, ρ₁, rfl, Itr.range H.hd _ a b c _ rfl (by rw [rangeSize_toNat]; exact Int.natCast_nonneg _), ?_, (l₁.trans (Like.mk s₁ _ tk)).trans (Like.hp _ _), S₂.trans (Step.push _), (R₁.push _).push _, size_le S₂, fun qq => ?_, q⟩
    · show _ = _
      rw [Heap.get?_push_size _ rfl]
      simp
    · have := own_lt R₁ qq
      rw [Heap.size_push] at this
      exact absurd (Nat.lt_of_succ_lt this) (Nat.lt_irrefl _)
  obtain ⟨xs, hx, q⟩ := h₁
  rcases hx with ⟨b, rfl, hb, rfl⟩ | ⟨a, b, rfl, ha, hb, rfl⟩
  · obtain ⟨t, _, rfl, W⟩ := vrs_int V₁
    cases W
    exact call_range_1 (fin (small_one (by decide) (by decide) (smallR_inv hb).1 (smallR_inv hb).2) q _)
  · obtain ⟨t, _, rfl, W1⟩ := vrs_int V₁
    obtain ⟨u, _, rfl, W2⟩ := vrs_int W1
    obtain ⟨v, _, rfl, W3⟩ := vrs_int W2
    cases W3
    exact call_range_3 (by decide) (fin (small_down (smallR_inv ha).1 (smallR_inv ha).2 (smallR_inv hb).1 (smallR_inv hb).2) q _) (.inl (PyProof.noPylong_small (by decide)))

theorem folded_of {e : Expr} (h : notSet e = true) (env : Env) (x : Value) : foldedSetIterable e env x = pure x := by cases e <;> first | rfl | cases h
theorem I_step (B : Base K g) (IH : ESnd prog w K g n fu) : ISnd prog w K g n (fu + 1) := by
  intro cc env e lm σ Q A s ρ V H L R h
  replace h : wpi (wpCall (pgOf K) n) (pgOf K) (match rangeArgs? K cc e with | some args => .range (argsC args (cE K fu cc)) | none => cIV K cc e (cE K fu cc)) lm σ Q := h
  cases ht : rangeArgs? K cc e with
  | some args =>
    rw [ht] at h
    refine ⟨fun x => ?_, I_range B IH V H L R ht h⟩
    obtain ⟨p, pos, rfl, _, _⟩ := range_of ht
    rfl
  | none =>
    rw [ht] at h
    replace h : wpi (wpCall (pgOf K) n) (pgOf K) (match revArg? K cc e with | some t => .rev (cE K fu cc t) | none => if notSet e = true then .val (cE K fu cc e) else .val .stuck) lm σ Q := h
    cases hr : revArg? K cc e with
    | some t =>
      rw [hr] at h
      refine ⟨fun x => ?_, I_rev B IH V H L R hr h⟩
      obtain ⟨p, pos, rfl, _, _⟩ := rev_of hr
      rfl
    | none =>
      rw [hr] at h
      replace h : wpi (wpCall (pgOf K) n) (pgOf K) (if notSet e = true then .val (cE K fu cc e) else .val .stuck) lm σ Q := h
      by_cases hn : notSet e = true
      · rw [if_pos hn] at h
        exact ⟨folded_of hn env, I_val IH V H L R h⟩
      · rw [if_neg hn] at h; exact h.elim
end
end
section
open PySem PySem.W PyProof.Rows

set_option tactic.hygienic true in
theorem closure_go {env : Env} {f : Str × NameKind → List (Str × Addr) → Sem (ForInStep (List (Str × Addr)))}
    (hf : ∀ name kind r, f (name, kind) r = if kind == .free then (cellOf env name >>= fun a => pure (.yield ((name, a) :: r))) else pure (.yield r)) :
    ∀ (names : List (Str × NameKind)) (acc : List (Str × Addr)), (∀ p ∈ names, p.2 = .free → ∃ c, env.cells.lookup p.1 = some c) → (∀ x c, acc.lookup x = some c → env.cells.lookup x = some c) →
      ∃ cl, forIn names acc f = pure cl ∧ (∀ x c, cl.lookup x = some c → env.cells.lookup x = some c) ∧ (∀ x c, acc.lookup x = some c → ∃ c', cl.lookup x = some c') ∧ ∀ p ∈ names, p.2 = .free → ∃ c, cl.lookup p.1 = some c
  | [], acc, _, ha => ⟨acc, by rw [List.forIn_nil], ha, fun x c e => ⟨c, e⟩, fun _ hp => nomatch hp⟩
  | (n, k) :: r, acc, hn, ha => by
    rw [List.forIn_cons, hf]
    by_cases hk : k = .free
    · subst hk
      obtain ⟨c, hc⟩ := hn (n, .free) List.mem_cons_self rfl
      obtain ⟨cl, h1, h2, h3, h4⟩ := closure_go hf r ((n, c) :: acc) (fun p hp => hn p (List.mem_cons_of_mem _ hp)) (fun x c' e => by
        rw [List.lookup_cons] at e
        split at e
        · rename_i q; cases e; rw [beq_iff_eq.mp q]; exact hc
        · exact ha x c' e)
      refine ⟨cl, ?_, h2, fun x c' e => ?_, fun p hp hf => ?_⟩
      · simp only [beq_self_eq_true, if_true, cellOf, hc, pure_bind]
        exact h1
      · by_cases q : x = n
        · subst q; exact h3 x c (by rw [List.lookup_cons]; simp)
        · exact h3 x c' (by rw [List.lookup_cons, show (x == n) = false by simpa using q]; exact e)
      · rcases List.mem_cons.mp hp with rfl | hp
        · exact h3 n c (by rw [List.lookup_cons]; simp)
        · exact h4 p hp hf
    · obtain ⟨cl, h1, h2, h3, h4⟩ := closure_go hf r acc (fun p hp => hn p (List.mem_cons_of_mem _ hp)) ha
      refine ⟨cl, ?_, h2, h3, fun p hp hf => ?_⟩
      · have : (k == NameKind.free) = false := by simpa using hk
        simp only [this, Bool.false_eq_true, if_false, pure_bind]
        exact h1
      · rcases List.mem_cons.mp hp with rfl | hp
        · exact absurd hf hk
        · exact h4 p hp hf
theorem closure_ok {sc : Scope} {env : Env} (h : ∀ p ∈ sc.names, p.2 = .free → ∃ c, env.cells.lookup p.1 = some c) :
    ∃ cl, closureFor sc env = pure cl ∧ (∀ x c, cl.lookup x = some c → env.cells.lookup x = some c) ∧ ∀ p ∈ sc.names, p.2 = .free → ∃ c, cl.lookup p.1 = some c := by
  unfold closureFor
  obtain ⟨cl, h1, h2, _, h4⟩ := closure_go (env := env) (f := fun (x : Str × NameKind) r => match x with | (name, kind) => if kind == .free then (do let a ← cellOf env name; pure (.yield ((name, a) :: r))) else pure (.yield r)) (fun _ _ _ => rfl) sc.names [] h (fun _ _ e => by cases e)
  refine ⟨cl, ?_, h2, h4⟩
  have : (forIn sc.names ([] : List (Str × Addr)) fun (x : Str × NameKind) r => match x with | (name, kind) => if kind == .free then (do let a ← cellOf env name; pure (.yield ((name, a) :: r))) else pure (.yield r)) = (pure cl : Sem _) := h1
  first
    | exact this
    | (simp only [bind_pure]; exact this)

theorem lookup_filter {α : Type} (p : Str → Bool) (y : Str) : ∀ l : List (Str × α), (l.filter fun q => p q.1).lookup y = if p y then l.lookup y else none
  | [] => by simp
  | (k, v) :: r => by
    rw [List.filter_cons]
    have ih := lookup_filter p y r
    by_cases hk : p k
    · simp only [hk, if_true, List.lookup_cons]
      by_cases q : y = k
      · subst q; simp [hk]
      · have q' : (y == k) = false := by simpa using q
        simp only [q']; exact ih
    · simp only [hk]
      by_cases q : y = k
      · subst q; rw [if_neg (by simp), ih]; simp [hk]
      · have q' : (y == k) = false := by simpa using q
        simp only [List.lookup_cons, q']; exact ih
theorem lookup_mapk {c : Str → NameKind → Bool} (y : Str) : ∀ l : List (Str × NameKind), (l.map fun (p : Str × NameKind) => match p with | (n, k) => if c n k then (n, NameKind.cell) else (n, k)).lookup y = (l.lookup y).map fun k => if c y k then .cell else k
  | [] => rfl
  | (k, v) :: r => by
    have ih := lookup_mapk (c := c) y r
    rw [List.map_cons]
    have e : (match (k, v) with | (n, k) => if c n k then (n, NameKind.cell) else (n, k)) = (k, if c k v then NameKind.cell else v) := by dsimp only; split <;> rfl
    rw [e, List.lookup_cons, List.lookup_cons]
    by_cases q : y = k
    · subst q; simp
    · have q' : (y == k) = false := by simpa using q
      simp only [q']; exact ih

section
variable {cc : CC} {env : Env} {sc : Scope} {x : Str} {cl : List (Str × Addr)} {C : Addr}
structure CompOk (cc : CC) (x : Str) (sc : Scope) : Prop where
  kind : sc.kind = .function
  hx : sc.names.lookup x = some .local
  names : ∀ p ∈ sc.names, (p.2 = .local ∧ sc.names.lookup p.1 = some .local) ∨ p.2 = .globalImplicit ∨ (p.2 = .free ∧ cc.names.lookup p.1 = some .cell ∧ sc.names.lookup p.1 = some .free)
  vars : ∀ p ∈ cc.vars, p.2 < 50
  dbg : x ≠ "__debug__"
theorem compOk_of (h : cc.compOk x sc = true) : CompOk cc x sc := by
  unfold CC.compOk at h
  simp only [Bool.and_eq_true, beq_iff_eq, List.all_eq_true, Bool.or_eq_true, decide_eq_true_eq, bne_iff_ne, ne_eq] at h
  obtain ⟨⟨⟨⟨⟨h1, h2⟩, h3⟩, h4⟩, h5⟩, h6⟩ := h
  refine ⟨h1, h2, fun p hp => ?_, h4, h5⟩
  rcases h3 p hp with (h | h) | h
  · exact .inl h
  · exact .inr (.inl h)
  · exact .inr (.inr ⟨h.1.1.1, h.1.1.2, h.1.2⟩)

theorem inner_names (V : EnvS cc env) : (relabel sc env).names = compNames cc.names sc := by
  unfold relabel compNames
  show List.map _ _ = List.map _ _
  refine List.map_congr_left fun p _ => ?_
  obtain ⟨n, k⟩ := p
  show (if (k == NameKind.free && env.scope.kind == .function && env.kindOf n == some .cell) = true then (n, NameKind.cell) else (n, k)) = _
  rw [V.kind, V.nm]
  simp
theorem inner_kind (V : EnvS cc env) (y : Str) : (compEnvC sc cl C env).kindOf y = (sc.names.lookup y).map fun k => if (k == .free && cc.names.lookup y == some .cell) then .cell else k := by
  show (relabel sc env).names.lookup y = _
  rw [inner_names V]
  unfold compNames
  exact lookup_mapk (c := fun n k => k == .free && cc.names.lookup n == some .cell) y sc.names

set_option tactic.hygienic true in
theorem inner_var {y : Str} {i : Nat} (h : (cc.inner x sc).vars.lookup y = some i) : (y = x ∧ i = 50) ∨ (y ≠ x ∧ cc.vars.lookup y = some i ∧ sc.names.lookup y = some .free) := by
  unfold CC.inner at h
  dsimp only at h
  rw [List.lookup_cons] at h
  by_cases q : y = x
  · subst q; simp at h; exact .inl ⟨rfl, h.symm⟩
  · have q' : (y == x) = false := by simpa using q
    simp only [q'] at h
    rw [lookup_filter (fun z => sc.names.lookup z == some .free && z != x)] at h
    split at h
    · rename_i hc
      simp only [Bool.and_eq_true, beq_iff_eq] at hc
      exact .inr ⟨q, h, hc.1⟩
    · cases h

theorem inner_env (V : EnvS cc env) (O : CompOk cc x sc) (hcl : ∀ x c, cl.lookup x = some c → env.cells.lookup x = some c) (hfr : ∀ p ∈ sc.names, p.2 = .free → ∃ c, cl.lookup p.1 = some c) (hC : ∀ x c, env.cells.lookup x = some c → c ≠ C) :
    EnvS (cc.inner x sc) (compEnvC sc cl C env) where
  kind := O.kind
  gl := V.gl
  bl := V.bl
  nm := fun y => by
    show (relabel sc env).names.lookup y = (compNames cc.names sc).lookup y
    rw [inner_names V]
  vk := fun y i h => by
    rcases inner_var h with ⟨rfl, rfl⟩ | ⟨hy, h1, h2⟩
    · left
      rw [inner_kind V, O.hx]; rfl
    · right
      have hm := lk_mem h2
      have := O.names _ hm
      have hcell : cc.names.lookup y = some .cell := by
        rcases this with h | h | h
        · cases h.1
        · cases h
        · exact h.2.1
      refine ⟨?_, hfr _ hm rfl⟩
      rw [inner_kind V, h2]
      simp [hcell]
  inj := fun y z i h h' => by
    rcases inner_var h with ⟨rfl, rfl⟩ | ⟨hy, h1, h2⟩ <;> rcases inner_var h' with ⟨rfl, h3⟩ | ⟨hy', h1', h2'⟩
    · rfl
    · exact absurd (O.vars _ (lk_mem h1')) (by simp)
    · subst h3; exact absurd (O.vars _ (lk_mem h1)) (by simp)
    · exact V.inj y z i h1 h1'
  cinj := fun y z c h h' => V.cinj y z c (hcl _ _ h) (hcl _ _ h')
  cl := fun y c h => hC y c (hcl _ _ h)
  cc := fun y h => by
    rw [inner_kind V] at h
    cases hl : sc.names.lookup y with
    | none => rw [hl] at h; cases h
    | some k =>
      rw [hl] at h
      have hm := lk_mem hl
      rcases O.names _ hm with q | q | q
      · have : k = .local := q.1
        subst this; simp at h
      · have : k = .globalImplicit := q
        subst this; simp at h
      · exact hfr _ hm q.1
end
end
section
open PySem PySem.W PyProof.Rows
section
variable {prog : Program} {w : World} {K : Frag} {g : Glb} {n fu : Nat} {cc : CC} {env : Env} {lm : LM} {σ : St} {A : Around} {s : Shared} {ρ : Rho}

structure Own1 (g : Glb) (ρ : Rho) (h : Heap) (a : Addr) : Prop where
  un : a ∉ ρ.map (·.2)
  h0 : g.h₀.get? a = none
  live : ∃ o, h.get? a = some o ∧ NotT o
theorem Own1.xok {a : Addr} {h : Heap} (O : Own1 g ρ h a) : Xok [a] ρ h := fun b hb => by rw [List.mem_singleton.mp hb]; exact O.live
theorem Own1.aw {a : Addr} {h : Heap} (O : Own1 g ρ h a) : a ∉ ρ.map (·.2) ∧ g.h₀.get? a = none ∧ ∀ o, h.get? a = some o → NotT o :=
  ⟨O.un, O.h0, fun o e => by obtain ⟨o', e', hn⟩ := O.live; rw [e] at e'; cases e'; exact hn⟩
theorem Own1.step {X : List Addr} {a : Addr} {h h' : Heap} {ρ' : Rho} (O : Own1 g ρ h a) (S : Step X ρ h ρ' h') (ha : a ∉ X) : Own1 g ρ' h' a :=
  ⟨S.own O.un (O.live.imp fun _ e => e.1), O.h0, by obtain ⟨o, e, hn⟩ := O.live; exact ⟨o, S.keep a o e O.un ha, hn⟩⟩
theorem Own1.set {a : Addr} {h h' : Heap} {o : Obj} (O : Own1 g ρ h a) (e : h'.get? a = some o) (hn : NotT o) : Own1 g ρ h' a := ⟨O.un, O.h0, o, e, hn⟩

theorem Rel.own1 {a : Addr} {h h' : Heap} (R : Rel g ρ σ h) (O : Own1 g ρ h a) (hs : Heap.SameBut a h h') (hl : ∃ o, h'.get? a = some o) : Step [a] ρ h ρ h' ∧ Rel g ρ σ h' ∧ ∀ x u, VR h ρ x u → VR h' ρ x u := by
  have S : Step [a] ρ h ρ h' := step_but hs hl
  exact ⟨S, R.mono O.xok (fun b hb => by rw [List.mem_singleton.mp hb]; exact O.h0) S fun b hb o e => (hs.2 b fun q => O.un (q ▸ hb)).trans e, fun x u V => V.step R O.xok S⟩

noncomputable def tests (env : Env) (ifs : List Expr) : Sem Bool := forIn ifs true fun c r => if r = true then do let ok ← isTrue c env (eval c env); pure (ForInStep.yield ok) else pure (ForInStep.yield r)
theorem tests_sound (IT' : ∀ m, fu = m + 1 → TSnd prog w K g n m) (V : EnvS cc env) (H : Room (n + 1) A) (L : LRel g cc env ρ lm s.heap) (R : Rel g ρ σ s.heap) {ifs : List Expr} {Q : Bool → St → Prop} (h : wpt (wpCall (pgOf K) n) (pgOf K) (cIfs K fu cc ifs) lm σ Q) :
    wpAny (model prog w) A (tests env ifs) (TP g ρ s Q) NoE s := by
  cases fu with
  | zero => exact h.elim
  | succ m =>
    rcases ifs with _ | ⟨c, _ | ⟨_, _⟩⟩
    · unfold tests; rw [List.forIn_nil]
      exact wpAny_pure ⟨σ, ρ, Like.refl s, Step.refl .., R, h⟩
    · unfold tests; rw [List.forIn_cons]
      refine wpAny_bind ?_
      rw [if_pos rfl]
      refine wpAny_bind (wpAny_mono (IT' m rfl V H L R h) (fun b s' x => wpAny_pure ?_) fun _ _ f => f)
      show wpAny _ _ (forIn [] b _) _ _ _
      rw [List.forIn_nil]; exact wpAny_pure x
    · exact h.elim

structure CX where
  prog : Program
  w : World
  K : Frag
  g : Glb
  n : Nat
  A : Around
  cc : CC
  env : Env
  lm : LM
  I : Addr
  D : Addr
  ys : List PV
  chk : St → Prop
  P : Nat → Rho → Heap → Prop
  T : MT
  E : ME
  Q : List PV → St → Prop
  s₁ : Shared
  ρ₁ : Rho
structure CInv (X : CX) (i : Nat) (s' : Shared) (ρ' : Rho) (σ' : St) (lmx : LM) (acc : List PV) (items : Array Value) : Prop where
  le : i ≤ X.ys.length
  like : Like X.s₁ s'
  st : Step [X.I, X.env.locals, X.D] X.ρ₁ X.s₁.heap ρ' s'.heap
  rel : Rel X.g ρ' σ' s'.heap
  lrel : LRel X.g X.cc X.env ρ' lmx s'.heap
  off : ∀ j, j ≠ 50 → lmx j = X.lm j
  at_ : X.P i ρ' s'.heap
  own : Own1 X.g ρ' s'.heap X.D
  list : s'.heap.PlainList X.D items
  vals : All2 (VR s'.heap ρ') acc items.toList
  small : acc.length ≤ big
  uni : X.I ∉ ρ'.map (·.2)
  wp : compW (wpt (wpCall (pgOf X.K) X.n) (pgOf X.K) X.T) (wpe (wpCall (pgOf X.K) X.n) (pgOf X.K) X.E) 50 X.chk X.lm (X.ys.drop i) acc σ' X.Q
structure CSome (X : CX) (k : Nat) (s' : Shared) : Prop where
  ex : ∃ i ρ' σ' lmx acc items, k = X.ys.length - i ∧ CInv X i s' ρ' σ' lmx acc items

set_option tactic.hygienic true in
theorem upd_off {lmx lm : LM} (h : ∀ j, j ≠ 50 → lmx j = lm j) (v : PV) : upd lmx 50 v = upd lm 50 v := by
  funext j
  unfold upd
  split
  · rfl
  · rename_i hj; exact h j hj

set_option tactic.hygienic true in
theorem comp_loop {X : CX} {x : Str} {sc : Scope} (V : EnvS X.cc X.env) (hx : X.cc.vars.lookup x = some 50) (hk : X.env.kindOf x = some .local)
    (It : Itr X.prog X.w X.A X.g X.I X.ys X.chk X.P) (hI0 : X.g.h₀.get? X.I = none) (hIC : X.I ∉ Xof X.env) (hID : X.I ≠ X.D) (hDC : X.D ∉ Xof X.env)
    {elt iter : Expr} {px : Pos} {ifs : List Expr} {pos : Pos} 
    (hT : ∀ {lm : LM} {σ : St} {s : Shared} {ρ : Rho} {Q : Bool → St → Prop}, LRel X.g X.cc X.env ρ lm s.heap → Rel X.g ρ σ s.heap → wpt (wpCall (pgOf X.K) X.n) (pgOf X.K) X.T lm σ Q → wpAny (model X.prog X.w) X.A (tests X.env ifs) (TP X.g ρ s Q) NoE s)
    (hE : ∀ {lm : LM} {σ : St} {s : Shared} {ρ : Rho} {Q : PV → St → Prop}, LRel X.g X.cc X.env ρ lm s.heap → Rel X.g ρ σ s.heap → wpe (wpCall (pgOf X.K) X.n) (pgOf X.K) X.E lm σ Q → wpAny (model X.prog X.w) X.A (eval elt X.env) (EP X.g ρ s Q) NoE s) {R : Result → Shared → Prop}
    (hR : ∀ s' ρ' σ' lmx acc items, CInv X X.ys.length s' ρ' σ' lmx acc items → X.Q acc σ' → ∀ h' tk, Heap.ExtBut X.I s'.heap h' → R (.ok .next) { s' with heap := h', toks := tk })
    {s : Shared} {ρ' : Rho} {σ' : St} {lmx : LM} {acc : List PV} {items : Array Value} (h : CInv X 0 s ρ' σ' lmx acc items) :
    codeAny (model X.prog X.w) X.A (.compLoop (.ListComp elt [⟨.Name x px, iter, ifs, 0⟩] sc pos) 0 (.ref X.I) (.ref X.D) X.env) R s := by
  refine codeAny_compLoop_tests (CSome X) ?_ X.ys.length ⟨0, ρ', σ', lmx, acc, items, rfl, h⟩
  rintro k s ⟨i, ρ, σ, lmx, acc, items, rfl, J⟩
  have OI : Own1 X.g ρ s.heap X.I := ⟨J.uni, hI0, It.live J.at_⟩
  rcases Nat.lt_or_eq_of_le J.le with hlt | heq
  · have hy : X.ys[i]? = some X.ys[i] := List.getElem?_eq_getElem hlt
    have hd : X.ys.drop i = X.ys[i] :: X.ys.drop (i + 1) := List.drop_eq_getElem_cons hlt
    have hw := J.wp
    rw [hd] at hw
    obtain ⟨hc, hw⟩ := hw
    refine It.item hy J.rel hc J.at_ fun v h₂ tk₂ Vv P₂ hs₂ => ?_
    obtain ⟨S₂, R₂, kv⟩ := J.rel.own1 OI hs₂ (by obtain ⟨o, e, _⟩ := It.live P₂; exact ⟨o, e⟩)
    have OI₂ : Own1 X.g ρ h₂ X.I := ⟨OI.un, OI.h0, It.live P₂⟩
    have L₂ : LRel X.g X.cc X.env ρ lmx h₂ := J.lrel.step J.rel OI.xok (fun a ha q => hIC (List.mem_singleton.mp q ▸ ha)) S₂
    have D₂ : h₂.PlainList X.D items := by obtain ⟨m, e⟩ := J.list; exact ⟨m, (hs₂.2 X.D hID.symm).trans e⟩
    have OD₂ := J.own.step S₂ (by simpa using hID.symm)
    refine wpAny_assign_Name (store_sound (s := { s with heap := h₂, toks := tk₂ }) V R₂ L₂ hx (kv _ _ Vv) fun s₃ a ha hal l₃ S₃ R₃ L₃ V₃ => ?_)
    have hal := hal hk
    subst hal
    rw [upd_off J.off] at L₃
    have hIC' : X.I ≠ X.env.locals := fun q => hIC (q ▸ X_loc X.env)
    have hDC' : X.D ≠ X.env.locals := fun q => hDC (q ▸ X_loc X.env)
    have xC : Xok [X.env.locals] ρ h₂ := fun b hb => by rw [List.mem_singleton.mp hb]; exact L₂.live (X_loc X.env)
    have P₃ : X.P (i + 1) ρ s₃.heap := by
      have := It.frame (δ := []) P₂ (fun o e => S₃.keep X.I o e OI₂.un (by simpa using hIC')) (R₂.tupKeep xC S₃)
      rwa [List.append_nil] at this
    have OI₃ : Own1 X.g ρ s₃.heap X.I := ⟨OI.un, OI.h0, It.live P₃⟩
    have OD₃ := OD₂.step S₃ (by simpa using hDC')
    have D₃ : s₃.heap.PlainList X.D items := by obtain ⟨m, e⟩ := D₂; exact ⟨m, S₃.keep X.D _ e OD₂.un (by simpa using hDC')⟩
    have T₃ : Step [X.I, X.env.locals, X.D] X.ρ₁ X.s₁.heap ρ s₃.heap := J.st.trans ((S₂.weak (by simp)).trans (S₃.weak (by simp)))
    have A₃ : All2 (VR s₃.heap ρ) acc items.toList := J.vals.mono fun _ _ r => (kv _ _ r).step R₂ xC S₃
    have l₃' : Like X.s₁ s₃ := J.like.trans ((Like.mk s h₂ tk₂).trans l₃)
    -- a step of an expression within
    have within : ∀ {ρ₄ : Rho} {σ₄ : St} {s₄ : Shared}, Step [] ρ s₃.heap ρ₄ s₄.heap → Rel X.g ρ₄ σ₄ s₄.heap → LRel X.g X.cc X.env ρ₄ (upd X.lm 50 X.ys[i]) s₄.heap ∧ X.P (i + 1) ρ₄ s₄.heap ∧ Own1 X.g ρ₄ s₄.heap X.I ∧ Own1 X.g ρ₄ s₄.heap X.D ∧ s₄.heap.PlainList X.D items ∧ All2 (VR s₄.heap ρ₄) acc items.toList := by
      intro ρ₄ σ₄ s₄ S R₄
      have P₄ : X.P (i + 1) ρ₄ s₄.heap := by
        obtain ⟨δ, rfl, _⟩ := S.ext
        exact It.frame P₃ (fun o e => S.keep X.I o e OI₃.un (by simp)) (R₃.tupKeep xok_nil S)
      exact ⟨L₃.step0 R₃ S, P₄, OI₃.step S (by simp), OD₃.step S (by simp), by obtain ⟨m, e⟩ := D₃; exact ⟨m, S.keep X.D _ e OD₃.un (by simp)⟩, A₃.mono fun _ _ r => r.step R₃ xok_nil S⟩
    refine wpAny_mono (hT L₃ R₃ hw) (fun b s₄ x => ?_) fun _ _ f => f.elim
    obtain ⟨σ₄, ρ₄, l₄, S₄, R₄, q⟩ := x
    obtain ⟨L₄, P₄, OI₄, OD₄, D₄, A₄⟩ := within S₄ R₄
    cases b
    · refine ⟨X.ys.length - (i + 1), by (first | lia | omega), i + 1, ρ₄, σ₄, _, acc, items, rfl, ⟨hlt, l₃'.trans l₄, T₃.trans S₄.nil, R₄, L₄, fun j hj => by unfold upd; rw [if_neg hj], P₄, OD₄, D₄, A₄, J.small, OI₄.un, q⟩⟩
    · refine wpAny_mono (hE L₄ R₄ q) (fun u s₅ x => ?_) fun _ _ f => f.elim
      obtain ⟨pv, σ₅, ρ₅, l₅, S₅, R₅, V₅, hb, q⟩ := x
      obtain ⟨L₅, P₅, OI₅, OD₅, D₅, A₅⟩ := within (S₄.trans S₅) R₅
      refine wpAny_list_append_plain (hsz := by have := A₅.length; unfold big at hb; rw [sizeLine_eq]; simp at this; (first | lia | omega)) D₅ fun h₆ D₆ hs₆ => ?_
      obtain ⟨S₆, R₆, kv₆⟩ := R₅.own1 OD₅ hs₆ (by obtain ⟨m, e⟩ := D₆; exact ⟨_, e⟩)
      have L₆ : LRel X.g X.cc X.env ρ₅ (upd X.lm 50 X.ys[i]) h₆ := L₅.step R₅ OD₅.xok (fun a ha q => hDC (List.mem_singleton.mp q ▸ ha)) S₆
      have P₆ : X.P (i + 1) ρ₅ h₆ := by
        have := It.frame (δ := []) P₅ (fun o e => S₆.keep X.I o e OI₅.un (by simpa using hID)) (R₅.tupKeep OD₅.xok S₆)
        rwa [List.append_nil] at this
      have OD₆ : Own1 X.g ρ₅ h₆ X.D := by obtain ⟨m, e⟩ := D₆; exact OD₅.set e .list
      refine ⟨X.ys.length - (i + 1), by (first | lia | omega), i + 1, ρ₅, σ₅, _, acc ++ [pv], items.push u, rfl, ⟨hlt, (l₃'.trans l₄).trans (l₅.trans (Like.hp s₅ h₆)), (T₃.trans (S₄.trans S₅).nil).trans (S₆.weak (by simp)), R₆, L₆, fun j hj => by unfold upd; rw [if_neg hj], P₆, OD₆, D₆, ?_, by simp; (first | lia | omega), OI₅.un, q⟩⟩
      rw [Array.toList_push]
      exact (A₅.mono fun _ _ r => kv₆ _ _ r).snoc (kv₆ _ _ V₅)
  · subst heq
    have hw := J.wp
    rw [List.drop_length] at hw
    exact It.done J.rel hw.1 J.at_ fun h' tk he => hR s ρ σ lmx acc items J hw.2 h' tk he
end
end
section
open PySem PySem.W PyProof.Rows
section
variable {prog : Program} {w : World} {K : Frag} {g : Glb} {n fu : Nat} {cc : CC} {env : Env} {lm : LM} {σ : St} {A : Around} {s : Shared} {ρ : Rho} {Q : PV → St → Prop}

structure CStart (g : Glb) (cc : CC) (env cenv : Env) (x : Str) (sc : Scope) (lm : LM) (s : Shared) (ρ : Rho) (I D : Addr) (s₄ : Shared) (ρ₁ : Rho) (σ₁ : St) : Prop where
  like : Like s s₄
  st : Step [] ρ s.heap ρ₁ s₄.heap
  rel : Rel g ρ₁ σ₁ s₄.heap
  envs : EnvS (cc.inner x sc) cenv
  lrel : LRel g (cc.inner x sc) cenv ρ₁ (fun i => if i = 50 then none else lm i) s₄.heap
  I0 : g.h₀.get? I = none
  Is : s.heap.get? I = none
  IC : I ∉ Xof cenv
  ID : I ≠ D
  DC : D ∉ Xof cenv
  D0 : Own1 g ρ₁ s₄.heap D
  Ds : s.heap.get? D = none
  C0 : Own1 g ρ₁ s₄.heap cenv.locals
  Cs : s.heap.get? cenv.locals = none

theorem cells_X {cl : List (Str × Addr)} {sc : Scope} {C a : Addr} (hcl : ∀ x c, cl.lookup x = some c → env.cells.lookup x = some c) (h : a ∈ Xof (compEnvC sc cl C env)) : a = C ∨ ∃ x, env.cells.lookup x = some a ∧ cl.lookup x = some a := by
  rcases mem_X h with h | ⟨x, hx⟩
  · exact .inl h
  · exact .inr ⟨x, hcl x a hx, hx⟩

theorem comp_start (V : EnvS cc env) (L : LRel g cc env ρ lm s.heap) (R : Rel g ρ σ s.heap) {x : Str} {sc : Scope} (O : CompOk cc x sc) {cl : List (Str × Addr)} (hcl : ∀ x c, cl.lookup x = some c → env.cells.lookup x = some c)
    (hfr : ∀ p ∈ sc.names, p.2 = .free → ∃ c, cl.lookup p.1 = some c) {s₂ : Shared} {ρ₁ : Rho} {σ₁ : St} {I : Addr} (l : Like s s₂) (S : Step [] ρ s.heap ρ₁ s₂.heap) (R₂ : Rel g ρ₁ σ₁ s₂.heap) (hIs : s.heap.get? I = none) (hIo : I ∉ ρ₁.map (·.2)) (hIl : ∃ o, s₂.heap.get? I = some o ∧ NotT o)
    {o₀ : Obj} (hn₀ : NotT o₀) (hf₀ : o₀.isFreed = false) {h₁ : Heap} {m : Str → Option Value} {oC : Obj} (hns : h₁.Ns ((s₂.heap.push o₀).objs.size) m) (hsb : Heap.SameBut ((s₂.heap.push o₀).objs.size) ((s₂.heap.push o₀).push oC) h₁) (hm : ∀ y, m y = none) (tk : Nat) :
    CStart g cc env (compEnvC sc cl ((s₂.heap.push o₀).objs.size) env) x sc lm s ρ I s₂.heap.objs.size { s₂ with heap := h₁, toks := tk } ρ₁ σ₁ ∧ (∀ b o, s₂.heap.get? b = some o → h₁.get? b = some o) ∧ h₁.get? s₂.heap.objs.size = some o₀ := by
  have hC : (s₂.heap.push o₀).objs.size = s₂.heap.objs.size + 1 := Heap.size_push ..
  generalize (s₂.heap.push o₀).objs.size = C at *
  have below : ∀ b o, s₂.heap.get? b = some o → b ≠ C := fun b o e q => by
    have := Heap.lt_size e
    rw [q, hC] at this
    exact absurd (Nat.lt_of_succ_lt this) (Nat.lt_irrefl _)
  have old : ∀ b o, s₂.heap.get? b = some o → h₁.get? b = some o := fun b o e => (hsb.2 b (below b o e)).trans (Heap.get?_push_of_some _ (Heap.get?_push_of_some _ e))
  have hDC : s₂.heap.objs.size ≠ C := by rw [hC]; exact Nat.ne_of_lt (Nat.lt_succ_self _)
  have hD : h₁.get? s₂.heap.objs.size = some o₀ := (hsb.2 _ hDC).trans (Heap.get?_push_of_some _ (Heap.get?_push_size _ hf₀))
  have fC2 : s₂.heap.get? C = none := by
    cases e : s₂.heap.get? C with
    | none => rfl
    | some o => exact absurd rfl (below C o e)
  have fD2 : s₂.heap.get? s₂.heap.objs.size = none := new_none _
  have fs : ∀ a, s₂.heap.get? a = none → s.heap.get? a = none := fun a e => by
    cases q : s.heap.get? a with
    | none => rfl
    | some o => obtain ⟨o', e'⟩ := S.live _ _ q; rw [e] at e'; cases e'
  have fρ : ∀ a, s₂.heap.get? a = none → a ∉ ρ₁.map (·.2) := fun a e q => by obtain ⟨o, e', _⟩ := R₂.owned q; rw [e] at e'; cases e'
  have S₁ : Step [] ρ s.heap ρ₁ h₁ := S.trans (Step.grow old)
  have L₁ : LRel g cc env ρ₁ lm h₁ := L.step0 R S₁
  obtain ⟨oI, hI, hIn⟩ := hIl
  have hXC : ∀ x c, env.cells.lookup x = some c → c ≠ C := fun x c e q => by
    obtain ⟨o, ho, _⟩ := L.live (X_cell e)
    rw [q, fs C fC2] at ho; cases ho
  have hXD : ∀ x c, env.cells.lookup x = some c → c ≠ s₂.heap.objs.size := fun x c e q => by
    obtain ⟨o, ho, _⟩ := L.live (X_cell e)
    rw [q, fs _ fD2] at ho; cases ho
  have hXI : ∀ x c, env.cells.lookup x = some c → c ≠ I := fun x c e q => by
    obtain ⟨o, ho, _⟩ := L.live (X_cell e)
    rw [q, hIs] at ho; cases ho
  have hnC : ∃ o, h₁.get? C = some o ∧ NotT o := by obtain ⟨o, es, ep, ho, hd, _⟩ := hns; exact ⟨o, ho, NotT.dict hd⟩
  refine ⟨⟨l.trans (Like.mk s₂ h₁ tk), S₁, R₂.grow old, inner_env V O hcl hfr hXC, ⟨⟨m, hns, fun y i v hy hv hk => ?_⟩, fun y c hc => ?_, fun a ha => ?_⟩, R.fresh hIs, hIs, fun q => ?_, fun q => ?_, fun q => ?_, ⟨fρ _ fD2, R₂.fresh fD2, _, hD, hn₀⟩, fs _ fD2, ⟨fρ _ fC2, R₂.fresh fC2, hnC⟩, fs _ fC2⟩, old, hD⟩
  · rcases inner_var hy with ⟨rfl, rfl⟩ | ⟨hy', h1, h2⟩
    · simp at hv
    · have hm := lk_mem h2
      rw [inner_kind V, h2] at hk
      have hcell : cc.names.lookup y = some .cell := by
        rcases O.names _ hm with h | h | h
        · cases h.1
        · cases h
        · exact h.2.1
      simp [hcell] at hk
  · obtain ⟨o, hi, hm'⟩ := L₁.cell y c (hcl y c hc)
    refine ⟨o, hi, fun i v hy hv hk => ?_⟩
    rcases inner_var hy with ⟨rfl, rfl⟩ | ⟨hy', h1, h2⟩
    · simp at hv
    · have hcell : cc.names.lookup y = some .cell := by
        rcases O.names _ (lk_mem h2) with h | h | h
        · cases h.1
        · cases h
        · exact h.2.1
      split at hv
      · cases hv
      · exact hm' i v h1 hv ((V.nm y).trans hcell)
  · rcases cells_X hcl ha with rfl | ⟨y, hy, _⟩
    · exact ⟨fρ _ fC2, R₂.fresh fC2⟩
    · exact L₁.own a (X_cell hy)
  · rcases cells_X hcl q with rfl | ⟨y, hy, _⟩
    · rw [fC2] at hI; cases hI
    · exact hXI y _ hy rfl
  · rw [q] at hI; rw [fD2] at hI; cases hI
  · rcases cells_X hcl q with e | ⟨y, hy, _⟩
    · exact hDC e
    · exact hXD y _ hy rfl

theorem Step.snoc {h h' : Heap} {ρ' : Rho} {p : Addr × Addr} (S : Step [] ρ h ρ' h') (hp : h.get? p.2 = none) : Step [] ρ h (ρ' ++ [p]) h' := by
  obtain ⟨⟨δ, rfl, hδ⟩, l, k⟩ := S
  refine ⟨⟨δ ++ [p], by rw [List.append_assoc], fun q hq => ?_⟩, l, k⟩
  rcases List.mem_append.mp hq with hq | hq
  · exact hδ q hq
  · rw [List.mem_singleton.mp hq]; exact hp

structure CEnd (g : Glb) (ρ : Rho) (s : Shared) (D C : Addr) (σ' : St) (acc : List PV) (ρ' : Rho) (s' : Shared) : Prop where
  like : Like s s'
  st : Step [] ρ s.heap ρ' s'.heap
  rel : Rel g ρ' σ' s'.heap
  ns : ∃ m, s'.heap.Ns C m
  C0 : Own1 g ρ' s'.heap C
  D0 : Own1 g ρ' s'.heap D
  Cs : s.heap.get? C = none
  Ds : s.heap.get? D = none
  ne : D ≠ C
  Dm : D ≠ sysModules
  list : ∃ items c, s'.heap.get? D = some (lstObj items c) ∧ All2 (VR s'.heap ρ') acc items.toList
  small : acc.length ≤ big
theorem comp_scope (V : EnvS cc env) {x : Str} {sc : Scope} (O : CompOk cc x sc) : (∀ p ∈ sc.names, p.2 = .free → ∃ c, env.cells.lookup p.1 = some c) ∧ (∀ y ∈ sc.names, y.2 ≠ .cell) ∧ ∀ y ∈ sc.names, y.2 = .local → sc.names.lookup y.1 = some .local := by
  refine ⟨fun p hp hf => ?_, fun p hp hf => ?_, fun p hp hf => ?_⟩ <;> rcases O.names p hp with h | h | h
  · rw [hf] at h; cases h.1
  · rw [hf] at h; cases h
  · exact V.cc p.1 ((V.nm p.1).trans h.2.1)
  · rw [hf] at h; cases h.1
  · rw [hf] at h; cases h
  · rw [hf] at h; cases h.1
  · exact h.2
  · rw [hf] at h; cases h
  · rw [hf] at h; cases h.1


set_option tactic.hygienic true in
theorem comp_core (IH : ESnd prog w K g n fu) (IT' : ∀ m, fu = m + 1 → TSnd prog w K g n m) (II : ISnd prog w K g n fu) (V : EnvS cc env) (H : Room (n + 1) A) (L : LRel g cc env ρ lm s.heap) (R : Rel g ρ σ s.heap) {elt iter : Expr} {x : Str} {px : Pos} {ifs : List Expr} {sc : Scope} {pos fpos : Pos} (hO : cc.compOk x sc = true)
    (h : wpe (wpCall (pgOf K) n) (pgOf K) (.comp (cE K fu (cc.inner x sc) elt) 50 (cI K fu cc iter) (cIfs K fu (cc.inner x sc) ifs)) lm σ Q) {use : Option (Value → Sem Unit)} {P₀ : Value → Shared → Prop}
    (fin : ∀ D C σ' acc ρ' s', CEnd g ρ s D C σ' acc ρ' s' → Q (.obj σ'.length) (σ' ++ [.list acc]) → compPost (model prog w) A NoE use P₀ (.ref D) C (.ok .next) s') :
    wpAny (model prog w) A (comprehension (.ListComp elt [⟨.Name x px, iter, ifs, 0⟩] sc pos) sc env fpos (newList []) false (eval iter env) use) P₀ NoE s := by
  have O := compOk_of hO
  obtain ⟨hfree, hcell, hnames⟩ := comp_scope V O
  obtain ⟨cl, hclos, hcl, hfr⟩ := closure_ok hfree
  obtain ⟨hs, hi⟩ := II V H L R h
  refine wpAny_comprehension_free rfl hs hclos O.kind hnames (wpAny_mono hi (fun xv s₁ x₁ => wpAny_mono x₁ (fun it s₂ x₂ => ?_) fun _ _ f => f) fun _ _ f => f)
  obtain ⟨I, ys, chk, P, σ₁, ρ₁, rfl, It, P0, l, S, R₂, hIs, hIo, q⟩ := x₂
  refine wpAny_newObj_type (wpAny_newFunctionEnv hcell (by intro y hy; simp at hy) (fun h₁ hns hsb => ?_) O.kind)
  obtain ⟨X, old, hD⟩ := comp_start V L R O hcl hfr l S R₂ hIs hIo (It.live P0) (o₀ := lstObj #[] 0) .list rfl hns hsb (fun _ => rfl) (s₂.toks + 0)
  have P1 : P 0 ρ₁ h₁ := by
    have := It.frame (δ := []) P0 (fun o e => old I o e) (fun a its n e => old a _ e)
    rwa [List.append_nil] at this
  have hCI : I ≠ (s₂.heap.push (lstObj #[] 0)).objs.size := fun q => X.IC (q ▸ X_loc (compEnvC sc cl ((s₂.heap.push (lstObj #[] 0)).objs.size) env))
  have hCD : s₂.heap.objs.size ≠ (s₂.heap.push (lstObj #[] 0)).objs.size := fun q => X.DC (q ▸ X_loc (compEnvC sc cl ((s₂.heap.push (lstObj #[] 0)).objs.size) env))
  have loop : ∀ s₃ : Shared, s₃ = { s₂ with heap := h₁, toks := s₂.toks + ([] : List (Str × Value)).length } →
      codeAny (model prog w) A (.compLoop (.ListComp elt [⟨.Name x px, iter, ifs, 0⟩] sc pos) 0 (.ref I) (.ref s₂.heap.objs.size) (compEnvC sc cl ((s₂.heap.push (lstObj #[] 0)).objs.size) env))
        (compPost (model prog w) A NoE use P₀ (.ref s₂.heap.objs.size) ((s₂.heap.push (lstObj #[] 0)).objs.size)) s₃ := by
    rintro s₃ rfl
    refine comp_loop (X := ⟨prog, w, K, g, n, A, cc.inner x sc, compEnvC sc cl ((s₂.heap.push (lstObj #[] 0)).objs.size) env, lm, I, s₂.heap.objs.size, ys, chk, P, cIfs K fu (cc.inner x sc) ifs, cE K fu (cc.inner x sc) elt, fun vs σ => Q (.obj σ.length) (σ ++ [AObj.list vs]), { s₂ with heap := h₁, toks := s₂.toks + ([] : List (Str × Value)).length }, ρ₁⟩) X.envs (by show List.lookup _ ((x, 50) :: _) = _; rw [List.lookup_cons]; simp) ?_ It X.I0 X.IC X.ID X.DC (fun L R h => tests_sound IT' X.envs H L R h) (fun L R h => IH X.envs H L R h) ?_
      (ρ' := ρ₁) (σ' := σ₁) (lmx := fun i => if i = 50 then none else lm i) (acc := []) (items := #[])
      ⟨Nat.zero_le _, Like.refl _, Step.refl .., X.rel, X.lrel, fun j hj => by simp [hj], P1, X.D0, ⟨0, hD⟩, trivial, Nat.zero_le _, hIo, q⟩
    · rw [inner_kind V, O.hx]; rfl
    · intro s' ρ' σ' lmx acc items J qa h' tk he
      have OI : Own1 g ρ' s'.heap I := ⟨J.uni, X.I0, It.live J.at_⟩
      have OC : Own1 g ρ' s'.heap ((s₂.heap.push (lstObj #[] 0)).objs.size) := ⟨(J.lrel.own _ (X_loc _)).1, (J.lrel.own _ (X_loc _)).2, J.lrel.live (X_loc _)⟩
      obtain ⟨m, hn, _⟩ := J.lrel.ns
      have k3 : ∀ a o, a ∉ [I] → s'.heap.get? a = some o → h'.get? a = some o := fun a o hn e => he a o (by simpa using hn) e
      obtain ⟨R3, kt⟩ := J.rel.away (Y := [I]) (fun a ha => by rw [List.mem_singleton.mp ha]; exact OI.aw) k3
      obtain ⟨c, hc⟩ := J.list
      refine fin s₂.heap.objs.size _ σ' acc ρ' { s' with heap := h', toks := tk } ⟨(X.like.trans J.like).trans (Like.mk s' h' tk), ?_, R3, ⟨m, hn.at' fun o e => he _ o hCI.symm e⟩, ⟨OC.un, OC.h0, OC.live.imp fun o e => ⟨he _ o hCI.symm e.1, e.2⟩⟩,
        ⟨J.own.un, J.own.h0, J.own.live.imp fun o e => ⟨he _ o X.ID.symm e.1, e.2⟩⟩, X.Cs, X.Ds, hCD, R₂.ne_mods (Nat.le_refl _), ⟨items, c, he _ _ X.ID.symm hc, J.vals.mono fun _ _ r => ?_⟩, J.small⟩ qa
      · exact ((X.st.nil (X := [I, (s₂.heap.push (lstObj #[] 0)).objs.size, s₂.heap.objs.size])).trans J.st).fin (fun a ha => by
          simp only [List.mem_cons, List.not_mem_nil, or_false] at ha
          rcases ha with rfl | rfl | rfl
          · exact X.Is
          · exact X.Cs
          · exact X.Ds) fun a o hn e => k3 a o (fun q => hn (by rw [List.mem_singleton.mp q]; exact List.mem_cons_self)) e
      · have := r.mono (δ := []) kt
        rwa [List.append_nil] at this
  exact codeAny_compStart_list (loop _ rfl) (It.self (s := { s₂ with heap := h₁, toks := s₂.toks + ([] : List (Str × Value)).length }) P1 (loop _ rfl))

theorem E_comp (IH : ESnd prog w K g n fu) (IT' : ∀ m, fu = m + 1 → TSnd prog w K g n m) (II : ISnd prog w K g n fu) (V : EnvS cc env) (H : Room (n + 1) A) (L : LRel g cc env ρ lm s.heap) (R : Rel g ρ σ s.heap) {elt iter : Expr} {x : Str} {px : Pos} {ifs : List Expr} {sc : Scope} {pos : Pos} (hO : cc.compOk x sc = true)
    (h : wpe (wpCall (pgOf K) n) (pgOf K) (.comp (cE K fu (cc.inner x sc) elt) 50 (cI K fu cc iter) (cIfs K fu (cc.inner x sc) ifs)) lm σ Q) :
    wpAny (model prog w) A (eval (.ListComp elt [⟨.Name x px, iter, ifs, 0⟩] sc pos) env) (EP g ρ s Q) NoE s := by
  rw [eval_ListComp]
  refine comp_core (use := none) IH IT' II V H L R hO h fun D C σ' acc ρ' s' E qa => ?_
  obtain ⟨m, hn⟩ := E.ns
  obtain ⟨items, c, hc, hv⟩ := E.list
  refine ⟨m, hn, fun h3 hs3 => ?_⟩
  have k3 : ∀ a o, a ∉ [C] → s'.heap.get? a = some o → h3.get? a = some o := fun a o hn e => (hs3.2 a (by simpa using hn)).trans e
  obtain ⟨R3, kt⟩ := E.rel.away (Y := [C]) (fun a ha => by rw [List.mem_singleton.mp ha]; exact E.C0.aw) k3
  have S3 : Step [] ρ s.heap ρ' h3 := (E.st.nil (X := [C])).fin (fun a ha => by rw [List.mem_singleton.mp ha]; exact E.Cs) k3
  have V3 : All2 (VR h3 ρ') acc items.toList := hv.mono fun _ _ r => by
    have := r.mono (δ := []) kt
    rwa [List.append_nil] at this
  exact ⟨.obj σ'.length, σ' ++ [.list acc], ρ' ++ [(D, D)], E.like.trans (Like.hp s' h3), S3.snoc E.Ds, R3.alloc E.D0.h0 E.D0.un E.Dm (orel_list ((hs3.2 _ E.ne).trans hc) V3 E.small), .obj (d := D) (by rw [← R3.len]; simp), qa⟩
end
end
section
open PySem PySem.W PyProof.Rows

theorem ints_snoc : ∀ {l : List Value} {v : Value} {ns : List Int}, IntsAre (l ++ [v]) ns → ∃ ms k t, ns = ms ++ [k] ∧ IntsAre l ms ∧ v = .int k t
  | [], _, _, .cons n t .nil => ⟨[], n, t, rfl, .nil, rfl⟩
  | _ :: _, _, _, .cons n t H => by
    obtain ⟨ms, k, t', rfl, h, hv⟩ := ints_snoc H
    exact ⟨n :: ms, k, t', rfl, .cons n t h, hv⟩
theorem ints_at {l : List Value} {ns : List Int} (H : IntsAre l ns) : ∀ {i : Nat} {v : Value}, l[i]? = some v → ∃ k t, v = .int k t := by
  induction H with
  | nil => intro i v e; simp at e
  | cons n t _ ih => intro i v e; cases i with
    | zero => cases e; exact ⟨n, t, rfl⟩
    | succ i => exact ih (i := i) (by simpa using e)
theorem list_is {vs : List Value} {its : Array Value} (hl : vs.length = its.size) (h : ∀ (j : Nat) (v : Value), vs[j]? = some v → its[j]? = some v) : vs = its.toList := by
  refine List.ext_getElem? fun j => ?_
  cases e : vs[j]? with
  | some v => rw [Array.getElem?_toList]; exact (h j v e).symm
  | none =>
    have := List.getElem?_eq_none_iff.mp e
    rw [List.getElem?_eq_none (by rw [Array.length_toList]; (first | lia | omega))]
theorem uniqI_snoc (ms : List Int) (k : Int) : uniqI (ms ++ [k]) = if k ∈ uniqI ms then uniqI ms else uniqI ms ++ [k] := by
  unfold uniqI
  rw [List.foldl_append]
  rfl
theorem stored_uniq {FV : Value → Value → Prop} {l : List Value} {kvs : List (Int × Value)} (x : StoredAll (fun v k => ∃ t, v = .int k t) FV l kvs) : ∀ ns, IntsAre l ns → kvs.map (·.1) = uniqI ns := by
  induction x with
  | nil => intro ns h; cases h; rfl
  | @snoc l kvs v k y _ hk _ ih =>
    intro ns h
    obtain ⟨ms, k', t, rfl, h', hv⟩ := ints_snoc h
    obtain ⟨t', hk⟩ := hk
    obtain rfl : k' = k := by rw [hv] at hk; cases hk; rfl
    have e := ih ms h'
    rw [uniqI_snoc, ← e]
    unfold stored
    have hany : (kvs.any fun kv => decide (kv.1 = k')) = decide (k' ∈ kvs.map (·.1)) := by
      rw [Bool.eq_iff_iff, List.any_eq_true, decide_eq_true_iff, List.mem_map]
      exact ⟨fun ⟨p, hp, q⟩ => ⟨p, hp, of_decide_eq_true q⟩, fun ⟨p, hp, q⟩ => ⟨p, hp, decide_eq_true q⟩⟩
    rw [hany]
    by_cases hm : k' ∈ kvs.map (·.1)
    · rw [decide_eq_true hm, if_pos rfl, if_pos hm, List.map_map]
      refine List.map_congr_left fun p _ => ?_
      show (if p.1 = k' then (p.1, y) else p).1 = p.1
      split <;> rfl
    · rw [decide_eq_false hm, if_neg Bool.false_ne_true, if_neg hm, List.map_append]; rfl
theorem uniqI_len (ns : List Int) : (uniqI ns).length ≤ ns.length := by
  have key : ∀ (ns acc : List Int), (ns.foldl (fun acc n => if n ∈ acc then acc else acc ++ [n]) acc).length ≤ acc.length + ns.length := by
    intro ns
    induction ns with
    | nil => intro acc; exact Nat.le_refl _
    | cons n ns ih =>
      intro acc
      rw [List.foldl_cons, List.length_cons]
      refine Nat.le_trans (ih _) ?_
      split
      · (first | lia | omega)
      · rw [List.length_append, List.length_singleton]; (first | lia | omega)
  have := key ns []
  unfold uniqI
  simpa using this

section
variable {prog : Program} {w : World} {K : Frag} {g : Glb} {n fu : Nat} {cc : CC} {env : Env} {lm : LM} {σ : St} {A : Around} {s : Shared} {ρ : Rho} {Q : PV → St → Prop}
theorem E_keys (V : EnvS cc env) (H : Room (n + 1) A) {x : Str} {p1 p2 px pos : Pos} {k : Nat} {iter : Expr} {sc : Scope} (hO : cc.compOk x sc = true) (hs : notSet iter = true) {P : Value → Shared → Prop}
    (h : wpAny (model prog w) A (eval iter env) (fun u s₁ => ∃ l its m ns, u = .ref l ∧ s₁.heap.get? l = some (lstObj its m) ∧ IntsAre its.toList ns ∧ ns.length ≤ 1000 ∧ sysModules < s₁.heap.objs.size ∧
      ∀ D h' tk kvs, s₁.heap.get? D = none → (D == sysModules) = false → h'.DictOf (PySem.intKind prog w) D kvs → kvs.map (·.1) = uniqI ns → (∀ b o, s₁.heap.get? b = some o → h'.get? b = some o) → P (.ref D) { s₁ with heap := h', toks := tk }) NoE s) :
    wpAny (model prog w) A (eval (.DictComp (.Name x p1) (.Constant (.bool true) k p2) [⟨.Name x px, iter, [], 0⟩] sc pos) env) P NoE s := by
  have O := compOk_of hO
  obtain ⟨hfree, hcell, hnames⟩ := comp_scope V O
  obtain ⟨cl, hclos, hcl, hfr⟩ := closure_ok hfree
  rw [arm_eval_DictComp]
  refine wpAny_comprehension_free (use := none) rfl (folded_of hs env) hclos O.kind hnames (wpAny_mono h (fun u s₁ x₁ => ?_) fun _ _ f => f)
  obtain ⟨l, its, m, ns, rfl, hg, hI, hn, hlow, q⟩ := x₁
  have hsz : its.size ≤ sizeLine := by
    have := hI.length
    rw [Array.length_toList] at this
    have := big_le
    unfold big at this
    (first | lia | omega)
  refine wpAny_pyIter_list (isList_of hg) ?_
  have hlt := Heap.lt_size hg
  have W := Walks.list (prog := prog) (w := w) (A := A) H.hd s₁.heap.objs.size l (Nat.ne_of_lt hlt) its
  refine wpAny_newObj_type (wpAny_newFunctionEnv hcell (by intro y hy; simp at hy) (fun h₁ hns hsb => ?_) O.kind)
  dsimp only at hns hsb ⊢
  have hnew : ((s₁.heap.push { cls := .type "list_iterator", data := .fields #[.ref l, .int 0 0] }).push { cls := .type "dict", dict := none, data := .dict #[] }).DictOf (PySem.intKind prog w) (s₁.heap.push { cls := .type "list_iterator", data := .fields #[.ref l, .int 0 0] }).objs.size [] := Heap.DictOf.new _
  have hI0 : (s₁.heap.push { cls := .type "list_iterator", data := .fields #[.ref l, .int 0 0] }).get? s₁.heap.objs.size = some { cls := .type "list_iterator", data := .fields #[.ref l, .int 0 0] } := Heap.get?_push_size _ rfl
  have hg0 := get_push_lt (o := { cls := .type "list_iterator", data := .fields #[.ref l, .int 0 0] }) hg
  have old0 : ∀ b o, s₁.heap.get? b = some o → (s₁.heap.push { cls := .type "list_iterator", data := .fields #[.ref l, .int 0 0] }).get? b = some o := fun b o e => get_push_lt e
  have eD : (s₁.heap.push { cls := .type "list_iterator", data := .fields #[.ref l, .int 0 0] }).objs.size = s₁.heap.objs.size + 1 := Heap.size_push ..
  generalize s₁.heap.push { cls := .type "list_iterator", data := .fields #[.ref l, .int 0 0] } = H1 at *
  have eC : (H1.push { cls := .type "dict", dict := none, data := .dict #[] }).objs.size = H1.objs.size + 1 := Heap.size_push ..
  have old1 : ∀ b o, H1.get? b = some o → (H1.push { cls := .type "dict", dict := none, data := .dict #[] }).get? b = some o := fun b o e => get_push_lt e
  generalize H1.push { cls := .type "dict", dict := none, data := .dict #[] } = H2 at *
  have below : ∀ b o, H1.get? b = some o → b ≠ H2.objs.size ∧ b ≠ H1.objs.size := fun b o e => ⟨Nat.ne_of_lt (Nat.lt_trans (Heap.lt_size e) (by rw [eC]; exact Nat.lt_succ_self _)), Nat.ne_of_lt (Heap.lt_size e)⟩
  have hDC : H1.objs.size ≠ H2.objs.size := Nat.ne_of_lt (by rw [eC]; exact Nat.lt_succ_self _)
  have hDI : H1.objs.size ≠ s₁.heap.objs.size := by rw [eD]; exact Nat.succ_ne_self _
  have hDl : H1.objs.size ≠ l := Nat.ne_of_gt (Heap.lt_size hg0)
  have hCI : H2.objs.size ≠ s₁.heap.objs.size := by rw [eC, eD]; exact Nat.ne_of_gt (Nat.lt_succ_of_lt (Nat.lt_succ_self _))
  have hCl : H2.objs.size ≠ l := (below l _ hg0).1.symm
  have up : ∀ b o, b ≠ H2.objs.size → H2.get? b = some o → h₁.get? b = some o := fun b o hb e => (hsb.2 b hb).trans (Heap.get?_push_of_some _ e)
  have old : ∀ b o, H1.get? b = some o → h₁.get? b = some o := fun b o e => up b o (below b o e).1 (old1 b o e)
  have hacc : h₁.DictOf (PySem.intKind prog w) H1.objs.size [] := hnew.at fun o e => up _ o hDC e
  have hkind : ∀ y, (compEnvC sc cl H2.objs.size env).kindOf y = (sc.names.lookup y).map fun k => if (k == .free && cc.names.lookup y == some .cell) then .cell else k := inner_kind V
  have hkx : (compEnvC sc cl H2.objs.size env).kindOf x = some .local := by rw [hkind, O.hx]; rfl
  have loop : ∀ s₃ : Shared, s₃ = { s₁ with heap := h₁, toks := s₁.toks + ([] : List (Str × Value)).length } →
      codeAny (model prog w) A (.compLoop (.DictComp (.Name x p1) (.Constant (.bool true) k p2) [⟨.Name x px, iter, [], 0⟩] sc pos) 0 (.ref s₁.heap.objs.size) (.ref H1.objs.size) (compEnvC sc cl H2.objs.size env))
        (compPost (model prog w) A NoE none P (.ref H1.objs.size) H2.objs.size) s₃ := by
    rintro s₃ rfl
    refine codeAny_compLoop_walkD (hsz := hsz) (knd := PySem.intKind prog w) (cenv := compEnvC sc cl H2.objs.size env) W (fun _ => true) (fun v k => ∃ t, v = .int k t) (fun _ _ => True) hkx (by simp [compEnvC, relabel, O.kind]) hDC
      (by simp only [List.mem_cons, List.not_mem_nil, or_false, not_or]; exact ⟨hDI, hDl⟩) (show H2.objs.size ∉ _ by simp only [List.mem_cons, List.not_mem_nil, or_false, not_or]; exact ⟨hCI, hCl⟩) ⟨⟨_, old _ _ hI0, rfl, rfl⟩, isList_of (old _ _ hg0)⟩ hacc hns ?_ ?_ ?_ ?_
    · intro i v s₂ m₂ hv hn2 hm2 hk2
      show wpAny _ _ (forIn [] true _) _ _ _
      rw [List.forIn_nil]
      exact wpAny_pure ⟨rfl, ⟨_, _, rfl, fun _ _ e => e⟩⟩
    · intro i v s₂ m₂ hv _ hn2 hm2 hk2
      have hv' : its.toList[i]? = some v := by simpa using hv
      obtain ⟨kk, t, rfl⟩ := ints_at hI hv'
      exact wpAny_Name (wpAny_loadName_local (show sc.kind = .function from O.kind) hkx hn2 hm2 ⟨⟨kk, by simp [PySem.intKind, Value.isInt], t, rfl⟩, ⟨_, _, rfl, fun _ _ e => e⟩⟩) (by simpa using O.dbg)
    · intro i v s₂ m₂ hv _ hn2 hm2 hk2
      exact wpAny_Constant_bool ⟨trivial, ⟨_, _, rfl, fun _ _ e => e⟩⟩
    · intro h' tk m' kvs vs hn2 hD hlen hP hF hk2
      have evs : vs = its.toList := list_is hlen hP
      subst evs
      rw [List.filter_eq_self.mpr fun _ _ => rfl] at hF
      refine ⟨m', hn2, fun h3 hs3 => ?_⟩
      have keep : ∀ b o, s₁.heap.get? b = some o → h3.get? b = some o := fun b o e => by
        have e1 := old0 b o e
        have nb := below b o e1
        have nI : b ≠ s₁.heap.objs.size := Nat.ne_of_lt (Heap.lt_size e)
        exact (hs3.2 b nb.1).trans (hk2 b o nb.1 (by simpa using nI) nb.2 (old b o e1))
      refine q H1.objs.size h3 tk kvs ?_ (beq_eq_false_iff_ne.mpr (Nat.ne_of_gt (Nat.lt_trans hlow (by rw [eD]; exact Nat.lt_succ_self _)))) (hD.at fun o e => (hs3.2 _ hDC).trans e) (stored_uniq hF ns hI) keep
      cases e : s₁.heap.get? H1.objs.size with
      | none => rfl
      | some o => exact absurd (Heap.lt_size e) (by rw [eD]; exact Nat.not_lt.mpr (Nat.le_succ _))
  exact codeAny_compStart_dict (loop _ rfl) (W.self 0 _ _ _ ⟨⟨_, old _ _ hI0, rfl, rfl⟩, isList_of (old _ _ hg0)⟩ (loop _ rfl))
end
end
section
open PySem PySem.W PyProof.Rows
section
variable {prog : Program} {w : World} {K : Frag} {g : Glb} {n fu : Nat}

set_option tactic.hygienic true in
theorem idx_of {i : Expr} (h : notSlice i = true) : (∀ x y, subscripted i false x y = operate [x, y] (getItem x y)) ∧ ∀ ov iv new, augStore i ov iv new = (do holding [new, ov, iv] (setItem ov iv new); release [new, ov, iv] []; pure .next) := by
  cases i <;> first | exact ⟨fun _ _ => rfl, fun _ _ _ => rfl⟩ | exact noB h
theorem E_sub (hw : g.w = w) (IH : ESnd prog w K g n fu) (IH' : ∀ m, fu = m + 1 → ESnd prog w K g n m) {cc : CC} {env : Env} {lm : LM} {σ : St} {A : Around} {s : Shared} {ρ : Rho} {Q : PV → St → Prop} (V : EnvS cc env) (H : Room (n + 1) A) (L : LRel g cc env ρ lm s.heap) (R : Rel g ρ σ s.heap)
    {o i : Expr} {pos : Pos} (h : wpe (wpCall (pgOf K) n) (pgOf K) (cSub o i (cE K fu cc) (cO K fu cc)) lm σ Q) : wpAny (model prog w) A (eval (.Subscript o i pos) env) (EP g ρ s Q) NoE s := by
  unfold cSub at h
  by_cases hs : notSlice i = true
  · rw [if_pos hs] at h; exact E_idx hw IH V H L R (idx_of hs).1 h
  · rw [if_neg hs] at h
    revert h
    cases sv i with
    | slice lo hi st p => exact fun h => E_slice IH IH' V H L R h
    | _ => exact fun h => h.elim
theorem E_uniq (B : Base K g) (IH : ESnd prog w K g n fu) {cc : CC} {env : Env} {lm : LM} {σ : St} {A : Around} {s : Shared} {ρ : Rho} {Q : PV → St → Prop} (V : EnvS cc env) (H : Room (n + 1) A) (L : LRel g cc env ρ lm s.heap) (R : Rel g ρ σ s.heap)
    {x : Str} {p p1 p2 px pos pos' : Pos} {k : Nat} {it : Expr} {sc : Scope} (hi : cc.implicit "list" = true) (hB : isB K "list" = true) (hO : cc.compOk x sc = true) (hs : notSet it = true)
    (h : wpe (wpCall (pgOf K) n) (pgOf K) (.uniq (cE K fu cc it)) lm σ Q) :
    wpAny (model prog w) A (eval (.Call (.Name "list" p) [.DictComp (.Name x p1) (.Constant (.bool true) k p2) [⟨.Name x px, it, [], 0⟩] sc pos] [] pos') env) (EP g ρ s Q) NoE s := by
  refine b1_call B V R bootM_list (.inr ⟨_, rfl⟩) (by decide) hi hB rfl (E_keys V H hO hs (ev R L (IH V H L R h) fun a u σ₁ ρ₁ s₁ l₁ S₁ R₁ L₁ V₁ h₁ => ?_))
  obtain ⟨k, xs, l, its, m, rfl, rfl, e1, er, hg, hv, zb, ns, en, hn, q⟩ := lst_two R₁ V₁ h₁
  refine ⟨l, its, m, ns, rfl, hg, ints_are hv en, hn, R₁.big, fun D h' tk kvs hD hm DD ek keep => ?_⟩
  obtain ⟨ep, DA⟩ := DD.dictAt
  have hl : kvs.length = (uniqI ns).length := by rw [← ek, List.length_map]
  have hul := uniqI_len ns
  refine kdl_call (s := { s₁ with heap := h', toks := tk }) (kdl_dict hm) H.hd DA (by have := big_le; unfold big at this; (first | lia | omega)) fun h3 tk3 acc c' hk he hI => ?_
  refine (EP.trans (s' := { s₁ with heap := h', toks := tk }) (l₁.trans (Like.mk s₁ h' tk)) (S₁.trans (Step.grow keep)) (EP.fresh (s := { s₁ with heap := h', toks := tk }) (R₁.grow keep) hk (Nat.le_refl _) he ?_ (by rw [List.length_map]; unfold big; (first | lia | omega)) q _))
  refine All2.of_get ?_ fun i pv v ei ev => ?_
  · have e2 : acc.toList.length = acc.size := Array.length_toList
    rw [List.length_map, e2, hI.1, hl]
  · obtain ⟨k', x, e1, e2⟩ := hI.2 i v (by simpa using ev)
    rw [← ek, List.getElem?_map, List.getElem?_map, e1] at ei
    cases ei
    exact encInt.rv (prog := prog) (w := w) e2
theorem E_call (hw : g.w = w) (B : Base K g) (C : CSound prog w K g n) (IH : ESnd prog w K g n fu) {cc : CC} {env : Env} {lm : LM} {σ : St} {A : Around} {s : Shared} {ρ : Rho} {Q : PV → St → Prop} (V : EnvS cc env) (H : Room (n + 1) A) (L : LRel g cc env ρ lm s.heap) (R : Rel g ρ σ s.heap)
    {f : Expr} {args : List Expr} {kws : List Keyword} {pos : Pos} (h : wpe (wpCall (pgOf K) n) (pgOf K) (cCall K cc f args kws pos (cE K fu cc)) lm σ Q) : wpAny (model prog w) A (eval (.Call f args kws pos) env) (EP g ρ s Q) NoE s := by
  cases kws with
  | cons => exact h.elim
  | nil =>
    revert h
    show wpe _ _ (match (one? args).bind (uniqArg? K cc f) with | some it => .uniq (cE K fu cc it) | none => (match sv f with | .attr o m ap => _ | .name g _ => _ | _ => _)) _ _ _ → _
    cases hu : (one? args).bind (uniqArg? K cc f) with
    | some it =>
      intro h
      obtain ⟨a, ha, hu⟩ := Option.bind_eq_some_iff.mp hu
      obtain rfl := one_inv ha
      obtain ⟨p, p1, k, p2, px, x, sc, pos', rfl, rfl, hi, hB, hO, hs⟩ := uniq_of hu
      exact E_uniq B IH V H L R hi hB hO hs h
    | none =>
    cases sv f with
    | attr o m ap => exact fun h => E_callA hw B C IH V H L R h
    | name f p => exact fun h => E_callN hw B C IH V H L R h
    | _ => exact fun h => h.elim
theorem lc_inv {C : CT} {P : Pg} {cc : CC} {lm : LM} {σ : St} {elt : Expr} {gens : List Comprehension} {sc : Scope} {f : CC → Expr → ME} {it : Expr → MI} {c : CC → List Expr → MT} {Q : EQ} (h : wpe C P (cComp cc elt gens sc f it c) lm σ Q) :
    ∃ x px iter ifs, gens = [⟨.Name x px, iter, ifs, 0⟩] ∧ cc.compOk x sc = true ∧ wpe C P (.comp (f (cc.inner x sc) elt) 50 (it iter) (c (cc.inner x sc) ifs)) lm σ Q := by
  match gens, h with
  | [⟨t, iter, ifs, as⟩], h =>
    replace h : wpe C P (if as = 0 then cCompN cc elt t iter ifs sc f it c else .stuck) lm σ Q := h
    by_cases ha : as = 0
    · rw [if_pos ha] at h
      subst ha
      revert h
      unfold cCompN
      cases sv t with
      | name x px =>
        intro h
        replace h : wpe C P (if cc.compOk x sc = true then .comp (f (cc.inner x sc) elt) 50 (it iter) (c (cc.inner x sc) ifs) else .stuck) lm σ Q := h
        by_cases hO : cc.compOk x sc = true
        · rw [if_pos hO] at h; exact ⟨x, px, iter, ifs, rfl, hO, h⟩
        · rw [if_neg hO] at h; exact h.elim
      | _ => exact fun h => h.elim
    · rw [if_neg ha] at h; exact h.elim
theorem E_lc (IH : ESnd prog w K g n fu) (IT' : ∀ m, fu = m + 1 → TSnd prog w K g n m) (II : ISnd prog w K g n fu) {cc : CC} {env : Env} {lm : LM} {σ : St} {A : Around} {s : Shared} {ρ : Rho} {Q : PV → St → Prop} (V : EnvS cc env) (H : Room (n + 1) A) (L : LRel g cc env ρ lm s.heap) (R : Rel g ρ σ s.heap)
    {elt : Expr} {gens : List Comprehension} {sc : Scope} {pos : Pos} (h : wpe (wpCall (pgOf K) n) (pgOf K) (cComp cc elt gens sc (fun c e => cE K fu c e) (cI K fu cc) (fun c l => cIfs K fu c l)) lm σ Q) :
    wpAny (model prog w) A (eval (.ListComp elt gens sc pos) env) (EP g ρ s Q) NoE s := by
  obtain ⟨x, px, iter, ifs, rfl, hO, h⟩ := lc_inv h
  exact E_comp IH IT' II V H L R hO h

set_option tactic.hygienic true in
theorem E_step (hw : g.w = w) (B : Base K g) (C : CSound prog w K g n) (IH : ESnd prog w K g n fu) (IT : TSnd prog w K g n fu) (II : ISnd prog w K g n fu) (IH' : ∀ m, fu = m + 1 → ESnd prog w K g n m) (IT' : ∀ m, fu = m + 1 → TSnd prog w K g n m) :
    ESnd prog w K g n (fu + 1) := by
  intro cc env e lm σ Q A s ρ V H L R h
  cases e
  case Constant c k pos => exact E_const R h
  case Name x pos => exact E_name B V L R h
  case UnaryOp op x pos => exact E_neg R h
  case BinOp l op r pos => exact E_bin IH V H L R h
  case Tuple es k pos => exact E_tup IH V H L R h
  case List es pos => exact E_list IH V H L R h
  case Dict ks vs pos => exact E_dict R h
  case IfExp t a b pos => exact E_ite IH IT V H L R h
  case BoolOp op es pos =>
    cases op
    · exact h.elim
    · rcases es with _ | ⟨a, _ | ⟨b, _ | ⟨_, _⟩⟩⟩ <;> try exact h.elim
      exact E_or IH V H L R h
  case Compare l ops rs pos =>
    obtain ⟨op, r, rfl, rfl, h⟩ := cmp_inv (show wpe _ _ (cCmp l ops rs (cE K fu cc)) lm σ Q from h)
    have x := cmp_parts hw IH V H L R h
    exact wpAny_Compare1 x.2 x.1
  case Attribute o a pos => exact E_attr B IH V H L R h
  case Subscript o i pos => exact E_sub hw IH IH' V H L R h
  case Call f args kws pos => exact E_call hw B C IH V H L R h
  case ListComp elt gens sc pos => exact E_lc IH IT' II V H L R h
  all_goals exact h.elim

theorem E_zero : ESnd prog w K g n 0 := fun _ _ _ _ h => h.elim
theorem T_zero : TSnd prog w K g n 0 := fun _ _ _ _ h => h.elim
theorem I_zero : ISnd prog w K g n 0 := fun _ _ _ _ h => h.elim

theorem EI_all (hw : g.w = w) (B : Base K g) (C : CSound prog w K g n) (fu : Nat) : ∀ m, m ≤ fu → ESnd prog w K g n m ∧ TSnd prog w K g n m ∧ ISnd prog w K g n m := by
  induction fu with
  | zero => intro m hm; obtain rfl := Nat.le_zero.mp hm; exact ⟨E_zero, T_zero, I_zero⟩
  | succ k ih =>
    intro m hm
    rcases Nat.lt_or_eq_of_le hm with h | rfl
    · exact ih m (Nat.lt_succ_iff.mp h)
    · have hk := ih k (Nat.le_refl _)
      have IH' : ∀ m, k = m + 1 → ESnd prog w K g n m := fun m e => (ih m (by (first | lia | omega))).1
      have IT' : ∀ m, k = m + 1 → TSnd prog w K g n m := fun m e => (ih m (by (first | lia | omega))).2.1
      exact ⟨E_step hw B C hk.1 hk.2.1 hk.2.2 IH' IT', T_step hw hk.1 IH' hk.2.1, I_step B hk.1⟩
theorem E_all (hw : g.w = w) (B : Base K g) (C : CSound prog w K g n) (fu : Nat) : ESnd prog w K g n fu := (EI_all hw B C fu fu (Nat.le_refl _)).1
theorem T_all (hw : g.w = w) (B : Base K g) (C : CSound prog w K g n) (fu : Nat) : TSnd prog w K g n fu := (EI_all hw B C fu fu (Nat.le_refl _)).2.1
theorem I_all (hw : g.w = w) (B : Base K g) (C : CSound prog w K g n) (fu : Nat) : ISnd prog w K g n fu := (EI_all hw B C fu fu (Nat.le_refl _)).2.2
end
end
section
open PySem PySem.W PyProof.Rows

noncomputable def FlR (h : Heap) (ρ : Rho) : Fl → Flow → Prop
  | .next, .next => True
  | .brk, .brk => True
  | .cont, .cont => True
  | .ret v, .ret u => VR h ρ v u
  | _, _ => False
inductive SP (g : Glb) (cc : CC) (env : Env) (ρ : Rho) (s : Shared) (Q : SQ) (f : Flow) (s' : Shared) : Prop
  | mk (fl : Fl) (lm' : LM) (σ' : St) (ρ' : Rho) (l : Like s s') (S : Step (Xof env) ρ s.heap ρ' s'.heap) (R : Rel g ρ' σ' s'.heap) (L : LRel g cc env ρ' lm' s'.heap) (F : FlR s'.heap ρ' fl f) (q : Q fl lm' σ')
inductive AP (g : Glb) (cc : CC) (env : Env) (ρ : Rho) (s : Shared) (Q : LM → St → Prop) (s' : Shared) : Prop
  | mk (lm' : LM) (σ' : St) (ρ' : Rho) (l : Like s s') (S : Step (Xof env) ρ s.heap ρ' s'.heap) (R : Rel g ρ' σ' s'.heap) (L : LRel g cc env ρ' lm' s'.heap) (q : Q lm' σ')

section
variable {prog : Program} {w : World} {K : Frag} {g : Glb} {n fu : Nat} {cc : CC} {env : Env} {lm : LM} {σ : St} {A : Around} {s : Shared} {ρ : Rho}

theorem SP.trans {Q : SQ} {f : Flow} {ρ' : Rho} {s' s'' : Shared} (l : Like s s') (S : Step (Xof env) ρ s.heap ρ' s'.heap) (x : SP g cc env ρ' s' Q f s'') : SP g cc env ρ s Q f s'' := by
  obtain ⟨fl, lm', σ', ρ'', l', S', R', L', F', q⟩ := x
  exact ⟨fl, lm', σ', ρ'', l.trans l', S.trans S', R', L', F', q⟩
theorem AP.trans {Q : LM → St → Prop} {ρ' : Rho} {s' s'' : Shared} (l : Like s s') (S : Step (Xof env) ρ s.heap ρ' s'.heap) (x : AP g cc env ρ' s' Q s'') : AP g cc env ρ s Q s'' := by
  obtain ⟨lm', σ', ρ'', l', S', R', L', q⟩ := x
  exact ⟨lm', σ', ρ'', l.trans l', S.trans S', R', L', q⟩
set_option tactic.hygienic true in
theorem SP.next {Q : SQ} {s' : Shared} (x : AP g cc env ρ s (fun lm σ => Q .next lm σ) s') : SP g cc env ρ s Q .next s' := by
  obtain ⟨lm', σ', ρ', l, S, R, L, q⟩ := x
  exact ⟨.next, lm', σ', ρ', l, S, R, L, trivial, q⟩
theorem SP.here {Q : SQ} {fl : Fl} {f : Flow} (R : Rel g ρ σ s.heap) (L : LRel g cc env ρ lm s.heap) (F : FlR s.heap ρ fl f) (q : Q fl lm σ) : SP g cc env ρ s Q f s := ⟨fl, lm, σ, ρ, Like.refl s, Step.refl .., R, L, F, q⟩

theorem setEnd {t : Sem Unit} {P : Shared → Prop} {vs keep : List Value} (h : wpAny (model prog w) A t (fun _ => P) NoE s) : wpAny (model prog w) A (t >>= fun _ => release vs keep) (fun _ => P) NoE s :=
  wpAny_bind (wpAny_mono h (fun _ _ x => wpAny_release x) fun _ _ f => f)

theorem up_ap {Q : LM → St → Prop} {s' : Shared} (R : Rel g ρ σ s.heap) (L : LRel g cc env ρ lm s.heap) (x : UP g ρ s (fun σ => Q lm σ) s') : AP g cc env ρ s Q s' := by
  obtain ⟨σ', ρ', l, S, R', q⟩ := x
  exact ⟨lm, σ', ρ', l, S.nil, R', L.step0 R S, q⟩

theorem nmIx_inv {e : Expr} {i : Nat} (h : nmIx cc e = some i) : ∃ x p, e = .Name x p ∧ cc.vars.lookup x = some i := by
  revert h
  unfold nmIx
  cases sv e with
  | name x p => exact fun h => ⟨x, p, rfl, h⟩
  | _ => exact fun h => nos h
theorem names_inv {e : Expr} {r : List Expr} {is : List Nat} (h : cNames cc (e :: r) = some is) : ∃ x p i js, e = .Name x p ∧ cc.vars.lookup x = some i ∧ cNames cc r = some js ∧ is = i :: js := by
  obtain ⟨i, hi, h⟩ := Option.bind_eq_some_iff.mp h
  obtain ⟨js, hj, rfl⟩ := Option.map_eq_some_iff.mp h
  obtain ⟨x, p, rfl, hx⟩ := nmIx_inv hi
  exact ⟨x, p, i, js, rfl, hx, hj, rfl⟩
theorem names_pure : ∀ {elts : List Expr} {is : List Nat}, cNames cc elts = some is → (∀ env' : Env, (assignEach elts env').findIdx? (·.1) = none ∧ (assignEach elts env').length = elts.length) ∧ elts.length = is.length
  | [], is, h => by cases h; exact ⟨fun _ => ⟨rfl, rfl⟩, rfl⟩
  | e :: r, is, h => by
    obtain ⟨x, px, i, js, rfl, hi, hj, rfl⟩ := names_inv h
    obtain ⟨a, b⟩ := names_pure hj
    refine ⟨fun env' => ⟨?_, ?_⟩, congrArg (· + 1) b⟩
    · show List.findIdx? _ ((false, assign (.Name x px) env') :: assignEach r env') = none
      rw [List.findIdx?_cons, (a env').1]; rfl
    · exact congrArg (· + 1) (a env').2
theorem asgs_len : ∀ {is : List Nat} {pvs : List PV} {lm lm' : LM}, asgs is pvs lm = some lm' → is.length = pvs.length
  | [], [], _, _, _ => rfl
  | i :: is, v :: pvs, lm, lm', h => congrArg (· + 1) (asgs_len (is := is) (pvs := pvs) (lm := upd lm i v) (lm' := lm') h)
  | [], _ :: _, _, _, h => nos h
  | _ :: _, [], _, _, h => nos h
theorem names_sound (V : EnvS cc env) : ∀ {elts : List Expr} {is : List Nat} {pvs : List PV} {vs : List Value} {lm lm' : LM} {s : Shared} {Q : LM → St → Prop}, cNames cc elts = some is → Rel g ρ σ s.heap → LRel g cc env ρ lm s.heap → All2 (VR s.heap ρ) pvs vs → asgs is pvs lm = some lm' → Q lm' σ →
    wpAny (model prog w) A (assignInOrder ((assignEach elts env).map (·.2)) vs) (fun _ => AP g cc env ρ s Q) NoE s
  | [], is, pvs, vs, lm, lm', s, Q, hn, R, L, W, ha, q => by
    cases hn
    cases pvs with
    | nil => cases ha; exact wpAny_pure ⟨lm, σ, ρ, Like.refl s, Step.refl .., R, L, q⟩
    | cons => exact nos ha
  | e :: r, is, [], vs, lm, lm', s, Q, hn, R, L, W, ha, q => by
    obtain ⟨x, px, i, js, rfl, hi, hj, rfl⟩ := names_inv hn
    exact nos ha
  | e :: r, is, pv :: pvs, [], lm, lm', s, Q, hn, R, L, W, ha, q => W.elim
  | e :: r, is, pv :: pvs, v :: vs, lm, lm', s, Q, hn, R, L, W, ha, q => by
    obtain ⟨x, px, i, js, rfl, hi, hj, rfl⟩ := names_inv hn
    show wpAny _ _ (assignInOrder (assign (.Name x px) env :: (assignEach r env).map (·.2)) (v :: vs)) _ _ _
    unfold assignInOrder
    refine wpAny_bind (wpAny_holding (PyProof.Rows.assign_Name (store_sound V R L hi W.1 fun s₁ a ha' _ l₁ S₁ R₁ L₁ V₁ => ?_)))
    have S₁' : Step (Xof env) ρ s.heap ρ s₁.heap := S₁.weak fun b hb => by rw [List.mem_singleton.mp hb]; exact ha'
    exact wpAny_mono (names_sound (s := s₁) V hj R₁ L₁ (W.2.mono fun _ _ r => r.step R L.xok S₁') ha q) (fun _ _ x => x.trans l₁ S₁') fun _ _ f => f

theorem A_tup (V : EnvS cc env) (H : Room (n + 1) A) (L : LRel g cc env ρ lm s.heap) (R : Rel g ρ σ s.heap) {elts : List Expr} {is : List Nat} {k : Nat} {pos : Pos} {pv : PV} {v : Value} (Vv : VR s.heap ρ pv v) {Q : LM → St → Prop} (hn : cNames cc elts = some is)
    (h : wptg (wpCall (pgOf K) n) (pgOf K) (.tup is) pv lm σ Q) : wpAny (model prog w) A (assign (.Tuple elts k pos) env v) (fun _ => AP g cc env ρ s Q) NoE s := by
  obtain ⟨pvs, a, its, m, rfl, rfl, e, W, hb, lm', ha, h⟩ := tup_two Vv h
  obtain ⟨hst, hlen⟩ := names_pure hn
  show wpAny _ _ (do standAt pos; unpack (.ref a) (assignEach elts env)) _ _ _
  refine wpAny_bind (wpAny_standAt (wpAny_unpack_tuple H.hd (isTuple_of e) (by rw [(hst env).2, hlen, asgs_len ha, size_of W]) (hst env).1 fun h' he => ?_))
  have k : ∀ b o, s.heap.get? b = some o → h'.get? b = some o := fun b o eb => he b o (Nat.ne_of_lt (Heap.lt_size eb)) eb
  exact wpAny_mono (names_sound (s := { s with heap := h' }) V hn (R.grow k) (L.step0 R (Step.grow k)) (W.mono fun _ _ r => by have := vr_grow (δ := []) r k; rwa [List.append_nil] at this) ha h) (fun _ _ x => x.trans (Like.hp s h') (Step.grow k).nil) fun _ _ f => f
theorem A_attr (B : Base K g) (IH : ESnd prog w K g n fu) (V : EnvS cc env) (H : Room (n + 1) A) (L : LRel g cc env ρ lm s.heap) (R : Rel g ρ σ s.heap) {o : Expr} {a : Str} {i : Nat} {pos : Pos} {pv : PV} {v : Value} (Vv : VR s.heap ρ pv v) {Q : LM → St → Prop} (hi : attrId a = some i)
    (h : wptg (wpCall (pgOf K) n) (pgOf K) (.attr (cE K fu cc o) i) pv lm σ Q) : wpAny (model prog w) A (assign (.Attribute o a pos) env v) (fun _ => AP g cc env ρ s Q) NoE s := by
  obtain ⟨rfl, hal⟩ := attrAt_of hi
  show wpAny _ _ (do let ov ← holding [v] (eval o env); standAt pos.atName; holding [v, ov] (setAttr ov (attrAt i) v); release [v, ov] []) _ _ _
  refine wpAny_bind (wpAny_holding (ev R L (IH V H L R h) fun ov u σ₁ ρ₁ s₁ l₁ S₁ R₁ L₁ V₁ h₁ => wpAny_bind (wpAny_standAt ?_)))
  exact wpAny_bind (wpAny_holding (wpAny_mono (setAttr_sound (prog := prog) (w := w) (A := A) B R₁ hal V₁ (Vv.step R xok_nil S₁) h₁) (fun _ _ x => wpAny_release ((up_ap R₁ L₁ x).trans l₁ S₁.nil)) fun _ _ f => f))
theorem A_sub (hw : g.w = w) (IH : ESnd prog w K g n fu) (V : EnvS cc env) (H : Room (n + 1) A) (L : LRel g cc env ρ lm s.heap) (R : Rel g ρ σ s.heap) {o i : Expr} {pos : Pos} {pv : PV} {v : Value} (Vv : VR s.heap ρ pv v) {Q : LM → St → Prop}
    (h : wptg (wpCall (pgOf K) n) (pgOf K) (.idx (cE K fu cc o) (cE K fu cc i)) pv lm σ Q) : wpAny (model prog w) A (assign (.Subscript o i pos) env v) (fun _ => AP g cc env ρ s Q) NoE s := by
  rw [assign_Subscript]
  refine wpAny_bind (wpAny_holding (ev R L (IH V H L R h) fun ov u σ₁ ρ₁ s₁ l₁ S₁ R₁ L₁ V₁ h₁ => wpAny_bind (wpAny_holding (ev R₁ L₁ (IH V H L₁ R₁ h₁) fun iv x σ₂ ρ₂ s₂ l₂ S₂ R₂ L₂ V₂ h₂ => wpAny_bind (wpAny_standAt ?_)))))
  exact wpAny_bind (wpAny_holding (wpAny_mono (setIdx_sound (prog := prog) (A := A) H hw R₂ (V₁.step R₁ xok_nil S₂) V₂ (Vv.step R xok_nil (S₁.trans S₂)) h₂) (fun _ _ x => wpAny_release ((up_ap R₂ L₂ x).trans (l₁.trans l₂) (S₁.trans S₂).nil)) fun _ _ f => f))
theorem A_sound (hw : g.w = w) (B : Base K g) (IH : ESnd prog w K g n fu) (V : EnvS cc env) (H : Room (n + 1) A) (L : LRel g cc env ρ lm s.heap) (R : Rel g ρ σ s.heap) {t : Expr} {pv : PV} {v : Value} (Vv : VR s.heap ρ pv v) {Q : LM → St → Prop}
    (h : wptg (wpCall (pgOf K) n) (pgOf K) (cTG K fu cc t) pv lm σ Q) : wpAny (model prog w) A (assign t env v) (fun _ => AP g cc env ρ s Q) NoE s := by
  revert h
  unfold cTG
  cases sv t with
  | name x px =>
    intro h
    replace h : wptg (wpCall (pgOf K) n) (pgOf K) (cTGv (cc.vars.lookup x)) pv lm σ Q := h
    cases hi : cc.vars.lookup x with
    | none => rw [hi] at h; exact h.elim
    | some i =>
      rw [hi] at h
      exact PyProof.Rows.assign_Name (store_sound V R L hi Vv fun s₁ a ha _ l₁ S₁ R₁ L₁ V₁ => ⟨_, σ, ρ, l₁, S₁.weak fun b hb => by rw [List.mem_singleton.mp hb]; exact ha, R₁, L₁, h⟩)
  | attr o a p =>
    intro h
    replace h : wptg (wpCall (pgOf K) n) (pgOf K) (cTGa (attrId a) (cE K fu cc o)) pv lm σ Q := h
    cases hi : attrId a with
    | none => rw [hi] at h; exact h.elim
    | some i => rw [hi] at h; exact A_attr B IH V H L R Vv hi h
  | sub o i p =>
    intro h
    replace h : wptg (wpCall (pgOf K) n) (pgOf K) (if notSlice i = true then .idx (cE K fu cc o) (cE K fu cc i) else .stuck) pv lm σ Q := h
    by_cases hs : notSlice i = true
    · rw [if_pos hs] at h; exact A_sub hw IH V H L R Vv h
    · rw [if_neg hs] at h; exact h.elim
  | tup es k p =>
    intro h
    replace h : wptg (wpCall (pgOf K) n) (pgOf K) (cTGt (cNames cc es)) pv lm σ Q := h
    cases hn : cNames cc es with
    | none => rw [hn] at h; exact h.elim
    | some is => rw [hn] at h; exact A_tup V H L R Vv hn h
  | _ => exact fun h => h.elim

noncomputable def SSnd (prog : Program) (w : World) (K : Frag) (g : Glb) (n fu : Nat) : Prop := ∀ {cc : CC} {env : Env} {st : Stmt} {lm : LM} {σ : St} {Q : SQ} {A : Around} {s : Shared} {ρ : Rho}, EnvS cc env → Room (n + 1) A → LRel g cc env ρ lm s.heap → Rel g ρ σ s.heap →
  wps (wpCall (pgOf K) n) (pgOf K) (cS K fu cc st) lm σ Q → wpAny (model prog w) A (exec st env) (SP g cc env ρ s Q) NoE s
noncomputable def SsSnd (prog : Program) (w : World) (K : Frag) (g : Glb) (n fu : Nat) : Prop := ∀ {cc : CC} {env : Env} {b : List Stmt} {lm : LM} {σ : St} {Q : SQ} {A : Around} {s : Shared} {ρ : Rho}, EnvS cc env → Room (n + 1) A → LRel g cc env ρ lm s.heap → Rel g ρ σ s.heap →
  wps (wpCall (pgOf K) n) (pgOf K) (cSs K fu cc b) lm σ Q → wpAny (model prog w) A (execs b env) (SP g cc env ρ s Q) NoE s

theorem SPm {Q : SQ} {t : Sem Flow} {ρ' : Rho} {s' : Shared} (l : Like s s') (S : Step (Xof env) ρ s.heap ρ' s'.heap) (h : wpAny (model prog w) A t (SP g cc env ρ' s' Q) NoE s') : wpAny (model prog w) A t (SP g cc env ρ s Q) NoE s' :=
  wpAny_mono h (fun _ _ x => x.trans l S) fun _ _ f => f
theorem not_inter (V : EnvS cc env) : interactive env = false := by unfold interactive; rw [V.kind]; rfl
theorem no_swap {e : Expr} (h : isComp e = false) (t : Option Expr) (l : Nat) (env : Env) : swapsWith e t l env = pure false := by cases e <;> first | rfl | cases h
theorem tup_of {e : Expr} (h : isTup e = false) (t : Expr) (env : Env) : swappedStores [t] e env = pure none := by
  cases t <;> try rfl
  all_goals (cases e <;> first | rfl | cases h)
theorem tup_of' {t : Expr} (h : isTup t = false) (e : Expr) (env : Env) : swappedStores [t] e env = pure none := by cases t <;> first | rfl | cases h
theorem no_swapped {t e : Expr} (h : (isTup t && isTup e) = false) (env : Env) : swappedStores [t] e env = pure none := by
  rcases Bool.and_eq_false_iff.mp h with h | h
  · exact tup_of' h e env
  · exact tup_of h t env
theorem one_each {t : Expr} (h : notStar t = true) (env : Env) : (assignEach [t] env).map (·.2) = [assign t env] := by cases t <;> first | rfl | cases h
theorem tg_star {fu : Nat} {C : CT} {P : Pg} {t : Expr} {pv : PV} {Q : LM → St → Prop} (h : wptg C P (cTG K fu cc t) pv lm σ Q) : notStar t = true := by
  revert h
  unfold cTG
  cases sv t with
  | other e => exact fun h => h.elim
  | _ => exact fun _ => rfl

theorem Step.finX {X Y : List Addr} {ρ' : Rho} {h h' h3 : Heap} (S : Step (Y ++ X) ρ h ρ' h') (hY : ∀ a ∈ Y, h.get? a = none) (k : ∀ a o, a ∉ Y → h'.get? a = some o → h3.get? a = some o) : Step X ρ h ρ' h3 := by
  have ny : ∀ a o, h.get? a = some o → a ∉ Y := fun a o e q => by rw [hY a q] at e; cases e
  exact ⟨S.ext, fun a o e => by obtain ⟨o', e'⟩ := S.live a o e; exact ⟨o', k a o' (ny a o e) e'⟩, fun a o e hn hx => k a o (ny a o e) (S.keep a o e hn fun q => by
    rcases List.mem_append.mp q with q | q
    · exact ny a o e q
    · exact hx q)⟩
theorem LRel.away {h h' : Heap} {Y : List Addr} (L : LRel g cc env ρ lm h) (kt : ∀ a its n, h.get? a = some (tupObj its n) → h'.get? a = some (tupObj its n)) (hd : ∀ a ∈ Xof env, a ∉ Y) (k : ∀ a o, a ∉ Y → h.get? a = some o → h'.get? a = some o) : LRel g cc env ρ lm h' := by
  have vm : ∀ {x u}, VR h ρ x u → VR h' ρ x u := fun r => by have := r.mono (δ := []) kt; rwa [List.append_nil] at this
  refine ⟨?_, fun x c hx => ?_, L.own⟩
  · obtain ⟨m, hn, hm⟩ := L.ns
    exact ⟨m, hn.at' fun o e => k _ o (hd _ (X_loc env)) e, fun x i v hx hv hk => by obtain ⟨u, e, W⟩ := hm x i v hx hv hk; exact ⟨u, e, vm W⟩⟩
  · obtain ⟨o, ⟨ob, ho, hdt⟩, hm⟩ := L.cell x c hx
    exact ⟨o, ⟨ob, k _ _ (hd _ (X_cell hx)) ho, hdt⟩, fun i v hi hv hk => by obtain ⟨u, e, W⟩ := hm i v hi hv hk; exact ⟨u, e, vm W⟩⟩
set_option tactic.hygienic true in
theorem S_lcAsg (IH : ESnd prog w K g n fu) (IT' : ∀ m, fu = m + 1 → TSnd prog w K g n m) (II : ISnd prog w K g n fu) (V : EnvS cc env) (H : Room (n + 1) A) (L : LRel g cc env ρ lm s.heap) (R : Rel g ρ σ s.heap) {elt iter : Expr} {x y : Str} {px py : Pos} {ifs : List Expr} {sc : Scope} {pos spos : Pos} {i : Nat} {Q : SQ}
    (hsw : swapsWith (.ListComp elt [⟨.Name x px, iter, ifs, 0⟩] sc pos) (some (.Name y py)) spos.line env = pure true) (hy : cc.vars.lookup y = some i) (hO : cc.compOk x sc = true)
    (h : wpe (wpCall (pgOf K) n) (pgOf K) (.comp (cE K fu (cc.inner x sc) elt) 50 (cI K fu cc iter) (cIfs K fu (cc.inner x sc) ifs)) lm σ fun v σ₁ => Q .next (upd lm i v) σ₁) :
    wpAny (model prog w) A (exec (.Assign [.Name y py] (.ListComp elt [⟨.Name x px, iter, ifs, 0⟩] sc pos) spos) env) (SP g cc env ρ s Q) NoE s := by
  rw [exec_Assign_Name_used _ _ _ _ hsw]
  refine wpAny_bind (wpAny_standAt (wpAny_bind ?_))
  show wpAny _ A (do let _ ← comprehension (.ListComp elt [⟨.Name x px, iter, ifs, 0⟩] sc pos) sc env _ (newList []) false (eval iter env) (some (assign (.Name y py) env))) _ _ s
  refine wpAny_bind (wpAny_mono (comp_core (use := some (assign (.Name y py) env)) (P₀ := fun _ s' => SP g cc env ρ s Q .next s') IH IT' II V H L R hO h fun D C σ' acc ρ' s' E qa => ?_) (fun _ s' hq => wpAny_pure (wpAny_pure hq)) fun _ _ f => f)
  obtain ⟨m, hn⟩ := E.ns
  obtain ⟨items, c, hc, hv⟩ := E.list
  have R2 := E.rel.alloc E.D0.h0 E.D0.un E.Dm (orel_list hc hv E.small)
  have S2 := E.st.snoc (p := (D, D)) E.Ds
  have L2 := L.step0 R S2
  show wpAny _ A (assign (.Name y py) env (.ref D)) _ _ _
  refine PyProof.Rows.assign_Name (store_sound V R2 L2 hy (.obj (k := σ'.length) (d := D) (by rw [← E.rel.len]; simp)) fun s₃ a ha _ l₃ S₃ R₃ L₃ V₃ => ?_)
  have hCX : ∀ b ∈ Xof env, b ∉ [C] := fun b hb q => by
    obtain ⟨o, e, _⟩ := L.live hb
    rw [List.mem_singleton.mp q, E.Cs] at e; cases e
  have hCa : C ∉ [a] := fun q => hCX a ha (by rw [List.mem_singleton.mp q]; exact List.mem_singleton.mpr rfl)
  have unC : C ∉ (ρ' ++ [(D, D)]).map (·.2) := by
    rw [List.map_append, List.mem_append]
    rintro (q | q)
    · exact E.C0.un q
    · exact E.ne (List.mem_singleton.mp q).symm
  refine ⟨m, hn.at' fun o e => S₃.keep C o e unC hCa, fun h3 hs3 => ?_⟩
  have OC : Own1 g (ρ' ++ [(D, D)]) s₃.heap C := ⟨unC, E.C0.h0, E.C0.live.imp fun o e => ⟨S₃.keep C o e.1 unC hCa, e.2⟩⟩
  have k3 : ∀ b o, b ∉ [C] → s₃.heap.get? b = some o → h3.get? b = some o := fun b o hn e => (hs3.2 b (by simpa using hn)).trans e
  obtain ⟨R4, kt⟩ := R₃.away (Y := [C]) (fun b hb => by rw [List.mem_singleton.mp hb]; exact OC.aw) k3
  have S4 : Step (Xof env) ρ s.heap (ρ' ++ [(D, D)]) h3 := Step.finX (Y := [C]) ((S2.nil (X := [C] ++ Xof env)).trans (S₃.weak fun b hb => by rw [List.mem_singleton.mp hb]; exact List.mem_append_right _ ha)) (fun b hb => by rw [List.mem_singleton.mp hb]; exact E.Cs) k3
  exact ⟨.next, _, _, _, (E.like.trans l₃).trans (Like.hp s₃ h3), S4, R4, L₃.away kt hCX k3, trivial, qa⟩
theorem lc_of {e : Expr} (h : (e.ctorIdx == 8) = true) : ∃ elt gens sc pos, e = .ListComp elt gens sc pos := by
  cases e <;> first | exact ⟨_, _, _, _, rfl⟩ | exact noB h
theorem asg_zero {C : CT} {P : Pg} {t e : Expr} {Q : SQ} (h : wps C P (cAsgC K 0 cc t e) lm σ Q) : False := by
  unfold cAsgC at h
  by_cases hl : (e.ctorIdx == 8) = true
  · rw [if_pos hl] at h
    revert h
    cases sv t with
    | name y py =>
      intro h
      replace h : wps C P (cAsgV (cc.vars.lookup y) .stuck) lm σ Q := h
      cases hy : cc.vars.lookup y with
      | none => rw [hy] at h; exact h
      | some i => rw [hy] at h; exact h
    | _ => exact fun h => h
  · rw [if_neg hl] at h; exact h
set_option tactic.hygienic true in
theorem S_assignC (IH : ESnd prog w K g n fu) (IH0 : ESnd prog w K g n (fu + 1)) (IT' : ∀ m, fu = m + 1 → TSnd prog w K g n m) (II : ISnd prog w K g n fu) (V : EnvS cc env) (H : Room (n + 1) A) (L : LRel g cc env ρ lm s.heap) (R : Rel g ρ σ s.heap) {t e : Expr} {pos : Pos} {Q : SQ}
    (h : wps (wpCall (pgOf K) n) (pgOf K) (cAsgC K (fu + 1) cc t e) lm σ Q) : wpAny (model prog w) A (exec (.Assign [t] e pos) env) (SP g cc env ρ s Q) NoE s := by
  unfold cAsgC at h
  by_cases hl : (e.ctorIdx == 8) = true
  · rw [if_pos hl] at h
    obtain ⟨elt, gens, sc, pos', rfl⟩ := lc_of hl
    revert h
    cases sv t with
    | name y py =>
      intro h
      replace h : wps (wpCall (pgOf K) n) (pgOf K) (cAsgV (cc.vars.lookup y) (cE K (fu + 1) cc (.ListComp elt gens sc pos'))) lm σ Q := h
      cases hy : cc.vars.lookup y with
      | none => rw [hy] at h; exact h.elim
      | some i =>
        rw [hy] at h
        obtain ⟨x, px, iter, ifs, rfl, hO, h'⟩ := lc_inv (show wpe _ _ (cComp cc elt gens sc (fun c e => cE K fu c e) (cI K fu cc) (fun c l => cIfs K fu c l)) lm σ (fun v σ₁ => Q .next (upd lm i v) σ₁) from h)
        cases hb : (env.blockKind == .function && env.kindOf y == some .local && py.line == pos'.line && !(sc.names.any fun (n, k) => n == y && (k == .local || k == .cell))) with
        | true => exact S_lcAsg IH IT' II V H L R (congrArg (pure : Bool → Sem Bool) hb) hy hO h'
        | false =>
          refine wpAny_Assign_stores (ev R L (IH0 V H L R h) fun pv v σ₁ ρ₁ s₁ l₁ S₁ R₁ L₁ V₁ h₁ => ?_) (congrArg (pure : Bool → Sem Bool) hb) rfl
          show wpAny _ _ (assign (.Name y py) env v) _ _ _
          exact PyProof.Rows.assign_Name (store_sound V R₁ L₁ hy V₁ fun s₂ a ha _ l₂ S₂ R₂ L₂ V₂ => ⟨.next, _, σ₁, ρ₁, l₁.trans l₂, S₁.nil.trans (S₂.weak fun b hb => by rw [List.mem_singleton.mp hb]; exact ha), R₂, L₂, trivial, h₁⟩)
    | _ => exact fun h => h.elim
  · rw [if_neg hl] at h; exact h.elim
set_option tactic.hygienic true in
theorem S_assign (hw : g.w = w) (B : Base K g) (EA : ∀ m, ESnd prog w K g n m) (TA : ∀ m, TSnd prog w K g n m) (IA : ∀ m, ISnd prog w K g n m) (V : EnvS cc env) (H : Room (n + 1) A) (L : LRel g cc env ρ lm s.heap) (R : Rel g ρ σ s.heap) {ts : List Expr} {e : Expr} {pos : Pos} {Q : SQ}
    (h : wps (wpCall (pgOf K) n) (pgOf K) (cAsg K fu cc ts e) lm σ Q) : wpAny (model prog w) A (exec (.Assign ts e pos) env) (SP g cc env ρ s Q) NoE s := by
  unfold cAsg at h
  cases ht : one? ts with
  | none => rw [ht] at h; exact h.elim
  | some t =>
    rw [ht] at h
    obtain rfl := one_inv ht
    replace h : wps (wpCall (pgOf K) n) (pgOf K) (if ((isTup t && isTup e) || isComp e) = true then cAsgC K fu cc t e else .assign (cTG K fu cc t) (cE K fu cc e)) lm σ Q := h
    have IH : ESnd prog w K g n fu := EA fu
    by_cases hc : ((isTup t && isTup e) || isComp e) = true
    · rw [if_pos hc] at h
      cases fu with
      | zero => exact (asg_zero h).elim
      | succ m => exact S_assignC (EA m) (EA (m + 1)) (fun k _ => TA k) (IA m) V H L R h
    · rw [if_neg hc] at h
      obtain ⟨h1, h2⟩ := Bool.or_eq_false_iff.mp (Bool.eq_false_iff.mpr hc)
      refine wpAny_Assign_stores (ev R L (IH V H L R h) fun pv v σ₁ ρ₁ s₁ l₁ S₁ R₁ L₁ V₁ h₁ => ?_) (no_swap h2 _ _ _) (no_swapped h1 _)
      rw [one_each (tg_star h₁)]
      show wpAny _ _ (assign t env v) _ _ _
      exact wpAny_mono (A_sound hw B IH V H L₁ R₁ V₁ (Q := fun lm σ => Q .next lm σ) h₁) (fun _ _ x => SP.next (x.trans l₁ S₁.nil)) fun _ _ f => f

set_option tactic.hygienic true in
theorem S_augI (hw : g.w = w) (IH : ESnd prog w K g n fu) (V : EnvS cc env) (H : Room (n + 1) A) (L : LRel g cc env ρ lm s.heap) (R : Rel g ρ σ s.heap) {o i e : Expr} {p pos : Pos} (hs : notSlice i = true) {Q : SQ}
    (h : wps (wpCall (pgOf K) n) (pgOf K) (.augIdx (cE K fu cc o) (cE K fu cc i) (cE K fu cc e)) lm σ Q) : wpAny (model prog w) A (exec (.AugAssign (.Subscript o i p) .Add e pos) env) (SP g cc env ρ s Q) NoE s := by
  refine wpAny_AugAssign_SubscriptAny (ev R L (IH V H L R h) fun ov u σ₁ ρ₁ s₁ l₁ S₁ R₁ L₁ V₁ h₁ => ev R₁ L₁ (IH V H L₁ R₁ h₁) fun iv x σ₂ ρ₂ s₂ l₂ S₂ R₂ L₂ V₂ h₂ =>
    ev R₂ L₂ (getItem_sound (prog := prog) (A := A) hw R₂ (V₁.step R₁ xok_nil S₂) V₂ h₂).2 fun old y σ₃ ρ₃ s₃ l₃ S₃ R₃ L₃ V₃ h₃ => ev R₃ L₃ (IH V H L₃ R₃ h₃) fun pv z σ₄ ρ₄ s₄ l₄ S₄ R₄ L₄ V₄ h₄ => ?_) (idx_of hs).2
  obtain ⟨a, b, t, u', rfl, rfl, q⟩ := intB_two (V₃.step R₃ xok_nil S₄) V₄ h₄
  have S24 := S₃.trans S₄
  exact PyProof.Rows.iadd_int (wpAny_mono (setIdx_sound (prog := prog) (A := A) (s := { s₄ with toks := s₄.toks + 1 }) (z := .int (a + b) s₄.toks) H hw R₄ (V₁.step R₁ xok_nil (S₂.trans S24)) (V₂.step R₂ xok_nil S24) (.int _ _) q)
    (fun _ s' x => SP.next ((up_ap (s := { s₄ with toks := s₄.toks + 1 }) (Q := fun lm σ => Q .next lm σ) R₄ L₄ x).trans ((l₁.trans l₂).trans ((l₃.trans l₄).trans (like_tok s₄ (s₄.toks + 1)))) (S₁.trans (S₂.trans S24)).nil)) fun _ _ f => f)
theorem add_of {op : Operator} (h : isAdd op = true) : op = .Add := by cases op <;> first | rfl | exact noB h
set_option tactic.hygienic true in
theorem S_aug (hw : g.w = w) (IH : ESnd prog w K g n fu) (V : EnvS cc env) (H : Room (n + 1) A) (L : LRel g cc env ρ lm s.heap) (R : Rel g ρ σ s.heap) {t : Expr} {op : Operator} {e : Expr} {pos : Pos} {Q : SQ}
    (h : wps (wpCall (pgOf K) n) (pgOf K) (cAug cc t op (cE K fu cc) (cE K fu cc e)) lm σ Q) : wpAny (model prog w) A (exec (.AugAssign t op e pos) env) (SP g cc env ρ s Q) NoE s := by
  unfold cAug at h
  by_cases ho : isAdd op = true
  · rw [if_pos ho] at h
    cases add_of ho
    revert h
    cases sv t with
    | name x px =>
      intro h
      replace h : wps (wpCall (pgOf K) n) (pgOf K) (match cc.vars.lookup x with | some i => .augVar i (cE K fu cc e) | none => .stuck) lm σ Q := h
      cases hi : cc.vars.lookup x with
      | none => rw [hi] at h; exact h.elim
      | some i =>
        rw [hi] at h
        obtain ⟨old, hold, h⟩ := h
        refine wpAny_AugAssign_Name (load_sound V L hi hold fun u Vu => ev R L (IH V H L R h) fun pv v σ₁ ρ₁ s₁ l₁ S₁ R₁ L₁ V₁ h₁ => ?_)
        rcases h₁ with h₁ | h₁
        rotate_left
        · obtain ⟨k, xs, l, its, m, rfl, rfl, e1, er, hg, hv, zb, h₁⟩ := lst_two R₁ (Vu.step R xok_nil S₁) h₁
          obtain ⟨k2, ys, l2, its2, m2, rfl, rfl, _, _, hg2, hv2, _, hz, q⟩ := lst_two R₁ V₁ h₁
          refine iadd_lists hg hg2 (by rw [← size_of hv, ← size_of hv2]; exact Nat.le_trans hz big_le) ?_
          obtain ⟨σ₂, ρ₂, l₂, S₂, R₂, q⟩ := UP.list (Q := fun τ => Q .next (upd lm i (.obj k)) τ) (f := fun x => x ++ its2) R₁ e1 er hg (by rw [Array.toList_append]; exact hv.append hv2) (by rw [List.length_append]; exact hz) q s₁.toks
          refine store_sound (s := { s₁ with heap := s₁.heap.update l (Obj.mapSeq fun x => x ++ its2) }) V R₂ (L₁.step0 R₁ S₂) hi ((Vu.step R xok_nil S₁).step R₁ xok_nil S₂) fun s₃ a' ha _ l₃ S₃ R₃ L₃ V₃ => ?_
          exact ⟨.next, _, σ₂, ρ₂, l₁.trans (l₂.trans l₃), S₁.nil.trans (S₂.nil.trans (S₃.weak fun b hb => by rw [List.mem_singleton.mp hb]; exact ha)), R₃, L₃, trivial, q⟩
        obtain ⟨a, b, t, u', rfl, rfl, q⟩ := intB_two (Vu.step R xok_nil S₁) V₁ h₁
        refine PyProof.Rows.iadd_int (store_sound (s := { s₁ with toks := s₁.toks + 1 }) (u := .int (a + b) s₁.toks) V R₁ L₁ hi (.int _ _) fun s₂ a' ha _ l₂ S₂ R₂ L₂ V₂ => ?_)
        exact ⟨.next, _, σ₁, ρ₁, l₁.trans ((like_tok s₁ _).trans l₂), S₁.nil.trans (S₂.weak fun b hb => by rw [List.mem_singleton.mp hb]; exact ha), R₂, L₂, trivial, q⟩
    | sub o i p =>
      intro h
      replace h : wps (wpCall (pgOf K) n) (pgOf K) (if notSlice i = true then .augIdx (cE K fu cc o) (cE K fu cc i) (cE K fu cc e) else .stuck) lm σ Q := h
      by_cases hs : notSlice i = true
      · rw [if_pos hs] at h; exact S_augI hw IH V H L R hs h
      · rw [if_neg hs] at h; exact h.elim
    | _ => exact fun h => h.elim
  · rw [if_neg ho] at h; exact h.elim

set_option tactic.hygienic true in
theorem FlR_inv {h : Heap} {ρ : Rho} {fl : Fl} {f : Flow} (F : FlR h ρ fl f) : (fl = .next ∧ f = .next) ∨ 
    (fl = .brk ∧ f = .brk) ∨ (fl = .cont ∧ f = .cont) ∨
    ∃ v u, fl = .ret v ∧ f = .ret u ∧ VR h ρ v u := by
  cases fl with
  | next => cases f <;> first | exact F.elim | exact .inl ⟨rfl, rfl⟩
  | brk => cases f <;> first | exact F.elim | exact .inr (.inl ⟨rfl, rfl⟩)
  | cont => cases f <;> first | exact F.elim | exact .inr (.inr (.inl ⟨rfl, rfl⟩))
  | ret v => cases f <;> first | exact F.elim | exact .inr (.inr (.inr ⟨_, _, rfl, rfl, F⟩))
theorem for_back {I : Addr} {Q : SQ} {s₂ s' : Shared} {ρ₁ ρ' : Rho} {σ' : St} {lm' : LM} {fl : Fl} {f : Flow} {h' : Heap} (hI0 : g.h₀.get? I = none) (hIX : I ∉ Xof env) (hIs : s.heap.get? I = none) (l : Like s s₂) (S : Step [] ρ s.heap ρ₁ s₂.heap)
    (l' : Like s₂ s') (S' : Step ([I] ++ Xof env) ρ₁ s₂.heap ρ' s'.heap) (R' : Rel g ρ' σ' s'.heap) (L' : LRel g cc env ρ' lm' s'.heap) (un : I ∉ ρ'.map (·.2)) (lv : ∃ o, s'.heap.get? I = some o ∧ NotT o) (he : Heap.ExtBut I s'.heap h') (tk : Nat)
    (F : FlR h' ρ' fl f) (q : Q fl lm' σ') : SP g cc env ρ s Q f { s' with heap := h', toks := tk } := by
  have k : ∀ a o, a ∉ [I] → s'.heap.get? a = some o → h'.get? a = some o := fun a o hn e => he a o (by simpa using hn) e
  obtain ⟨R3, kt⟩ := R'.away (Y := [I]) (fun a ha => by rw [List.mem_singleton.mp ha]; exact (⟨un, hI0, lv⟩ : Own1 g ρ' s'.heap I).aw) k
  exact ⟨fl, lm', σ', ρ', (l.trans l').trans (Like.mk s' h' tk), Step.finX (Y := [I]) (S.nil.trans S') (fun a ha => by rw [List.mem_singleton.mp ha]; exact hIs) k, R3, L'.away kt (fun a ha hq => hIX (by rw [← List.mem_singleton.mp hq]; exact ha)) k, F, q⟩
inductive FInv (g : Glb) (cc : CC) (env : Env) (I : Addr) (ys : List PV) (P : Nat → Rho → Heap → Prop) (W : List PV → LM → St → Prop) (s₂ : Shared) (ρ₁ : Rho) (k : Nat) (s' : Shared) : Prop
  | mk (j : Nat) (lm' : LM) (σ' : St) (ρ' : Rho) (hk : k = ys.length - j) (hj : j ≤ ys.length) (l : Like s₂ s') (S : Step ([I] ++ Xof env) ρ₁ s₂.heap ρ' s'.heap) (R : Rel g ρ' σ' s'.heap) (L : LRel g cc env ρ' lm' s'.heap)
      (un : I ∉ ρ'.map (·.2)) (p : P j ρ' s'.heap) (q : W (ys.drop j) lm' σ')
inductive FItem (g : Glb) (cc : CC) (env : Env) (I : Addr) (P : Nat → Rho → Heap → Prop) (lm : LM) (σ : St) (ρ : Rho) (j : Nat) (s : Shared) (s' : Shared) : Prop
  | mk (l : Like s s') (S : Step ([I] ++ Xof env) ρ s.heap ρ s'.heap) (R : Rel g ρ σ s'.heap) (L : LRel g cc env ρ lm s'.heap) (p : P j ρ s'.heap)
theorem for_item (V : EnvS cc env) (L : LRel g cc env ρ lm s.heap) (R : Rel g ρ σ s.heap) {x : Str} {px : Pos} {i : Nat} (hx : cc.vars.lookup x = some i) {I : Addr} {ys : List PV} {chk : St → Prop} {P : Nat → Rho → Heap → Prop} (It : Itr prog w A g I ys chk P) (hI0 : g.h₀.get? I = none) (hIX : I ∉ Xof env) (un : I ∉ ρ.map (·.2))
    {j : Nat} (p : P j ρ s.heap) {v : Value} {y : PV} {h₂ : Heap} {tk : Nat} (Vv : VR s.heap ρ y v) (P₂ : P (j + 1) ρ h₂) (hs₂ : Heap.SameBut I s.heap h₂) {Q : Unit → Shared → Prop} {E : Value → Shared → Prop} (q : ∀ s', FItem g cc env I P (upd lm i y) σ ρ (j + 1) s s' → Q () s') :
    wpAny (model prog w) A (assign (.Name x px) env v) Q E { s with heap := h₂, toks := tk } := by
  have OI : Own1 g ρ s.heap I := ⟨un, hI0, It.live p⟩
  obtain ⟨S₂, R₃, kv⟩ := R.own1 OI hs₂ ((It.live P₂).imp fun _ e => e.1)
  have L₃ : LRel g cc env ρ lm h₂ := L.step R OI.xok (fun a ha hq => hIX (List.mem_singleton.mp hq ▸ ha)) S₂
  refine PyProof.Rows.assign_Name (store_sound (s := { s with heap := h₂, toks := tk }) V R₃ L₃ hx (kv _ _ Vv) fun s₄ a ha _ l₄ S₄ R₄ L₄ V₄ => q _ ⟨(Like.mk s h₂ tk).trans l₄, (S₂.weak (by simp)).trans (S₄.weak fun b hb => by rw [List.mem_singleton.mp hb]; exact List.mem_append_right _ ha), R₄, L₄, ?_⟩)
  have hIa : I ∉ [a] := fun hq => hIX (by rw [List.mem_singleton.mp hq]; exact ha)
  have xa : Xok [a] ρ h₂ := fun b hb => by rw [List.mem_singleton.mp hb]; exact L₃.live ha
  have := It.frame (δ := []) P₂ (fun o e => S₄.keep I o e un hIa) (R₃.tupKeep xa S₄)
  rwa [List.append_nil] at this
set_option tactic.hygienic true in
theorem S_for (IB : SsSnd prog w K g n fu) (II : ISnd prog w K g n fu) (V : EnvS cc env) (H : Room (n + 1) A) (L : LRel g cc env ρ lm s.heap) (R : Rel g ρ σ s.heap) {x : Str} {px : Pos} {it : Expr} {b : List Stmt} {pos : Pos} {i : Nat} {Q : SQ} (hx : cc.vars.lookup x = some i)
    (h : wps (wpCall (pgOf K) n) (pgOf K) (.for i (cI K fu cc it) (cSs K fu cc b)) lm σ Q) : wpAny (model prog w) A (exec (.For (.Name x px) it b [] pos) env) (SP g cc env ρ s Q) NoE s := by
  obtain ⟨hs, hi⟩ := II V H L R h
  refine wpAny_For (wpAny_mono hi (fun xv s₁ x₁ => wpAny_mono x₁ (fun itv s₂ x₂ => ?_) fun _ _ f => f) fun _ _ f => f) hs
  obtain ⟨I, ys, chk, P, σ₁, ρ₁, rfl, It, P0, l, S, R₂, hIs, hIo, q⟩ := x₂
  have hIX : I ∉ Xof env := fun hq => by obtain ⟨o, ho, _⟩ := L.live hq; rw [hIs] at ho; cases ho
  have hI0 : g.h₀.get? I = none := R.fresh hIs
  refine codeAny_mono (codeAny_forLoop_any (R := fun r s' => ∃ f, r = .ok f ∧ SP g cc env ρ s Q f s')
    (FInv g cc env I ys P (fun zs lm σ => forW (wps (wpCall (pgOf K) n) (pgOf K) (cSs K fu cc b)) i chk zs lm σ Q) s₂ ρ₁)
    ?_ ys.length ⟨0, lm, σ₁, ρ₁, rfl, Nat.zero_le _, Like.refl _, Step.refl .., R₂, L.step0 R S, hIo, P0, q⟩) (fun r s' x => by obtain ⟨f, rfl, x⟩ := x; exact x)
  rintro k s' ⟨j, lm', σ', ρ', rfl, hj, l', S', R', L', un, Pj, q⟩
  rcases Nat.lt_or_eq_of_le hj with hlt | heq
  · rw [List.drop_eq_getElem_cons hlt] at q
    obtain ⟨hc, q⟩ := q
    refine It.item (List.getElem?_eq_getElem hlt) R' hc Pj fun v h₂ tk₂ Vv P₂ hs₂ => ?_
    show wpAny _ _ (letOwnedTupleGo (.Name x px) (.ref I) v) _ _ _
    refine wpAny_of_eq (a := ()) rfl (for_item V L' R' hx It hI0 hIX un Pj Vv P₂ hs₂ fun s₄ z => ?_)
    obtain ⟨l₄, S₄, R₄, L₄, P₄⟩ := z
    refine wpAny_mono (IB V H L₄ R₄ q) (fun f s₅ x => ?_) fun _ _ f => f.elim
    obtain ⟨fl, lm₅, σ₅, ρ₅, l₅, S₅, R₅, L₅, F, q⟩ := x
    have OI₅ := (⟨un, hI0, It.live P₄⟩ : Own1 g ρ' s₄.heap I).step S₅ hIX
    have T₅ : Step ([I] ++ Xof env) ρ₁ s₂.heap ρ₅ s₅.heap := (S'.trans S₄).trans (S₅.weak fun b hb => List.mem_append_right _ hb)
    have l₅' : Like s₂ s₅ := l'.trans (l₄.trans l₅)
    have again : forW (wps (wpCall (pgOf K) n) (pgOf K) (cSs K fu cc b)) i chk (ys.drop (j + 1)) lm₅ σ₅ Q → ∃ m, m < ys.length - j ∧ FInv g cc env I ys P (fun zs lm σ => forW (wps (wpCall (pgOf K) n) (pgOf K) (cSs K fu cc b)) i chk zs lm σ Q) s₂ ρ₁ m s₅ := fun q =>
      ⟨ys.length - (j + 1), Nat.sub_lt_sub_left hlt (Nat.lt_succ_self j), j + 1, lm₅, σ₅, ρ₅, rfl, hlt, l₅', T₅, R₅, L₅, OI₅.un, by
        have kt := R₄.tupKeep L₄.xok S₅
        obtain ⟨δ, rfl, _⟩ := S₅.ext
        exact It.frame P₄ (fun o e => S₅.keep I o e un hIX) kt, q⟩
    rcases FlR_inv F with ⟨rfl, rfl⟩ | F
    · exact again q
    rcases F with ⟨rfl, rfl⟩ | F
    · exact ⟨_, rfl, for_back hI0 hIX hIs l S l₅' T₅ R₅ L₅ OI₅.un OI₅.live (fun _ _ _ e => e) s₅.toks (fl := .next) (f := .next) trivial q⟩
    rcases F with ⟨rfl, rfl⟩ | F
    · exact again q
    · obtain ⟨v, u, rfl, rfl, F⟩ := F
      exact ⟨_, rfl, for_back hI0 hIX hIs l S l₅' T₅ R₅ L₅ OI₅.un OI₅.live (fun _ _ _ e => e) s₅.toks (fl := .ret v) (f := .ret u) F q⟩
  · subst heq
    rw [List.drop_length] at q
    exact It.done R' q.1 Pj fun h' tk he => wpAny_execs_nil ⟨_, rfl, for_back hI0 hIX hIs l S l' S' R' L' un (It.live Pj) he tk (fl := .next) trivial q.2⟩

inductive WInv (g : Glb) (cc : CC) (env : Env) (ρ : Rho) (s : Shared) (J : Nat → LM → St → Prop) (k : Nat) (s' : Shared) : Prop
  | mk (lm' : LM) (σ' : St) (ρ' : Rho) (l : Like s s') (S : Step (Xof env) ρ s.heap ρ' s'.heap) (R : Rel g ρ' σ' s'.heap) (L : LRel g cc env ρ' lm' s'.heap) (q : J k lm' σ')
set_option tactic.hygienic true in
theorem S_while (IT : TSnd prog w K g n fu) (IB : SsSnd prog w K g n fu) (V : EnvS cc env) (H : Room (n + 1) A) (L : LRel g cc env ρ lm s.heap) (R : Rel g ρ σ s.heap) {t : Expr} {b : List Stmt} {pos : Pos} {Q : SQ}
    (h : wps (wpCall (pgOf K) n) (pgOf K) (.loop (cT K fu cc t) (cSs K fu cc b)) lm σ Q) : wpAny (model prog w) A (exec (.While t b [] pos) env) (SP g cc env ρ s Q) NoE s := by
  obtain ⟨J, ⟨k₀, h0⟩, step⟩ := h
  refine wpAny_While (codeAny_mono (codeAny_whileLoop (R := fun r s' => ∃ f, r = .ok f ∧ SP g cc env ρ s Q f s')
    (WInv g cc env ρ s J) ?_ k₀ ⟨lm, σ, ρ, Like.refl s, Step.refl .., R, L, h0⟩) (fun r s' x => by obtain ⟨f, rfl, x⟩ := x; exact x))
  rintro k s' ⟨lm', σ', ρ', l', S', R', L', j⟩
  refine tv R' L' (IT V H L' R' (step k lm' σ' j)) fun c σ₁ ρ₁ s₁ l₁ S₁ R₁ L₁ h₁ => ?_
  have l2 := l'.trans l₁
  have S2 := S'.trans S₁.nil
  cases c
  · exact wpAny_execs_nil ⟨_, rfl, .next, lm', σ₁, ρ₁, l2, S2, R₁, L₁, trivial, h₁⟩
  · refine wpAny_mono (IB V H L₁ R₁ h₁) (fun f s₂ x => ?_) fun _ _ f => f.elim
    obtain ⟨fl, lm₂, σ₂, ρ₂, l₂, S₂, R₂, L₂, F, q⟩ := x
    rcases FlR_inv F with ⟨rfl, rfl⟩ | F
    · obtain ⟨m, hm, q⟩ := q
      exact ⟨m, hm, lm₂, σ₂, ρ₂, l2.trans l₂, S2.trans S₂, R₂, L₂, q⟩
    rcases F with ⟨rfl, rfl⟩ | F
    · exact ⟨_, rfl, .next, lm₂, σ₂, ρ₂, l2.trans l₂, S2.trans S₂, R₂, L₂, trivial, q⟩
    rcases F with ⟨rfl, rfl⟩ | F
    · obtain ⟨m, hm, q⟩ := q
      exact ⟨m, hm, lm₂, σ₂, ρ₂, l2.trans l₂, S2.trans S₂, R₂, L₂, q⟩
    · obtain ⟨v, u, rfl, rfl, F⟩ := F
      exact ⟨_, rfl, .ret v, lm₂, σ₂, ρ₂, l2.trans l₂, S2.trans S₂, R₂, L₂, F, q⟩

theorem S_forT (IB : SsSnd prog w K g n fu) (II : ISnd prog w K g n fu) (V : EnvS cc env) (H : Room (n + 1) A) (L : LRel g cc env ρ lm s.heap) (R : Rel g ρ σ s.heap) {t : Expr} {it : Expr} {b : List Stmt} {pos : Pos} {Q : SQ}
    (h : wps (wpCall (pgOf K) n) (pgOf K) (cFor cc t (cI K fu cc it) (cSs K fu cc b) []) lm σ Q) : wpAny (model prog w) A (exec (.For t it b [] pos) env) (SP g cc env ρ s Q) NoE s := by
  revert h
  unfold cFor
  cases sv t with
  | name x px =>
    intro h
    replace h : wps (wpCall (pgOf K) n) (pgOf K) (cForN cc x (cI K fu cc it) (cSs K fu cc b)) lm σ Q := h
    unfold cForN at h
    cases hi : cc.vars.lookup x with
    | none => rw [hi] at h; exact h.elim
    | some i => rw [hi] at h; exact S_for IB II V H L R hi h
  | _ => exact fun h => h.elim
theorem cFor_inv {C : CT} {P : Pg} {t : Expr} {it : MI} {b : MS} {e : List Stmt} {Q : SQ} (h : wps C P (cFor cc t it b e) lm σ Q) : e = [] := by
  revert h
  unfold cFor
  cases sv t with
  | name x px => cases e with
    | nil => exact fun _ => rfl
    | cons => exact fun h => h.elim
  | _ => exact fun h => h.elim
theorem cNil_inv {C : CT} {P : Pg} {b : MS} {e : List Stmt} {Q : SQ} (h : wps C P (cNil e b) lm σ Q) : e = [] := by
  cases e with
  | nil => rfl
  | cons => exact h.elim

set_option tactic.hygienic true in
theorem S_step (hw : g.w = w) (B : Base K g) (EA : ∀ m, ESnd prog w K g n m) (TA : ∀ m, TSnd prog w K g n m) (IA : ∀ m, ISnd prog w K g n m) (IB : SsSnd prog w K g n fu) : SSnd prog w K g n (fu + 1) := by
  have IH : ESnd prog w K g n fu := EA fu
  have IT : TSnd prog w K g n fu := TA fu
  have II : ISnd prog w K g n fu := IA fu
  intro cc env st lm σ Q A s ρ V H L R h
  cases st
  case Expr e pos =>
    replace h : wps (wpCall (pgOf K) n) (pgOf K) (if isComp e then .stuck else .expr (cE K fu cc e)) lm σ Q := h
    by_cases hc : isComp e = true
    · rw [if_pos hc] at h; exact h.elim
    · rw [if_neg hc] at h
      exact wpAny_Expr_any (ev R L (IH V H L R h) fun pv v σ₁ ρ₁ s₁ l₁ S₁ R₁ L₁ V₁ h₁ => ⟨.next, lm, σ₁, ρ₁, l₁, S₁.nil, R₁, L₁, trivial, h₁⟩) (not_inter V) (no_swap (Bool.eq_false_iff.mpr hc) _ _ _)
  case Pass pos => exact wpAny_Pass (SP.here (fl := .next) R L trivial h)
  case Break pos => exact wpAny_Break (SP.here (fl := .brk) R L trivial h)
  case Continue pos => exact wpAny_Continue (SP.here (fl := .cont) R L trivial h)
  case Return v pos =>
    cases v with
    | none => exact wpAny_Return_none (SP.here (fl := .ret .none) R L .none h)
    | some e => exact wpAny_Return_some (ev R L (IH V H L R h) fun pv v σ₁ ρ₁ s₁ l₁ S₁ R₁ L₁ V₁ h₁ => ⟨.ret pv, lm, σ₁, ρ₁, l₁, S₁.nil, R₁, L₁, V₁, h₁⟩)
  case Assign ts e pos => exact S_assign hw B EA TA IA V H L R h
  case AugAssign t op e pos => exact S_aug hw IH V H L R h
  case If t a b pos =>
    refine wpAny_If (tv R L (IT V H L R h) fun c σ₁ ρ₁ s₁ l₁ S₁ R₁ L₁ h₁ => ?_)
    cases c
    · exact SPm l₁ S₁.nil (IB V H L₁ R₁ h₁)
    · exact SPm l₁ S₁.nil (IB V H L₁ R₁ h₁)
  case While t b e pos =>
    cases cNil_inv (show wps _ _ (cNil e _) lm σ Q from h)
    exact S_while IT IB V H L R h
  case For t it b e pos =>
    cases cFor_inv (show wps _ _ (cFor cc t (cI K fu cc it) (cSs K fu cc b) e) lm σ Q from h)
    exact S_forT IB II V H L R h
  all_goals exact h.elim

set_option tactic.hygienic true in
theorem Ss_step (IS : SSnd prog w K g n fu) (IB : SsSnd prog w K g n fu) : SsSnd prog w K g n (fu + 1) := by
  intro cc env b lm σ Q A s ρ V H L R h
  cases b with
  | nil => exact wpAny_execs_nil (SP.here (fl := .next) R L trivial h)
  | cons st r =>
    refine wpAny_execs_cons (wpAny_mono (IS V H L R h) (fun f s₁ x => ?_) fun _ _ f => f)
    obtain ⟨fl, lm₁, σ₁, ρ₁, l₁, S₁, R₁, L₁, F, q⟩ := x
    rcases FlR_inv F with ⟨rfl, rfl⟩ | F
    · exact SPm l₁ S₁ (IB V H L₁ R₁ q)
    rcases F with ⟨rfl, rfl⟩ | F
    · exact ⟨.brk, lm₁, σ₁, ρ₁, l₁, S₁, R₁, L₁, trivial, q⟩
    rcases F with ⟨rfl, rfl⟩ | F
    · exact ⟨.cont, lm₁, σ₁, ρ₁, l₁, S₁, R₁, L₁, trivial, q⟩
    · obtain ⟨v, u, rfl, rfl, F⟩ := F
      exact ⟨_, lm₁, σ₁, ρ₁, l₁, S₁, R₁, L₁, F, q⟩

theorem S_all (hw : g.w = w) (B : Base K g) (C : CSound prog w K g n) : ∀ fu, SSnd prog w K g n fu ∧ SsSnd prog w K g n fu
  | 0 => ⟨fun _ _ _ _ h => h.elim, fun _ _ _ _ h => h.elim⟩
  | fu + 1 => ⟨S_step hw B (E_all hw B C) (T_all hw B C) (I_all hw B C) (S_all hw B C fu).2, Ss_step (S_all hw B C fu).1 (S_all hw B C fu).2⟩
end
end
section
open PySem PySem.W PyProof.Rows

theorem zip_some {β : Type} : ∀ {ns : List Str} {vs : List β}, ns.length = vs.length → ∀ n ∈ ns, ((ns.zip vs).lookup n).isSome = true
  | [], [], _, n, h => nomatch h
  | m :: ns, v :: vs, hl, n, h => by
    rw [List.zip_cons_cons, List.lookup_cons]
    by_cases q : n = m
    · subst q; simp
    · have q' : (n == m) = false := by simpa using q
      simp only [q']
      exact zip_some (by simpa using hl) n ((List.mem_cons.mp h).resolve_left q)
theorem zip_filterMap {β : Type} : ∀ {ns : List Str} {vs : List β} (f : Str → Option β), ns.length = vs.length → (∀ (i : Nat) (n : Str) (v : β), ns[i]? = some n → vs[i]? = some v → f n = some v) → ns.filterMap (fun n => (f n).map (n, ·)) = ns.zip vs
  | [], [], _, _, _ => rfl
  | m :: ns, v :: vs, f, hl, h => by
    rw [List.filterMap_cons, h 0 m v rfl rfl, List.zip_cons_cons]
    show (m, v) :: _ = _
    rw [zip_filterMap f (by simpa using hl) fun i n v hn hv => h (i + 1) n v hn hv]
theorem zip_lookup {β : Type} : ∀ {ns : List Str} {vs : List β}, ns.Nodup → ∀ (i : Nat) (n : Str) (v : β), ns[i]? = some n → vs[i]? = some v → (ns.zip vs).lookup n = some v
  | m :: ns, v :: vs, hn, 0, n, u, h1, h2 => by cases h1; cases h2; rw [List.zip_cons_cons, List.lookup_cons]; simp
  | m :: ns, v :: vs, hn, i + 1, n, u, h1, h2 => by
    rw [List.zip_cons_cons, List.lookup_cons]
    have hm : n ∈ ns := List.mem_of_getElem? (i := i) h1
    have q : n ≠ m := fun q => (List.nodup_cons.mp hn).1 (q ▸ hm)
    have q' : (n == m) = false := by simpa using q
    simp only [q']
    exact zip_lookup (List.nodup_cons.mp hn).2 i n u h1 h2
  | [], _, _, _, _, _, h1, _ => by simp at h1
  | _ :: _, [], _, _, _, _, _, h2 => by simp at h2

theorem forIn_const {α β : Type} (b : β) (f : α → β → Sem (ForInStep β)) : ∀ l : List α, (∀ x ∈ l, f x b = pure (.yield b)) → forIn l b f = pure b
  | [], _ => by rw [List.forIn_nil]
  | x :: r, h => by rw [List.forIn_cons, h x List.mem_cons_self, pure_bind]; exact forIn_const b f r fun y hy => h y (List.mem_cons_of_mem _ hy)

theorem bind_eq {fd : FuncData} {vals : List Value} (h1 : fd.params.posonlyargs = []) (h2 : fd.params.vararg = none) (h3 : fd.params.kwonlyargs = []) (h4 : fd.params.kwarg = none) (hl : vals.length = fd.params.args.length) (hn : (fd.params.args.map (·.arg)).Nodup) :
    bindArgs fd ⟨vals, []⟩ = seqItems? fd.defaults >>= fun _ => pure ((fd.params.args.map (·.arg)).zip vals) := by
  unfold bindArgs
  have hlen : (fd.params.args.map (·.arg)).length = vals.length := by rw [List.length_map, hl]
  generalize hN : fd.params.args.map (·.arg) = N at *
  simp only [h1, h2, h3, h4, List.map_nil, List.nil_append, List.append_nil, List.forIn_nil, pure_bind, hN]
  congr 1
  funext D
  have hgt : ¬ (vals.length > N.length) := by (first | lia | omega)
  have hm : ∀ k, (N.take k).filter (fun n => ((N.zip vals).lookup n).isNone) = [] := fun k => by
    rw [List.filter_eq_nil_iff]
    intro n hn'
    have := zip_some hlen n (List.mem_of_mem_take hn')
    rw [Option.isSome_iff_ne_none] at this
    simp [this]
  simp only [hgt, decide_false, Bool.false_and, Bool.false_eq_true, if_false, hm, List.isEmpty_nil, Bool.not_true]
  rw [forIn_const]
  · simp only [pure_bind]
    rw [zip_filterMap _ hlen fun i n v h h' => zip_lookup hn i n v h h']
  · rintro ⟨name, d⟩ hx
    have hmem : name ∈ N := List.mem_of_mem_drop (List.of_mem_zip hx).1
    have := zip_some hlen name hmem
    rw [Option.isSome_iff_ne_none] at this
    simp [this]
end
section
open PySem PySem.W PyProof.Rows

theorem cells_keep : ∀ (names : List (Str × NameKind)) (m : Nat) (acc : List (Str × Addr)) (x : Str), (acc.lookup x).isSome = true → ((cellsFrom m names acc).lookup x).isSome = true
  | [], _, _, _, h => h
  | (n, k) :: r, m, acc, x, h => by
    unfold cellsFrom
    split
    · refine cells_keep r (m + 1) ((n, m) :: acc) x ?_
      rw [List.lookup_cons]
      split
      · rfl
      · exact h
    · exact cells_keep r m acc x h
theorem cells_mem : ∀ (names : List (Str × NameKind)) (m : Nat) (acc : List (Str × Addr)) (x : Str), (x, NameKind.cell) ∈ names → ((cellsFrom m names acc).lookup x).isSome = true
  | (n, k) :: r, m, acc, x, h => by
    unfold cellsFrom
    rcases List.mem_cons.mp h with e | h
    · cases e
      rw [if_pos (by rfl)]
      exact cells_keep r (m + 1) _ n (by rw [List.lookup_cons]; simp)
    · split
      · exact cells_mem r (m + 1) _ x h
      · exact cells_mem r m acc x h

section
variable {k : Str → Option NameKind}
theorem bindL_skip {x : Str} : ∀ {ns : List Str} {vs : List Value} {m : Str → Option Value}, x ∉ ns → bindL k (ns.zip vs) m x = m x
  | [], _, _, _ => by simp [bindL]
  | _ :: _, [], _, _ => by simp [bindL]
  | n :: ns, v :: vs, m, h => by
    rw [List.zip_cons_cons]
    unfold bindL
    rw [bindL_skip (fun q => h (List.mem_cons_of_mem _ q))]
    split
    · exact if_neg (fun (q : x = n) => h (by rw [q]; exact List.mem_cons_self))
    · rfl
theorem bindL_get {x : Str} (hk : k x = some .local) : ∀ {ns : List Str} {vs : List Value} {m : Str → Option Value} {i : Nat} {v : Value}, ns.Nodup → ns[i]? = some x → vs[i]? = some v → bindL k (ns.zip vs) m x = some v
  | n :: ns, u :: vs, m, 0, v, hn, h1, h2 => by
    cases h1; cases h2
    rw [List.zip_cons_cons]
    unfold bindL
    rw [bindL_skip (List.nodup_cons.mp hn).1, if_pos hk, if_pos rfl]
  | n :: ns, u :: vs, m, i + 1, v, hn, h1, h2 => by
    rw [List.zip_cons_cons]
    unfold bindL
    exact bindL_get hk (i := i) (List.nodup_cons.mp hn).2 h1 h2
  | [], _, _, _, _, _, h1, _ => by simp at h1
  | _ :: _, [], _, _, _, _, _, h2 => by simp at h2
theorem bindC_skip {x : Str} : ∀ {ns : List Str} {vs : List Value} {m : Str → Option Value}, x ∉ ns → bindC k (ns.zip vs) m x = m x
  | [], _, _, _ => by simp [bindC]
  | _ :: _, [], _, _ => by simp [bindC]
  | n :: ns, v :: vs, m, h => by
    rw [List.zip_cons_cons]
    unfold bindC
    rw [bindC_skip (fun q => h (List.mem_cons_of_mem _ q))]
    split
    · rfl
    · exact if_neg (fun (q : x = n) => h (by rw [q]; exact List.mem_cons_self))
theorem bindC_get {x : Str} (hk : k x = some .cell) : ∀ {ns : List Str} {vs : List Value} {m : Str → Option Value} {i : Nat} {v : Value}, ns.Nodup → ns[i]? = some x → vs[i]? = some v → bindC k (ns.zip vs) m x = some v
  | n :: ns, u :: vs, m, 0, v, hn, h1, h2 => by
    cases h1; cases h2
    rw [List.zip_cons_cons]
    unfold bindC
    rw [bindC_skip (List.nodup_cons.mp hn).1, if_neg (by rw [hk]; decide), if_pos rfl]
  | n :: ns, u :: vs, m, i + 1, v, hn, h1, h2 => by
    rw [List.zip_cons_cons]
    unfold bindC
    exact bindC_get hk (i := i) (List.nodup_cons.mp hn).2 h1 h2
  | [], _, _, _, _, _, h1, _ => by simp at h1
  | _ :: _, [], _, _, _, _, _, h2 => by simp at h2
end

theorem zipIdx_lookup {l : List Str} {x : Str} {i : Nat} (h : l.zipIdx.lookup x = some i) : l[i]? = some x := by
  have := lk_mem h
  rw [List.mem_zipIdx_iff_getElem?] at this
  exact this

structure FnOk (K : Frag) (fd : FuncData) : Prop where
  dfl : dfltOk K fd = true
  p1 : fd.params.posonlyargs = []
  p2 : fd.params.vararg = none
  p3 : fd.params.kwonlyargs = []
  p4 : fd.params.kwarg = none
  gl : fd.globals = mainGlobals
  clo : fd.closure = []
  bl : fd.builtins = builtinsNs
  kind : fd.scope.kind = .function
  gen : fd.scope.isGenerator = false
  co : fd.scope.isCoroutine = false
  code : codeIn K fd.code fd.qualname = true
  nd : ((fnCC fd).vars.map (·.1)).Nodup
  vars : ∀ p ∈ (fnCC fd).vars, p.2 < 50 ∧ (fd.scope.names.lookup p.1 = some .local ∨ fd.scope.names.lookup p.1 = some .cell)
  names : (fd.scope.names.map (·.1)).Nodup
theorem okFn_of {K : Frag} {fd : FuncData} (h : okFn K fd = true) : FnOk K fd := by
  unfold okFn at h
  simp only [Bool.and_eq_true, decide_eq_true_eq, List.isEmpty_iff, Option.isNone_iff_eq_none, beq_iff_eq, Bool.not_eq_true', List.all_eq_true, Bool.or_eq_true] at h
  obtain ⟨⟨⟨⟨⟨⟨⟨⟨⟨⟨⟨⟨⟨⟨h0, h1⟩, h2⟩, h3⟩, h4⟩, h5⟩, h6⟩, h7⟩, h8⟩, h9⟩, h10⟩, h11⟩, h12⟩, h13⟩, h14⟩ := h
  exact ⟨h0, h1, h2, h3, h4, h5, h6, h7, h8, h9, h10, h11, h12, h13, h14⟩

section
variable {prog : Program} {w : World} {K : Frag} {g : Glb} {n : Nat} {σ : St} {A : Around} {s : Shared} {ρ : Rho} {fd : FuncData}

theorem fn_var {x : Str} {i : Nat} (h : (fnCC fd).vars.lookup x = some i) (hi : i < fd.params.args.length) : (fd.params.args.map (·.arg))[i]? = some x := by
  have := zipIdx_lookup h
  rw [List.getElem?_append_left (by rw [List.length_map]; exact hi)] at this
  exact this
theorem fn_nd (O : FnOk K fd) : (fd.params.args.map (·.arg)).Nodup := by
  have := O.nd
  have e : (fnCC fd).vars.map (·.1) = fd.params.args.map (·.arg) ++ (fd.scope.names.filter fun p => (p.2 == .local || p.2 == .cell) && !(fd.params.args.map (·.arg)).contains p.1).map (·.1) := by
    show (List.zipIdx _).map (·.1) = _
    rw [List.zipIdx_map_fst]
  rw [e] at this
  exact (List.nodup_append.mp this).1
theorem fn_par (O : FnOk K fd) {x : Str} (hx : x ∈ fd.params.args.map (·.arg)) : fd.scope.names.lookup x = some .local ∨ fd.scope.names.lookup x = some .cell := by
  have : x ∈ (fnCC fd).vars.map (·.1) := by
    show x ∈ (List.zipIdx _).map (·.1)
    rw [List.zipIdx_map_fst]
    exact List.mem_append_left _ hx
  obtain ⟨p, hp, rfl⟩ := List.mem_map.mp this
  exact (O.vars p hp).2

theorem call_env (O : FnOk K fd) {L a : Addr} {s₁ : Shared} {m cm : Str → Option Value} (I : InCallC s (callEnvC fd L a).locals m (callEnvC fd L a).cells cm s₁) : EnvS (fnCC fd) (callEnvC fd L a) where
  kind := O.kind
  gl := O.gl
  bl := O.bl
  nm := fun _ => rfl
  vk := fun x i h => by
    rcases (O.vars _ (lk_mem h)).2 with h | h
    · exact .inl h
    · exact .inr ⟨h, Option.isSome_iff_exists.mp (cells_mem _ _ _ _ (lk_mem h))⟩
  inj := fun x y i h h' => by
    have a := zipIdx_lookup h
    have b := zipIdx_lookup h'
    rw [a] at b
    exact Option.some.inj b
  cinj := fun x y c h h' => name_of_addr I.apart (lk_mem h) (lk_mem h')
  cl := fun x c h => Nat.ne_of_gt (I.above x c (lk_mem h))
  cc := fun x h => Option.isSome_iff_exists.mp (cells_mem _ _ _ _ (lk_mem h))

theorem call_rel (O : FnOk K fd) (R : Rel g ρ σ s.heap) {a : Addr} {pvs : List PV} {vs : List Value} (W : VRs s.heap ρ pvs vs) (hl : vs.length = fd.params.args.length) {s₁ : Shared}
    (I : InCallC s (callEnvC fd s.heap.objs.size a).locals (bindL (callEnvC fd s.heap.objs.size a).kindOf ((fd.params.args.map (·.arg)).zip vs) fun _ => none) (callEnvC fd s.heap.objs.size a).cells
        (bindC (callEnvC fd s.heap.objs.size a).kindOf ((fd.params.args.map (·.arg)).zip vs) fun _ => none) s₁) :
    LRel g (fnCC fd) (callEnvC fd s.heap.objs.size a) ρ (lmOf pvs) s₁.heap ∧ ∀ b ∈ Xof (callEnvC fd s.heap.objs.size a), s.heap.get? b = none := by
  have W1 : All2 (VR s₁.heap ρ) pvs vs := W.all.mono fun _ _ r => by have := vr_grow (δ := []) r I.toInCall.keep; rwa [List.append_nil] at this
  have val : ∀ {x : Str} {i : Nat} {v : PV}, (fnCC fd).vars.lookup x = some i → lmOf pvs i = some v → ∃ u, VR s₁.heap ρ v u ∧ (fd.params.args.map (·.arg))[i]? = some x ∧ vs[i]? = some u := by
    intro x i v hx hv
    obtain ⟨u, hu, r⟩ := W1.get hv
    exact ⟨u, r, fn_var hx (hl ▸ (List.getElem?_eq_some_iff.mp hu).1), hu⟩
  have fresh : ∀ b ∈ Xof (callEnvC fd s.heap.objs.size a), s.heap.get? b = none := fun b hb => by
    rcases mem_X hb with rfl | ⟨x, hx⟩
    · exact new_none _
    · cases e : s.heap.get? b with
      | none => rfl
      | some o => exact absurd (Nat.lt_trans (Heap.lt_size e) (I.above x b (lk_mem hx))) (Nat.lt_irrefl _)
  refine ⟨⟨⟨_, I.toInCall.ns, fun x i v hx hv hk => ?_⟩, fun x c hc => ⟨_, I.cell x c hc, fun i v hx hv hk => ?_⟩, fun b hb => ⟨fun q => ?_, R.fresh (fresh b hb)⟩⟩, fresh⟩
  · obtain ⟨u, r, h1, h2⟩ := val hx hv
    exact ⟨u, bindL_get hk (fn_nd O) h1 h2, r⟩
  · obtain ⟨u, r, h1, h2⟩ := val hx hv
    exact ⟨u, bindC_get hk (fn_nd O) h1 h2, r⟩
  · obtain ⟨o, e, _⟩ := R.owned q
    rw [fresh b hb] at e; cases e

theorem dflt_inv (h : dfltOk K fd = true) : fd.defaults = .none ∨ ∃ T oc od its k sl, fd.defaults = .ref T ∧ K.lookup T = some ⟨oc, od, .seq its k, sl⟩ := by
  rcases Bool.or_eq_true_iff.mp h with h | h
  · exact .inl (beq_iff_eq.mp h)
  · obtain ⟨x, h⟩ := Option.isSome_iff_exists.mp h
    obtain ⟨T, hT, h⟩ := Option.bind_eq_some_iff.mp h
    obtain ⟨⟨oc, od, da, sl⟩, e, h⟩ := Option.bind_eq_some_iff.mp h
    refine .inr ⟨T, oc, od, x.1, x.2, sl, valRef_inv hT, ?_⟩
    cases da <;> first | exact nos h | (cases h; exact e)
theorem bind_to (O : FnOk K fd) (X : K.In s.heap) {vs : List Value} (hl : vs.length = fd.params.args.length) : BindsTo s fd ⟨vs, []⟩ ((fd.params.args.map (·.arg)).zip vs) := by
  intro M A E Q q
  rw [bind_eq O.p1 O.p2 O.p3 O.p4 hl (fn_nd O)]
  rcases dflt_inv O.dfl with e | ⟨T, oc, od, its, k, sl, e, hT⟩
  · rw [e]
    exact wpAny_bind (m := seqItems? .none) (wpAny_of_eq (a := none) rfl (wpAny_pure q))
  · rw [e]
    exact wpAny_bind (wpAny_seqItems (X _ _ hT) rfl (wpAny_pure q))

theorem fnFR_inv {f : Addr} {fr : FR} (h : fnFR K f = some fr) : ∃ oc od fd sl b, K.lookup f = some ⟨oc, od, .func fd, sl⟩ ∧ fd.body = .stmts b ∧ okFn K fd = true ∧ fr = ⟨fd.params.args.length, cSs K depthC (fnCC fd) b⟩ := by
  obtain ⟨⟨oc, od, da, sl⟩, e, h⟩ := Option.bind_eq_some_iff.mp h
  obtain ⟨fd, hd, h⟩ := Option.bind_eq_some_iff.mp h
  obtain ⟨b, hb, h⟩ := Option.bind_eq_some_iff.mp h
  obtain ⟨hok, h⟩ := ite_inv h
  refine ⟨oc, od, fd, sl, b, ?_, ?_, hok, (Option.some.inj h).symm⟩
  · cases da <;> first | exact nos hd | (cases hd; exact e)
  · unfold fnBody at hb
    revert hb
    cases fd.body with
    | stmts => exact fun hb => by cases hb; rfl
    | expr => exact fun hb => nos hb
theorem C_step (hw : g.w = w) (B : Base K g) (C : CSound prog w K g n) : CSound prog w K g (n + 1) := by
  intro A s ρ σ f pvs vs Q H R W h
  obtain ⟨fr, hf, hlen, h⟩ := h
  obtain ⟨oc, od, fd, sl, b, hK, hbody, hok, rfl⟩ := fnFR_inv hf
  have O := okFn_of hok
  have X := B.in R
  have hl : vs.length = fd.params.args.length := by rw [← W.all.length]; exact hlen
  obtain ⟨p, loose, mg, mb, T⟩ := B.T
  have hlim : s.heap.NoLimit := T.nolimit.keeps R.keep
  refine codeAny_call_function (by have := H.dp; (first | lia | omega)) (X _ _ hK) rfl O.co O.gen hbody (codeRec_of X O.code) (bind_to O X hl _ _ _ _ ?_)
  rw [O.clo]
  refine wpAny_newFunctionEnv_cells O.kind (fun x hx => ?_) fun env he s₁ I => ?_
  · have hx' : x.1 ∈ fd.params.args.map (·.arg) := (List.of_mem_zip hx).1
    rcases fn_par O hx' with h | h
    · exact .inl h
    · exact .inr ⟨h, cells_mem _ _ _ _ (lk_mem h)⟩
  · subst he
    refine ⟨hlim.keeps I.toInCall.keep, codeAny_func ?_⟩
    obtain ⟨L, fresh⟩ := call_rel (a := f) O R W hl I
    have V := call_env (a := f) (L := s.heap.objs.size) O I
    have hR : Room (n + 1) (A.deeper (callEnvC fd s.heap.objs.size f)) := ⟨H.hd, by have := H.dp; show A.depth + 1 + 2 * (n + 1) + 4 ≤ _; (first | lia | omega), by have := H.un; show A.units + 3 + 20 * (n + 1) + 1000 ≤ _; (first | lia | omega)⟩
    have l₁ : Like s s₁ := I.toInCall.same
    have R₁ := R.grow I.toInCall.keep
    refine wpAny_mono ((S_all hw B C depthC).2 V hR L R₁ h) (fun fl s₂ x => ?_) fun _ _ f => f.elim
    obtain ⟨fl', lm', σ', ρ', l₂, S₂, R₂, L₂, F, q⟩ := x
    have S : Step [] ρ s.heap ρ' s₂.heap := ((Step.grow I.toInCall.keep).nil.trans S₂).fin fresh fun _ _ _ e => e
    rcases FlR_inv F with ⟨rfl, rfl⟩ | F
    · exact ⟨.none, σ', ρ', l₁.trans l₂, S, R₂, .none, q⟩
    rcases F with ⟨rfl, rfl⟩ | F
    · exact q.elim
    rcases F with ⟨rfl, rfl⟩ | F
    · exact q.elim
    · obtain ⟨v, u, rfl, rfl, F⟩ := F
      exact ⟨_, σ', ρ', l₁.trans l₂, S, R₂, F, q⟩

theorem C_all (hw : g.w = w) (B : Base K g) : ∀ n, CSound prog w K g n
  | 0 => fun _ _ _ h => h.elim
  | n + 1 => C_step hw B (C_all hw B n)
end
end
section
open PySem PySem.W PyProof.Rows

noncomputable def freed : Obj := ⟨.none, none, .freed, #[]⟩
theorem get_free {h : Heap} {a b : Addr} {o : Obj} (hb : b ≠ a) (e : h.get? b = some o) : (h.update a fun _ => freed).get? b = some o := (Heap.get?_update_other _ _ (Ne.symm hb)).trans e
theorem free_get {h : Heap} {a b : Addr} {o : Obj} (e : (h.update a fun _ => freed).get? b = some o) : b ≠ a ∧ h.get? b = some o := by
  have hb : b ≠ a := by
    rintro rfl
    obtain ⟨e1, e2⟩ := Heap.get?_some_iff.mp e
    obtain ⟨objs, l⟩ := h
    have e3 : (objs.modify b fun _ => freed)[b]? = some o := e1
    rw [Array.getElem?_modify] at e3
    simp only [if_true] at e3
    cases q : objs[b]? with
    | none => rw [q] at e3; cases e3
    | some x => rw [q] at e3; cases e3; cases e2
  exact ⟨hb, (Heap.get?_update_other _ _ (Ne.symm hb)).symm.trans e⟩
theorem free_self {h : Heap} {a : Addr} : (h.update a fun _ => freed).get? a = none := by
  cases e : (h.update a fun _ => freed).get? a with
  | none => rfl
  | some o => exact absurd rfl (free_get e).1

set_option tactic.hygienic true in
theorem look_mem {b : Addr} {o : Obj} : ∀ {K : Frag}, List.lookup b K = some o → (b, o) ∈ K
  | (c, o') :: r, e => by
    first
    | (rw [List.lookup_cons] at e
       split at e
       · rename_i z; cases e; rw [beq_iff_eq.mp z]; exact List.mem_cons_self
       · exact List.mem_cons_of_mem _ (look_mem e))
noncomputable def noList (K : Frag) : Bool := K.all fun p => !(p.2.cls == .type "list")
theorem ints_all {h : Heap} {ρ : Rho} {vs : List Value} {ns : List Int} (H : IntsAre vs ns) : All2 (VR h ρ) (ns.map .int) vs := are_ints H

theorem join_law {prog p : Program} {w : World} {s₁ : Shared} {K : Frag} {loose : List Str} {mean : ExcName → Option Value} {mg mb : Str → Option Value} {a f : Addr} {vs : List Value} {script : List Int} {N : Nat}
    (KX : K.In s₁.heap) (T : Top p loose mean mg mb s₁.heap) (ha : a ≠ sysModules) (hL : s₁.heap.IsList a vs.toArray) (hI : IntsAre vs script) (hlen : script.length ≤ big) (hno : noList K = true) (hN : 2 * N ≤ 600 ∧ 20 * N ≤ 8000)
    (law : wpCall (pgOf K) N f [.obj 0] [.ro (script.map .int)] fun v σ => v = .bool true ∧ σ[0]? = some (.ro (script.map .int))) :
    codeAny (model prog w) callerA (.call (.ref f) ⟨[.ref a], []⟩) (fun r s' => r = .ok (.ret (.bool true)) ∧ (∀ b o, s₁.heap.get? b = some o → s'.heap.get? b = some o) ∧ s'.os = s₁.os ∧ s'.gens = s₁.gens) s₁ := by
  obtain ⟨ol, hla, hlc, n, hld⟩ := hL
  have ne : ∀ {b : Addr} {o : Obj}, s₁.heap.get? b = some o → o.cls ≠ .type "list" → b ≠ a := fun e hc q => by rw [q, hla] at e; cases e; exact hc hlc
  have ne' : ∀ {b : Addr} {o : Obj} {es ep}, s₁.heap.get? b = some o → o.data = .dict es ep → b ≠ a := fun e hc q => by rw [q, hla] at e; cases e; rw [hld] at hc; cases hc
  have TR := topRead_of T
  have hg : (s₁.heap.update a fun _ => freed).Ns mainGlobals mg := TR.g.at' fun o e => get_free (by obtain ⟨o', es, ep, ho, hd, _⟩ := TR.g; exact ne' ho hd) e
  have hb : (s₁.heap.update a fun _ => freed).Ns builtinsNs mb := TR.b.at' fun o e => get_free (by obtain ⟨o', es, ep, ho, hd, _⟩ := TR.b; exact ne' ho hd) e
  have hl : (s₁.heap.update a fun _ => freed).NoLimit := TR.nolimit.at fun o e => get_free (by obtain ⟨mc, ⟨o', es, ep, ho, hd, _⟩, _⟩ := TR.nolimit; exact ne' ho hd) e
  let g : Glb := ⟨w, attrAt, s₁.heap.update a fun _ => freed, s₁.heap⟩
  have B : Base K g := by
    refine ⟨fun b o e => ?_, rfl, p, loose, mg, mb, hg, hb, hl, TR.builtins, TR.free⟩
    have hb := KX b o e
    refine get_free (ne hb fun hc => ?_) hb
    unfold noList at hno
    rw [List.all_eq_true] at hno
    have hmem : (b, o) ∈ K := look_mem e
    have := hno _ hmem
    simp [hc] at this
  have R : Rel g [(a, a)] [.ro (script.map .int)] s₁.heap := by
    refine ⟨fun b o e => (free_get e).2, ?_, fun q hq => by rw [List.mem_singleton.mp hq]; exact ha, ?_, by simp, rfl, ?_, ?_⟩
    · obtain ⟨mc, ⟨o', es, ep, ho, hd, _⟩, _⟩ := TR.nolimit
      exact ⟨o', get_free (ne' ho hd) ho⟩
    · intro q hq
      rw [List.mem_singleton.mp hq]; exact free_self
    · intro k o q e1 e2
      rcases k with _ | k
      · cases e1; cases e2
        exact ⟨rfl, by rw [List.length_map]; exact hlen, vs.toArray, ⟨ol, hla, hlc, n, hld⟩, by simpa using are_ints hI⟩
      · simp at e1
    · intro k xs q e1 e2; rfl
  have H : RoomC N callerA := ⟨rfl, by show 1 + claimMargin + 2 * N + 5 ≤ recursionLimit; unfold claimMargin recursionLimit; (first | lia | omega), by show 4 + 20 * N + 1010 ≤ cLine; unfold cLine; (first | lia | omega)⟩
  refine codeAny_mono (C_all (prog := prog) (w := w) (g := g) rfl B N H R (.cons (.obj (d := a) rfl) .nil) law) fun r s' x => ?_
  cases r with
  | error e => exact x.elim
  | ok fl =>
    cases fl <;> try exact x.elim
    obtain ⟨pv, σ', ρ', ⟨h', t', e⟩, S, R', V, rfl, hσ⟩ := x
    cases V
    refine ⟨rfl, fun b o eb => ?_, by rw [e], by rw [e]⟩
    by_cases hba : b = a
    · subst hba
      obtain ⟨δ, rfl, _⟩ := S.ext
      have := R'.fro 0 _ (b, b) hσ rfl
      exact this.trans eb
    · exact R'.keep b o (get_free hba eb)
end
open PySem

noncomputable def b_60 : MS := (.seq (.ret (.tup (.cons (.str "[]") (.cons (.str ".") (.cons (.str "{}") (.cons (.str "-") (.cons (.str "+") (.cons (.str "*") (.cons (.str "/") (.cons (.str ",") (.cons (.str "|") (.cons (.str ";") (.cons (.str "->") (.cons (.str "\\+") (.cons (.str ":-") (.cons (.str "?-") (.cons (.str "-->") (.cons (.str "!") (.cons (.str "true") (.cons (.str "fail") (.cons (.str "false") (.cons (.str "call") (.cons (.str "=") (.cons (.str "^") (.cons (.str "error") (.cons (.str "") (.cons (.str "end_of_file") (.cons (.str "system") (.cons (.str "$VAR") (.cons (.str "catch") (.cons (.str "throw") .nil)))))))))))))))))))))))))))))))
  .skip)
noncomputable def b_67 : MS := (.seq (.ret (.tup (.cons (.tup (.cons (.str ".") (.cons (.int (2)) .nil))) (.cons (.tup (.cons (.str ",") (.cons (.int (2)) .nil))) (.cons (.tup (.cons (.str ";") (.cons (.int (2)) .nil))) (.cons (.tup (.cons (.str "->") (.cons (.int (2)) .nil))) (.cons (.tup (.cons (.str "\\+") (.cons (.int (1)) .nil))) (.cons (.tup (.cons (.str ":-") (.cons (.int (2)) .nil))) (.cons (.tup (.cons (.str ":-") (.cons (.int (1)) .nil))) (.cons (.tup (.cons (.str "?-") (.cons (.int (1)) .nil))) (.cons (.tup (.cons (.str "-->") (.cons (.int (2)) .nil))) (.cons (.tup (.cons (.str "{}") (.cons (.int (1)) .nil))) (.cons (.tup (.cons (.str "=") (.cons (.int (2)) .nil))) (.cons (.tup (.cons (.str "^") (.cons (.int (2)) .nil))) (.cons (.tup (.cons (.str "-") (.cons (.int (1)) .nil))) (.cons (.tup (.cons (.str "-") (.cons (.int (2)) .nil))) (.cons (.tup (.cons (.str "+") (.cons (.int (2)) .nil))) (.cons (.tup (.cons (.str "/") (.cons (.int (2)) .nil))) (.cons (.tup (.cons (.str "error") (.cons (.int (2)) .nil))) (.cons (.tup (.cons (.str "$VAR") (.cons (.int (1)) .nil))) (.cons (.tup (.cons (.str "catch") (.cons (.int (3)) .nil))) (.cons (.tup (.cons (.str "throw") (.cons (.int (1)) .nil))) (.cons (.tup (.cons (.str "!") (.cons (.int (0)) .nil))) (.cons (.tup (.cons (.str "true") (.cons (.int (0)) .nil))) (.cons (.tup (.cons (.str "fail") (.cons (.int (0)) .nil))) (.cons (.tup (.cons (.str "false") (.cons (.int (0)) .nil))) (.cons (.tup (.cons (.str "call") (.cons (.int (1)) .nil))) (.cons (.tup (.cons (.str "call") (.cons (.int (2)) .nil))) (.cons (.tup (.cons (.str "call") (.cons (.int (3)) .nil))) (.cons (.tup (.cons (.str "call") (.cons (.int (4)) .nil))) (.cons (.tup (.cons (.str "call") (.cons (.int (5)) .nil))) (.cons (.tup (.cons (.str "call") (.cons (.int (6)) .nil))) (.cons (.tup (.cons (.str "call") (.cons (.int (7)) .nil))) (.cons (.tup (.cons (.str "call") (.cons (.int (8)) .nil))) .nil))))))))))))))))))))))))))))))))))
  .skip)
noncomputable def b_81 : MS := (.seq (.assign (.attr (.var 0) 0) (.list .nil))
  (.seq (.assign (.attr (.var 0) 1) .dict0)
  (.seq (.assign (.attr (.var 0) 2) (.list .nil))
  (.seq (.assign (.attr (.var 0) 3) .dict0)
  (.seq (.for 1 (.val (.call 60 .nil)) (.seq (.expr (.meth (.var 0) 8 (.cons (.var 1) .nil)))
  .skip))
  (.seq (.for 2 (.val (.call 67 .nil)) (.seq (.expr (.meth (.var 0) 11 (.cons (.prim .idx (.cons (.var 2) (.cons (.int (0)) .nil))) (.cons (.prim .idx (.cons (.var 2) (.cons (.int (1)) .nil))) .nil))))
  .skip))
  .skip))))))
noncomputable def b_88 : MS := (.seq (.assign (.var 2) (.bm .get (.attr (.var 0) 1) (.cons (.var 1) (.cons (.int (-1)) .nil))))
  (.seq (.ite (.e (.prim .ge (.cons (.var 2) (.cons (.int (0)) .nil)))) (.seq (.ret (.var 2))
  .skip) .skip)
  (.seq (.assign (.var 3) (.prim .len (.cons (.attr (.var 0) 0) .nil)))
  (.seq (.expr (.bm .append (.attr (.var 0) 0) (.cons (.var 1) .nil)))
  (.seq (.assign (.idx (.attr (.var 0) 1) (.var 1)) (.var 3))
  (.seq (.ret (.var 3))
  .skip))))))
noncomputable def b_95 : MS := (.seq (.ret (.prim .idx (.cons (.attr (.var 0) 0) (.cons (.var 1) .nil))))
  .skip)
noncomputable def b_102 : MS := (.seq (.assign (.var 3) (.tup (.cons (.var 1) (.cons (.var 2) .nil))))
  (.seq (.assign (.var 4) (.bm .get (.attr (.var 0) 3) (.cons (.var 3) (.cons (.int (-1)) .nil))))
  (.seq (.ite (.e (.prim .ge (.cons (.var 4) (.cons (.int (0)) .nil)))) (.seq (.ret (.var 4))
  .skip) .skip)
  (.seq (.assign (.var 5) (.prim .len (.cons (.attr (.var 0) 2) .nil)))
  (.seq (.expr (.bm .append (.attr (.var 0) 2) (.cons (.var 3) .nil)))
  (.seq (.assign (.idx (.attr (.var 0) 3) (.var 3)) (.var 5))
  (.seq (.ret (.var 5))
  .skip)))))))
noncomputable def b_109 : MS := (.seq (.ret (.meth (.var 0) 10 (.cons (.meth (.var 0) 8 (.cons (.var 1) .nil)) (.cons (.var 2) .nil))))
  .skip)
noncomputable def b_116 : MS := (.seq (.ret (.prim .idx (.cons (.prim .idx (.cons (.attr (.var 0) 2) (.cons (.var 1) .nil))) (.cons (.int (0)) .nil))))
  .skip)
noncomputable def b_123 : MS := (.seq (.ret (.prim .idx (.cons (.prim .idx (.cons (.attr (.var 0) 2) (.cons (.var 1) .nil))) (.cons (.int (1)) .nil))))
  .skip)
noncomputable def b_166 : MS := (.seq (.ret (.tup (.cons (.str "v") (.cons (.var 0) .nil))))
  .skip)
noncomputable def b_173 : MS := (.seq (.ret (.tup (.cons (.str "a") (.cons (.var 0) .nil))))
  .skip)
noncomputable def b_180 : MS := (.seq (.ret (.tup (.cons (.str "s") (.cons (.var 0) (.cons (.prim .tupleOf (.cons (.var 1) .nil)) .nil)))))
  .skip)
noncomputable def b_188 : MS := (.seq (.assign (.var 2) (.ite (.e (.prim .is (.cons (.var 1) (.cons .none .nil)))) .stuck (.var 1)))
  (.seq (.for 3 (.rev (.var 0)) (.seq (.assign (.var 2) (.tup (.cons (.str "s") (.cons (.int (0)) (.cons (.tup (.cons (.var 3) (.cons (.var 2) .nil))) .nil)))))
  .skip))
  (.seq (.ret (.var 2))
  .skip)))
noncomputable def b_195 : MS := (.seq (.assign (.var 1) (.list .nil))
  (.seq (.loop (.and (.e (.prim .eq (.cons (.prim .idx (.cons (.var 0) (.cons (.int (0)) .nil))) (.cons (.str "s") .nil)))) (.e (.prim .eq (.cons (.prim .idx (.cons (.var 0) (.cons (.int (1)) .nil))) (.cons (.int (0)) .nil))))) (.seq (.expr (.bm .append (.var 1) (.cons (.prim .idx (.cons (.prim .idx (.cons (.var 0) (.cons (.int (2)) .nil))) (.cons (.int (0)) .nil))) .nil)))
  (.seq (.assign (.var 0) (.prim .idx (.cons (.prim .idx (.cons (.var 0) (.cons (.int (2)) .nil))) (.cons (.int (1)) .nil))))
  .skip)))
  (.seq (.ret (.tup (.cons (.var 1) (.cons (.var 0) .nil))))
  .skip)))
noncomputable def b_202 : MS := (.seq (.ret (.or (.prim .eq (.cons (.prim .idx (.cons (.var 0) (.cons (.int (0)) .nil))) (.cons (.str "a") .nil))) (.prim .eq (.cons (.prim .idx (.cons (.var 0) (.cons (.int (0)) .nil))) (.cons (.str "s") .nil)))))
  .skip)
noncomputable def b_209 : MS := (.seq (.ite (.e (.prim .eq (.cons (.prim .idx (.cons (.var 1) (.cons (.int (0)) .nil))) (.cons (.str "a") .nil)))) (.seq (.ret (.meth (.var 0) 10 (.cons (.prim .idx (.cons (.var 1) (.cons (.int (1)) .nil))) (.cons (.int (0)) .nil))))
  .skip) .skip)
  (.seq (.ret (.prim .idx (.cons (.var 1) (.cons (.int (1)) .nil))))
  .skip))
noncomputable def b_216 : MS := (.seq (.ite (.e (.prim .eq (.cons (.prim .idx (.cons (.var 0) (.cons (.int (0)) .nil))) (.cons (.str "s") .nil)))) (.seq (.ret (.prim .idx (.cons (.var 0) (.cons (.int (2)) .nil))))
  .skip) .skip)
  (.seq (.ret (.tup .nil))
  .skip))
noncomputable def b_223 : MS := (.seq (.ret (.call 230 (.cons (.list (.cons (.var 0) .nil)) .nil)))
  .skip)
noncomputable def b_230 : MS := (.seq (.assign (.var 1) .dict0)
  (.seq (.assign (.var 2) (.list .nil))
  (.seq (.assign (.var 3) (.prim .listRev (.cons (.var 0) .nil)))
  (.seq (.loop (.e (.var 3)) (.seq (.assign (.var 4) (.bm .pop (.var 3) .nil))
  (.seq (.ite (.e (.prim .eq (.cons (.prim .idx (.cons (.var 4) (.cons (.int (0)) .nil))) (.cons (.str "v") .nil)))) (.seq (.ite (.e (.prim .notIn (.cons (.prim .idx (.cons (.var 4) (.cons (.int (1)) .nil))) (.cons (.var 1) .nil)))) (.seq (.assign (.idx (.var 1) (.prim .idx (.cons (.var 4) (.cons (.int (1)) .nil)))) (.bool true))
  (.seq (.expr (.bm .append (.var 2) (.cons (.prim .idx (.cons (.var 4) (.cons (.int (1)) .nil))) .nil)))
  .skip)) .skip)
  .skip) (.seq (.ite (.e (.prim .eq (.cons (.prim .idx (.cons (.var 4) (.cons (.int (0)) .nil))) (.cons (.str "s") .nil)))) (.seq (.expr (.bm .extendRev (.var 3) (.cons (.prim .idx (.cons (.var 4) (.cons (.int (2)) .nil))) .nil)))
  .skip) .skip)
  .skip))
  .skip)))
  (.seq (.ret (.var 2))
  .skip)))))
noncomputable def b_237 : MS := (.seq (.ite (.e (.prim .eq (.cons (.prim .len (.cons (.var 0) .nil)) (.cons (.int (0)) .nil)))) (.seq (.ret (.tup (.cons (.str "a") (.cons (.int (16)) .nil))))
  .skip) .skip)
  (.seq (.assign (.var 1) (.prim .idx (.cons (.var 0) (.cons (.prim .sub (.cons (.prim .len (.cons (.var 0) .nil)) (.cons (.int (1)) .nil))) .nil))))
  (.seq (.for 2 (.range (.cons (.prim .sub (.cons (.prim .len (.cons (.var 0) .nil)) (.cons (.int (2)) .nil))) (.cons (.int (-1)) (.cons (.int (-1)) .nil)))) (.seq (.assign (.var 1) (.tup (.cons (.str "s") (.cons (.int (1)) (.cons (.tup (.cons (.prim .idx (.cons (.var 0) (.cons (.var 2) .nil))) (.cons (.var 1) .nil))) .nil)))))
  .skip))
  (.seq (.ret (.var 1))
  .skip))))
noncomputable def b_280 : MS := (.seq (.assign (.attr (.var 0) 4) (.var 1))
  .skip)
noncomputable def b_287 : MS := (.seq (.assign (.var 1) (.attr (.var 0) 4))
  (.seq (.assign (.attr (.var 0) 4) (.prim .add (.cons (.var 1) (.cons (.int (1)) .nil))))
  (.seq (.ret (.var 1))
  .skip)))
noncomputable def b_301 : MS := (.seq (.assign (.var 2) (.list .nil))
  (.seq (.loop (.and (.e (.prim .eq (.cons (.prim .idx (.cons (.var 0) (.cons (.int (0)) .nil))) (.cons (.str "s") .nil)))) (.e (.prim .inn (.cons (.prim .idx (.cons (.var 0) (.cons (.int (1)) .nil))) (.cons (.var 1) .nil))))) (.seq (.expr (.bm .append (.var 2) (.cons (.prim .idx (.cons (.prim .idx (.cons (.var 0) (.cons (.int (2)) .nil))) (.cons (.int (0)) .nil))) .nil)))
  (.seq (.assign (.var 0) (.prim .idx (.cons (.prim .idx (.cons (.var 0) (.cons (.int (2)) .nil))) (.cons (.int (1)) .nil))))
  .skip)))
  (.seq (.expr (.bm .append (.var 2) (.cons (.var 0) .nil)))
  (.seq (.ret (.var 2))
  .skip))))
noncomputable def b_315 : MS := (.seq (.assign (.attr (.var 0) 5) (.var 1))
  (.seq (.assign (.attr (.var 0) 6) (.var 2))
  .skip))
noncomputable def b_322 : MS := (.seq (.assign (.var 1) (.meth (.attr (.var 0) 5) 14 .nil))
  (.seq (.loop (.e (.prim .inn (.cons (.var 1) (.cons (.attr (.var 0) 6) .nil)))) (.seq (.assign (.var 1) (.meth (.attr (.var 0) 5) 14 .nil))
  .skip))
  (.seq (.ret (.call 166 (.cons (.var 1) .nil)))
  .skip)))
noncomputable def b_336 : MS := (.seq (.ite (.or (.e (.prim .ne (.cons (.prim .idx (.cons (.var 1) (.cons (.int (0)) .nil))) (.cons (.str "s") .nil)))) (.e (.prim .ne (.cons (.prim .idx (.cons (.var 1) (.cons (.int (1)) .nil))) (.cons (.int (8)) .nil))))) (.seq (.ret (.var 1))
  .skip) .skip)
  (.seq (.assign (.var 3) (.new 325 (.cons (.var 2) (.cons (.call 223 (.cons (.var 1) .nil)) .nil))))
  (.seq (.assign (.tup [4, 5]) (.prim .idx (.cons (.var 1) (.cons (.int (2)) .nil))))
  (.seq (.assign (.var 6) .none)
  (.seq (.ite (.and (.e (.prim .eq (.cons (.prim .idx (.cons (.var 4) (.cons (.int (0)) .nil))) (.cons (.str "s") .nil)))) (.e (.prim .eq (.cons (.prim .idx (.cons (.var 4) (.cons (.int (1)) .nil))) (.cons (.int (1)) .nil))))) (.seq (.assign (.tup [4, 6]) (.prim .idx (.cons (.var 4) (.cons (.int (2)) .nil))))
  .skip) .skip)
  (.seq (.ite (.e (.prim .eq (.cons (.prim .idx (.cons (.var 4) (.cons (.int (0)) .nil))) (.cons (.str "v") .nil)))) (.seq .stuck
  .skip) .skip)
  (.seq (.ite (.not (.e (.call 202 (.cons (.var 4) .nil)))) (.seq .stuck
  .skip) .skip)
  (.seq (.assign (.var 7) (.meth (.var 3) 15 .nil))
  (.seq (.assign (.var 8) (.meth (.var 3) 15 .nil))
  (.seq (.assign (.var 9) (.call 343 (.cons (.var 0) (.cons (.var 4) (.cons (.var 7) (.cons (.var 8) .nil))))))
  (.seq (.ite (.e (.prim .is (.cons (.var 6) (.cons .none .nil)))) (.seq (.ret (.call 180 (.cons (.int (5)) (.cons (.tup (.cons (.var 9) (.cons (.call 357 (.cons (.var 0) (.cons (.var 5) (.cons (.var 7) (.cons (.var 8) (.cons (.var 3) .nil)))))) .nil))) .nil))))
  .skip) .skip)
  (.seq (.assign (.var 10) (.meth (.var 3) 15 .nil))
  (.seq (.assign (.var 11) (.call 357 (.cons (.var 0) (.cons (.var 5) (.cons (.var 7) (.cons (.var 10) (.cons (.var 3) .nil)))))))
  (.seq (.assign (.var 12) (.call 350 (.cons (.var 0) (.cons (.var 6) (.cons (.var 8) (.cons (.var 10) .nil))))))
  (.seq (.ret (.call 180 (.cons (.int (5)) (.cons (.tup (.cons (.var 9) (.cons (.call 237 (.cons (.list (.cons (.var 11) (.cons (.var 12) .nil))) .nil)) .nil))) .nil))))
  .skip)))))))))))))))
noncomputable def b_343 : MS := (.seq (.assign (.var 4) (.call 209 (.cons (.var 0) (.cons (.var 1) .nil))))
  (.seq (.assign (.var 5) (.prim .add (.cons (.call 216 (.cons (.var 1) .nil)) (.cons (.tup (.cons (.var 2) (.cons (.var 3) .nil))) .nil))))
  (.seq (.ret (.call 180 (.cons (.meth (.var 0) 10 (.cons (.meth (.var 0) 12 (.cons (.var 4) .nil)) (.cons (.prim .len (.cons (.var 5) .nil)) .nil))) (.cons (.var 5) .nil))))
  .skip)))
noncomputable def b_350 : MS := (.seq (.assign (.tup [4, 5]) (.call 195 (.cons (.var 1) .nil)))
  (.seq (.ite (.e (.prim .eq (.cons (.prim .idx (.cons (.var 5) (.cons (.int (0)) .nil))) (.cons (.str "v") .nil)))) (.seq .stuck
  .skip) .skip)
  (.seq (.ite (.e (.prim .ne (.cons (.var 5) (.cons (.call 173 (.cons (.int (0)) .nil)) .nil)))) (.seq .stuck
  .skip) .skip)
  (.seq (.ret (.call 180 (.cons (.int (10)) (.cons (.tup (.cons (.var 2) (.cons (.call 188 (.cons (.var 4) (.cons (.var 3) .nil))) .nil))) .nil))))
  .skip))))
noncomputable def b_357 : MS := (.seq (.assign (.var 5) (.call 301 (.cons (.var 1) (.cons (.tup (.cons (.int (1)) .nil)) .nil))))
  (.seq (.assign (.var 6) (.list .nil))
  (.seq (.assign (.var 7) (.var 2))
  (.seq (.for 8 (.range (.cons (.prim .len (.cons (.var 5) .nil)) .nil)) (.seq (.assign (.var 9) (.var 3))
  (.seq (.ite (.e (.prim .lt (.cons (.prim .add (.cons (.var 8) (.cons (.int (1)) .nil))) (.cons (.prim .len (.cons (.var 5) .nil)) .nil)))) (.seq (.assign (.var 9) (.meth (.var 4) 15 .nil))
  .skip) .skip)
  (.seq (.expr (.bm .append (.var 6) (.cons (.call 371 (.cons (.var 0) (.cons (.prim .idx (.cons (.var 5) (.cons (.var 8) .nil))) (.cons (.var 7) (.cons (.var 9) (.cons (.var 4) .nil)))))) .nil)))
  (.seq (.assign (.var 7) (.var 9))
  .skip)))))
  (.seq (.ret (.call 237 (.cons (.var 6) .nil)))
  .skip)))))
noncomputable def b_364 : MS := (.seq (.assign (.var 6) (.list .nil))
  (.seq (.for 7 (.val (.call 301 (.cons (.var 1) (.cons (.var 2) .nil)))) (.seq (.expr (.bm .append (.var 6) (.cons (.call 357 (.cons (.var 0) (.cons (.var 7) (.cons (.var 3) (.cons (.var 4) (.cons (.var 5) .nil)))))) .nil)))
  .skip))
  (.seq (.assign (.var 8) (.bm .pop (.var 6) .nil))
  (.seq (.loop (.e (.var 6)) (.seq (.assign (.var 8) (.call 180 (.cons (.int (2)) (.cons (.tup (.cons (.bm .pop (.var 6) .nil) (.cons (.var 8) .nil))) .nil))))
  .skip))
  (.seq (.ret (.var 8))
  .skip)))))
noncomputable def b_371 : MS := (.seq (.assign (.var 5) (.call 180 (.cons (.int (10)) (.cons (.tup (.cons (.var 2) (.cons (.var 3) .nil))) .nil))))
  (.seq (.ite (.e (.prim .eq (.cons (.prim .idx (.cons (.var 1) (.cons (.int (0)) .nil))) (.cons (.str "v") .nil)))) (.seq (.ret (.call 180 (.cons (.meth (.var 0) 11 (.cons (.str "phrase") (.cons (.int (3)) .nil))) (.cons (.tup (.cons (.var 1) (.cons (.var 2) (.cons (.var 3) .nil)))) .nil))))
  .skip) .skip)
  (.seq (.ite (.e (.prim .eq (.cons (.prim .idx (.cons (.var 1) (.cons (.int (0)) .nil))) (.cons (.str "i") .nil)))) (.seq .stuck
  .skip) .skip)
  (.seq (.ite (.e (.prim .eq (.cons (.prim .idx (.cons (.var 1) (.cons (.int (0)) .nil))) (.cons (.str "a") .nil)))) (.seq (.ite (.e (.prim .eq (.cons (.prim .idx (.cons (.var 1) (.cons (.int (1)) .nil))) (.cons (.int (0)) .nil)))) (.seq (.ret (.var 5))
  .skip) .skip)
  (.seq (.ite (.e (.prim .eq (.cons (.prim .idx (.cons (.var 1) (.cons (.int (1)) .nil))) (.cons (.int (15)) .nil)))) (.seq (.ret (.call 237 (.cons (.list (.cons (.var 1) (.cons (.var 5) .nil))) .nil)))
  .skip) .skip)
  (.seq (.ret (.call 343 (.cons (.var 0) (.cons (.var 1) (.cons (.var 2) (.cons (.var 3) .nil))))))
  .skip))) .skip)
  (.seq (.assign (.var 6) (.prim .idx (.cons (.var 1) (.cons (.int (1)) .nil))))
  (.seq (.assign (.var 7) (.meth (.var 0) 10 (.cons (.int (8)) (.cons (.int (2)) .nil))))
  (.seq (.ite (.e (.prim .eq (.cons (.var 6) (.cons (.int (0)) .nil)))) (.seq (.ret (.call 350 (.cons (.var 0) (.cons (.var 1) (.cons (.var 2) (.cons (.var 3) .nil))))))
  .skip) .skip)
  (.seq (.ite (.e (.prim .eq (.cons (.var 6) (.cons (.int (1)) .nil)))) (.seq (.ret (.call 357 (.cons (.var 0) (.cons (.var 1) (.cons (.var 2) (.cons (.var 3) (.cons (.var 4) .nil)))))))
  .skip) .skip)
  (.seq (.ite (.or (.e (.prim .eq (.cons (.var 6) (.cons (.int (2)) .nil)))) (.e (.prim .eq (.cons (.var 6) (.cons (.var 7) .nil))))) (.seq (.ret (.call 364 (.cons (.var 0) (.cons (.var 1) (.cons (.tup (.cons (.int (2)) (.cons (.var 7) .nil))) (.cons (.var 2) (.cons (.var 3) (.cons (.var 4) .nil))))))))
  .skip) .skip)
  (.seq (.ite (.e (.prim .eq (.cons (.var 6) (.cons (.int (3)) .nil)))) (.seq (.assign (.var 8) (.meth (.var 4) 15 .nil))
  (.seq (.assign (.var 9) (.call 357 (.cons (.var 0) (.cons (.prim .idx (.cons (.prim .idx (.cons (.var 1) (.cons (.int (2)) .nil))) (.cons (.int (0)) .nil))) (.cons (.var 2) (.cons (.var 8) (.cons (.var 4) .nil)))))))
  (.seq (.assign (.var 10) (.call 357 (.cons (.var 0) (.cons (.prim .idx (.cons (.prim .idx (.cons (.var 1) (.cons (.int (2)) .nil))) (.cons (.int (1)) .nil))) (.cons (.var 8) (.cons (.var 3) (.cons (.var 4) .nil)))))))
  (.seq (.ret (.call 180 (.cons (.int (3)) (.cons (.tup (.cons (.var 9) (.cons (.var 10) .nil))) .nil))))
  .skip)))) .skip)
  (.seq (.ite (.e (.prim .eq (.cons (.var 6) (.cons (.int (4)) .nil)))) (.seq (.assign (.var 11) (.meth (.var 4) 15 .nil))
  (.seq (.ret (.call 237 (.cons (.list (.cons (.call 180 (.cons (.int (4)) (.cons (.tup (.cons (.call 357 (.cons (.var 0) (.cons (.prim .idx (.cons (.prim .idx (.cons (.var 1) (.cons (.int (2)) .nil))) (.cons (.int (0)) .nil))) (.cons (.var 2) (.cons (.var 11) (.cons (.var 4) .nil)))))) .nil)) .nil))) (.cons (.var 5) .nil))) .nil)))
  .skip)) .skip)
  (.seq (.ite (.e (.prim .eq (.cons (.var 6) (.cons (.int (9)) .nil)))) (.seq (.ret (.call 237 (.cons (.list (.cons (.prim .idx (.cons (.prim .idx (.cons (.var 1) (.cons (.int (2)) .nil))) (.cons (.int (0)) .nil))) (.cons (.var 5) .nil))) .nil)))
  .skip) .skip)
  (.seq (.ret (.call 343 (.cons (.var 0) (.cons (.var 1) (.cons (.var 2) (.cons (.var 3) .nil))))))
  .skip)))))))))))))
noncomputable def b_378 : MS := (.seq (.assign (.var 1) (.list .nil))
  (.seq (.for 2 (.val (.prim .slice (.cons (.var 0) (.cons .none (.cons (.int (60)) (.cons .none .nil)))))) (.seq (.assign (.var 3) (.ite (.e (.prim .ge (.cons (.var 2) (.cons (.int (0)) .nil)))) (.var 2) (.prim .sub (.cons (.int (11)) (.cons (.var 2) .nil)))))
  (.seq (.for 4 (.range (.cons (.int (12)) .nil)) (.seq (.expr (.bm .append (.var 1) (.cons (.prim .mod (.cons (.var 3) (.cons (.int (900)) .nil))) .nil)))
  (.seq (.assign (.var 3) (.prim .fdiv (.cons (.var 3) (.cons (.int (900)) .nil))))
  (.seq (.ite (.e (.prim .eq (.cons (.var 3) (.cons (.int (0)) .nil)))) (.seq .brk
  .skip) .skip)
  .skip))))
  .skip)))
  (.seq (.assign (.var 1) (.prim .slice (.cons (.var 1) (.cons .none (.cons (.int (150)) (.cons .none .nil))))))
  (.seq (.expr (.bm .reverse (.var 1) .nil))
  (.seq (.ret (.var 1))
  .skip)))))
noncomputable def b_385 : MS := (.seq (.ret (.ite (.e (.prim .ne (.cons (.var 0) (.cons (.list .nil) .nil)))) (.prim .mod (.cons (.bm .pop (.var 0) .nil) (.cons (.var 1) .nil))) (.int (0))))
  .skip)
noncomputable def b_392 : MS := (.seq (.assign (.var 2) (.call 385 (.cons (.var 0) (.cons (.int (4)) .nil))))
  (.seq (.ite (.e (.prim .eq (.cons (.var 2) (.cons (.int (3)) .nil)))) (.seq (.ret (.tup (.cons (.str "i") (.cons (.call 385 (.cons (.var 0) (.cons (.int (9)) .nil))) .nil))))
  .skip) .skip)
  (.seq (.ite (.e (.prim .eq (.cons (.var 2) (.cons (.int (2)) .nil)))) (.seq (.ret (.tup (.cons (.str "a") (.cons (.meth (.var 1) 8 (.cons (.str "x") .nil)) .nil))))
  .skip) .skip)
  (.seq (.ret (.tup (.cons (.str "v") (.cons (.call 385 (.cons (.var 0) (.cons (.int (5)) .nil))) .nil))))
  .skip))))
noncomputable def b_399 : MS := (.seq (.assign (.var 2) (.var 1))
  (.seq (.for 3 (.val (.prim .slice (.cons (.var 0) (.cons .none (.cons .none (.cons (.int (-1)) .nil)))))) (.seq (.assign (.var 2) (.tup (.cons (.str "s") (.cons (.int (0)) (.cons (.tup (.cons (.var 3) (.cons (.var 2) .nil))) .nil)))))
  .skip))
  (.seq (.ret (.var 2))
  .skip)))
noncomputable def b_404 : MS := (.seq (.assign (.var 3) (.call 385 (.cons (.var 0) (.cons (.int (3)) .nil))))
  (.seq (.ite (.e (.prim .eq (.cons (.var 3) (.cons (.int (0)) .nil)))) (.seq (.ret (.tup (.cons (.str "a") (.cons (.meth (.var 1) 8 (.cons (.var 2) .nil)) .nil))))
  .skip) .skip)
  (.seq (.ret (.tup (.cons (.str "s") (.cons (.meth (.var 1) 11 (.cons (.var 2) (.cons (.var 3) .nil))) (.cons (.prim .tupleOf (.cons (.comp (.call 392 (.cons (.var 0) (.cons (.var 1) .nil))) 50 (.range (.cons (.var 3) .nil)) .tt) .nil)) .nil)))))
  .skip)))
noncomputable def b_409 : MS := (.seq (.assign (.var 2) (.call 385 (.cons (.var 0) (.cons (.int (6)) .nil))))
  (.seq (.ite (.e (.prim .lt (.cons (.var 2) (.cons (.int (2)) .nil)))) (.seq (.assign (.var 3) (.call 404 (.cons (.var 0) (.cons (.var 1) (.cons (.prim .idx (.cons (.str "pq") (.cons (.var 2) .nil))) .nil)))))
  (.seq (.ret (.tup (.cons (.var 3) (.cons (.list (.cons (.tup (.cons (.str "more") (.cons (.var 3) .nil))) .nil)) .nil))))
  .skip)) .skip)
  (.seq (.ite (.e (.prim .eq (.cons (.var 2) (.cons (.int (2)) .nil)))) (.seq (.assign (.var 4) (.comp (.call 392 (.cons (.var 0) (.cons (.var 1) .nil))) 50 (.range (.cons (.call 385 (.cons (.var 0) (.cons (.int (3)) .nil))) .nil)) .tt))
  (.seq (.ret (.tup (.cons (.call 399 (.cons (.var 4) (.cons (.tup (.cons (.str "a") (.cons (.int (0)) .nil))) .nil))) (.cons (.list (.cons (.tup (.cons (.str "text") (.cons (.var 4) .nil))) .nil)) .nil))))
  .skip)) .skip)
  (.seq (.ite (.e (.prim .eq (.cons (.var 2) (.cons (.int (3)) .nil)))) (.seq (.ret (.tup (.cons (.tup (.cons (.str "a") (.cons (.int (15)) .nil))) (.cons (.list (.cons (.tup (.cons (.str "plain") (.cons (.tup (.cons (.str "a") (.cons (.int (15)) .nil))) .nil))) (.cons (.tup (.cons (.str "text") (.cons (.list .nil) .nil))) .nil))) .nil))))
  .skip) .skip)
  (.seq (.ite (.e (.prim .eq (.cons (.var 2) (.cons (.int (4)) .nil)))) (.seq (.assign (.var 5) (.call 404 (.cons (.var 0) (.cons (.var 1) (.cons (.str "g") .nil)))))
  (.seq (.ret (.tup (.cons (.tup (.cons (.str "s") (.cons (.int (9)) (.cons (.tup (.cons (.var 5) .nil)) .nil)))) (.cons (.list (.cons (.tup (.cons (.str "plain") (.cons (.var 5) .nil))) (.cons (.tup (.cons (.str "text") (.cons (.list .nil) .nil))) .nil))) .nil))))
  .skip)) .skip)
  (.seq (.assign (.var 3) (.tup (.cons (.str "v") (.cons (.call 385 (.cons (.var 0) (.cons (.int (5)) .nil))) .nil))))
  (.seq (.ret (.tup (.cons (.var 3) (.cons (.list (.cons (.tup (.cons (.str "phrase") (.cons (.var 3) .nil))) .nil)) .nil))))
  .skip)))))))
noncomputable def b_416 : MS := (.seq (.assign (.var 1) (.prim .idx (.cons (.var 0) (.cons (.int (-1)) .nil))))
  (.seq (.for 2 (.val (.prim .slice (.cons (.var 0) (.cons (.int (-2)) (.cons .none (.cons (.int (-1)) .nil)))))) (.seq (.assign (.var 1) (.tup (.cons (.str "s") (.cons (.int (1)) (.cons (.tup (.cons (.var 2) (.cons (.var 1) .nil))) .nil)))))
  .skip))
  (.seq (.ret (.var 1))
  .skip)))
noncomputable def b_423 : MS := (.seq (.ite (.and (.e (.prim .eq (.cons (.prim .idx (.cons (.var 0) (.cons (.int (0)) .nil))) (.cons (.str "s") .nil)))) (.e (.prim .eq (.cons (.prim .idx (.cons (.var 0) (.cons (.int (1)) .nil))) (.cons (.int (1)) .nil))))) (.seq (.ret (.prim .add (.cons (.call 423 (.cons (.prim .idx (.cons (.prim .idx (.cons (.var 0) (.cons (.int (2)) .nil))) (.cons (.int (0)) .nil))) .nil)) (.cons (.call 423 (.cons (.prim .idx (.cons (.prim .idx (.cons (.var 0) (.cons (.int (2)) .nil))) (.cons (.int (1)) .nil))) .nil)) .nil))))
  .skip) .skip)
  (.seq (.ret (.list (.cons (.var 0) .nil)))
  .skip))
noncomputable def b_430 : MS := (.seq (.ite (.e (.prim .eq (.cons (.prim .idx (.cons (.var 0) (.cons (.int (0)) .nil))) (.cons (.str "v") .nil)))) (.seq (.ret (.list (.cons (.prim .idx (.cons (.var 0) (.cons (.int (1)) .nil))) .nil)))
  .skip) .skip)
  (.seq (.ite (.e (.prim .ne (.cons (.prim .idx (.cons (.var 0) (.cons (.int (0)) .nil))) (.cons (.str "s") .nil)))) (.seq (.ret (.list .nil))
  .skip) .skip)
  (.seq (.assign (.var 1) (.list .nil))
  (.seq (.for 2 (.val (.prim .idx (.cons (.var 0) (.cons (.int (2)) .nil)))) (.seq (.augVar 1 (.call 430 (.cons (.var 2) .nil)))
  .skip))
  (.seq (.ret (.var 1))
  .skip)))))
noncomputable def b_437 : MS := (.seq (.ite (.e (.prim .eq (.cons (.prim .idx (.cons (.var 1) (.cons (.int (0)) .nil))) (.cons (.str "more") .nil)))) (.seq (.assign (.var 4) (.ite (.e (.prim .eq (.cons (.prim .idx (.cons (.prim .idx (.cons (.var 1) (.cons (.int (1)) .nil))) (.cons (.int (0)) .nil))) (.cons (.str "s") .nil)))) (.prim .idx (.cons (.prim .idx (.cons (.var 1) (.cons (.int (1)) .nil))) (.cons (.int (2)) .nil))) (.tup .nil)))
  (.seq (.assign (.var 5) (.ite (.e (.prim .eq (.cons (.prim .idx (.cons (.prim .idx (.cons (.var 1) (.cons (.int (1)) .nil))) (.cons (.int (0)) .nil))) (.cons (.str "s") .nil)))) (.meth (.var 0) 12 (.cons (.prim .idx (.cons (.prim .idx (.cons (.var 1) (.cons (.int (1)) .nil))) (.cons (.int (1)) .nil))) .nil)) (.prim .idx (.cons (.prim .idx (.cons (.var 1) (.cons (.int (1)) .nil))) (.cons (.int (1)) .nil)))))
  (.seq (.ret (.tup (.cons (.str "s") (.cons (.meth (.var 0) 10 (.cons (.var 5) (.cons (.prim .add (.cons (.prim .len (.cons (.var 4) .nil)) (.cons (.int (2)) .nil))) .nil))) (.cons (.prim .add (.cons (.var 4) (.cons (.tup (.cons (.var 2) (.cons (.var 3) .nil))) .nil))) .nil)))))
  .skip))) .skip)
  (.seq (.ite (.e (.prim .eq (.cons (.prim .idx (.cons (.var 1) (.cons (.int (0)) .nil))) (.cons (.str "phrase") .nil)))) (.seq (.ret (.tup (.cons (.str "s") (.cons (.meth (.var 0) 11 (.cons (.str "phrase") (.cons (.int (3)) .nil))) (.cons (.tup (.cons (.prim .idx (.cons (.var 1) (.cons (.int (1)) .nil))) (.cons (.var 2) (.cons (.var 3) .nil)))) .nil)))))
  .skip) .skip)
  (.seq (.ret (.tup (.cons (.str "s") (.cons (.int (10)) (.cons (.tup (.cons (.var 2) (.cons (.call 399 (.cons (.prim .idx (.cons (.var 1) (.cons (.int (1)) .nil))) (.cons (.var 3) .nil))) .nil))) .nil)))))
  .skip)))
noncomputable def b_444 : MS := (.seq (.ite (.e (.prim .ne (.cons (.prim .idx (.cons (.var 1) (.cons (.int (0)) .nil))) (.cons (.str "text") .nil)))) (.seq (.ret (.tup (.cons (.prim .idx (.cons (.prim .idx (.cons (.var 0) (.cons (.int (2)) .nil))) (.cons (.int (-2)) .nil))) (.cons (.prim .idx (.cons (.prim .idx (.cons (.var 0) (.cons (.int (2)) .nil))) (.cons (.int (-1)) .nil))) .nil))))
  .skip) .skip)
  (.seq (.assign (.var 2) (.prim .idx (.cons (.prim .idx (.cons (.var 0) (.cons (.int (2)) .nil))) (.cons (.int (1)) .nil))))
  (.seq (.for 3 (.val (.prim .idx (.cons (.var 1) (.cons (.int (1)) .nil)))) (.seq (.ite (.or (.e (.prim .ne (.cons (.prim .idx (.cons (.var 2) (.cons (.int (0)) .nil))) (.cons (.str "s") .nil)))) (.e (.prim .ne (.cons (.prim .idx (.cons (.var 2) (.cons (.int (1)) .nil))) (.cons (.int (0)) .nil))))) (.seq (.ret (.tup (.cons (.prim .idx (.cons (.prim .idx (.cons (.var 0) (.cons (.int (2)) .nil))) (.cons (.int (0)) .nil))) (.cons .none .nil))))
  .skip) .skip)
  (.seq (.assign (.var 2) (.prim .idx (.cons (.prim .idx (.cons (.var 2) (.cons (.int (2)) .nil))) (.cons (.int (1)) .nil))))
  .skip)))
  (.seq (.ret (.tup (.cons (.prim .idx (.cons (.prim .idx (.cons (.var 0) (.cons (.int (2)) .nil))) (.cons (.int (0)) .nil))) (.cons (.var 2) .nil))))
  .skip))))
noncomputable def b_449 : MS := (.seq (.assign (.var 1) (.call 378 (.cons (.var 0) .nil)))
  (.seq (.assign (.var 2) (.new 154 .nil))
  (.seq (.assign (.var 3) (.call 404 (.cons (.var 1) (.cons (.var 2) (.cons (.str "r") .nil)))))
  (.seq (.assign (.var 4) .none)
  (.seq (.ite (.e (.prim .eq (.cons (.call 385 (.cons (.var 1) (.cons (.int (4)) .nil))) (.cons (.int (3)) .nil)))) (.seq (.assign (.var 4) (.comp (.call 392 (.cons (.var 1) (.cons (.var 2) .nil))) 50 (.range (.cons (.call 385 (.cons (.var 1) (.cons (.int (3)) .nil))) .nil)) .tt))
  .skip) .skip)
  (.seq (.assign (.var 6) (.list .nil))
  (.seq (.assign (.var 7) (.list .nil))
  (.seq (.for 5 (.range (.cons (.prim .add (.cons (.int (1)) (.cons (.call 385 (.cons (.var 1) (.cons (.int (6)) .nil))) .nil))) .nil)) (.seq (.assign (.tup [8, 9]) (.call 409 (.cons (.var 1) (.cons (.var 2) .nil))))
  (.seq (.expr (.bm .append (.var 6) (.cons (.var 8) .nil)))
  (.seq (.augVar 7 (.var 9))
  .skip))))
  (.seq (.assign (.var 10) (.call 385 (.cons (.var 1) (.cons (.prim .len (.cons (.var 6) .nil)) .nil))))
  (.seq (.assign (.var 11) (.var 6))
  (.seq (.ite (.e (.prim .gt (.cons (.var 10) (.cons (.int (1)) .nil)))) (.seq (.assign (.var 11) (.prim .add (.cons (.list (.cons (.call 416 (.cons (.prim .slice (.cons (.var 6) (.cons .none (.cons (.var 10) (.cons .none .nil))))) .nil)) .nil)) (.cons (.prim .slice (.cons (.var 6) (.cons (.var 10) (.cons .none (.cons .none .nil))))) .nil))))
  .skip) .skip)
  (.seq (.assign (.var 12) (.var 3))
  (.seq (.ite (.e (.prim .isNot (.cons (.var 4) (.cons .none .nil)))) (.seq (.assign (.var 12) (.tup (.cons (.str "s") (.cons (.int (1)) (.cons (.tup (.cons (.var 3) (.cons (.call 399 (.cons (.var 4) (.cons (.tup (.cons (.str "a") (.cons (.int (0)) .nil))) .nil))) .nil))) .nil)))))
  .skip) .skip)
  (.seq (.assign (.var 13) (.tup (.cons (.str "s") (.cons (.int (8)) (.cons (.tup (.cons (.var 12) (.cons (.call 416 (.cons (.var 11) .nil)) .nil))) .nil)))))
  (.seq (.assign (.var 14) (.call 336 (.cons (.var 2) (.cons (.var 13) (.cons (.new 290 (.cons (.call 385 (.cons (.var 1) (.cons (.int (4)) .nil))) .nil)) .nil)))))
  (.seq (.ite (.or (.e (.prim .ne (.cons (.prim .idx (.cons (.var 14) (.cons (.int (0)) .nil))) (.cons (.str "s") .nil)))) (.e (.prim .ne (.cons (.prim .idx (.cons (.var 14) (.cons (.int (1)) .nil))) (.cons (.int (5)) .nil))))) (.seq (.ret (.bool false))
  .skip) .skip)
  (.seq (.assign (.tup [15, 16]) (.prim .idx (.cons (.var 14) (.cons (.int (2)) .nil))))
  (.seq (.ite (.e (.prim .lt (.cons (.prim .len (.cons (.prim .idx (.cons (.var 15) (.cons (.int (2)) .nil))) .nil)) (.cons (.int (2)) .nil)))) (.seq (.ret (.bool false))
  .skip) .skip)
  (.seq (.assign (.tup [17, 18]) (.prim .slice (.cons (.prim .idx (.cons (.var 15) (.cons (.int (2)) .nil))) (.cons (.int (-2)) (.cons .none (.cons .none .nil))))))
  (.seq (.ite (.e (.prim .ne (.cons (.var 15) (.cons (.call 437 (.cons (.var 2) (.cons (.tup (.cons (.str "more") (.cons (.var 3) .nil))) (.cons (.var 17) (.cons (.var 18) .nil))))) .nil)))) (.seq (.ret (.bool false))
  .skip) .skip)
  (.seq (.assign (.var 19) (.call 423 (.cons (.var 16) .nil)))
  (.seq (.ite (.e (.prim .ne (.cons (.prim .len (.cons (.var 19) .nil)) (.cons (.prim .add (.cons (.prim .len (.cons (.var 7) .nil)) (.cons (.ite (.e (.prim .is (.cons (.var 4) (.cons .none .nil)))) (.int (0)) (.int (1))) .nil))) .nil)))) (.seq (.ret (.bool false))
  .skip) .skip)
  (.seq (.assign (.var 20) (.list (.cons (.var 17) .nil)))
  (.seq (.for 21 (.range (.cons (.prim .len (.cons (.var 7) .nil)) .nil)) (.seq (.ite (.e (.prim .eq (.cons (.prim .idx (.cons (.prim .idx (.cons (.var 7) (.cons (.var 21) .nil))) (.cons (.int (0)) .nil))) (.cons (.str "plain") .nil)))) (.seq (.ite (.e (.prim .ne (.cons (.prim .idx (.cons (.var 19) (.cons (.var 21) .nil))) (.cons (.prim .idx (.cons (.prim .idx (.cons (.var 7) (.cons (.var 21) .nil))) (.cons (.int (1)) .nil))) .nil)))) (.seq (.ret (.bool false))
  .skip) .skip)
  (.seq .cont
  .skip)) .skip)
  (.seq (.ite (.or (.e (.prim .ne (.cons (.prim .idx (.cons (.prim .idx (.cons (.var 19) (.cons (.var 21) .nil))) (.cons (.int (0)) .nil))) (.cons (.str "s") .nil)))) (.e (.prim .lt (.cons (.prim .len (.cons (.prim .idx (.cons (.prim .idx (.cons (.var 19) (.cons (.var 21) .nil))) (.cons (.int (2)) .nil))) .nil)) (.cons (.int (2)) .nil))))) (.seq (.ret (.bool false))
  .skip) .skip)
  (.seq (.assign (.tup [22, 23]) (.call 444 (.cons (.prim .idx (.cons (.var 19) (.cons (.var 21) .nil))) (.cons (.prim .idx (.cons (.var 7) (.cons (.var 21) .nil))) .nil))))
  (.seq (.ite (.or (.e (.prim .ne (.cons (.var 22) (.cons (.prim .idx (.cons (.var 20) (.cons (.int (-1)) .nil))) .nil)))) (.or (.e (.prim .is (.cons (.var 23) (.cons .none .nil)))) (.e (.prim .ne (.cons (.prim .idx (.cons (.var 19) (.cons (.var 21) .nil))) (.cons (.call 437 (.cons (.var 2) (.cons (.prim .idx (.cons (.var 7) (.cons (.var 21) .nil))) (.cons (.var 22) (.cons (.var 23) .nil))))) .nil)))))) (.seq (.ret (.bool false))
  .skip) .skip)
  (.seq (.expr (.bm .append (.var 20) (.cons (.var 23) .nil)))
  .skip))))))
  (.seq (.ite (.e (.prim .is (.cons (.var 4) (.cons .none .nil)))) (.seq (.ite (.e (.prim .ne (.cons (.bm .pop (.var 20) .nil) (.cons (.var 18) .nil)))) (.seq (.ret (.bool false))
  .skip) .skip)
  .skip) (.seq (.ite (.e (.prim .ne (.cons (.prim .idx (.cons (.var 19) (.cons (.int (-1)) .nil))) (.cons (.tup (.cons (.str "s") (.cons (.int (10)) (.cons (.tup (.cons (.var 18) (.cons (.call 399 (.cons (.var 4) (.cons (.prim .idx (.cons (.var 20) (.cons (.int (-1)) .nil))) .nil))) .nil))) .nil)))) .nil)))) (.seq (.ret (.bool false))
  .skip) .skip)
  .skip))
  (.seq (.expr (.bm .append (.var 20) (.cons (.var 18) .nil)))
  (.seq (.assign (.var 24) (.comp (.prim .idx (.cons (.var 50) (.cons (.int (1)) .nil))) 50 (.val (.var 20)) (.e (.prim .eq (.cons (.prim .idx (.cons (.var 50) (.cons (.int (0)) .nil))) (.cons (.str "v") .nil))))))
  (.seq (.ite (.or (.e (.prim .ne (.cons (.prim .len (.cons (.var 24) .nil)) (.cons (.prim .len (.cons (.var 20) .nil)) .nil)))) (.e (.prim .ne (.cons (.prim .sorted (.cons (.var 24) .nil)) (.cons (.prim .sorted (.cons (.uniq (.var 24)) .nil)) .nil))))) (.seq (.ret (.bool false))
  .skip) .skip)
  (.seq (.ret (.prim .eq (.cons (.comp (.var 50) 50 (.val (.var 24)) (.e (.prim .inn (.cons (.var 50) (.cons (.call 430 (.cons (.var 13) .nil)) .nil))))) (.cons (.list .nil) .nil))))
  .skip)))))))))))))))))))))))))))))

structure TabP (P : Pg) : Prop where
  f60 : P.fn 60 = some ⟨0, b_60⟩
  f67 : P.fn 67 = some ⟨0, b_67⟩
  f81 : P.fn 81 = some ⟨1, b_81⟩
  f88 : P.fn 88 = some ⟨2, b_88⟩
  f95 : P.fn 95 = some ⟨2, b_95⟩
  f102 : P.fn 102 = some ⟨3, b_102⟩
  f109 : P.fn 109 = some ⟨3, b_109⟩
  f116 : P.fn 116 = some ⟨2, b_116⟩
  f123 : P.fn 123 = some ⟨2, b_123⟩
  f166 : P.fn 166 = some ⟨1, b_166⟩
  f173 : P.fn 173 = some ⟨1, b_173⟩
  f180 : P.fn 180 = some ⟨2, b_180⟩
  f188 : P.fn 188 = some ⟨2, b_188⟩
  f195 : P.fn 195 = some ⟨1, b_195⟩
  f202 : P.fn 202 = some ⟨1, b_202⟩
  f209 : P.fn 209 = some ⟨2, b_209⟩
  f216 : P.fn 216 = some ⟨1, b_216⟩
  f223 : P.fn 223 = some ⟨1, b_223⟩
  f230 : P.fn 230 = some ⟨1, b_230⟩
  f237 : P.fn 237 = some ⟨1, b_237⟩
  f280 : P.fn 280 = some ⟨2, b_280⟩
  f287 : P.fn 287 = some ⟨1, b_287⟩
  f301 : P.fn 301 = some ⟨2, b_301⟩
  f315 : P.fn 315 = some ⟨3, b_315⟩
  f322 : P.fn 322 = some ⟨1, b_322⟩
  f336 : P.fn 336 = some ⟨3, b_336⟩
  f343 : P.fn 343 = some ⟨4, b_343⟩
  f350 : P.fn 350 = some ⟨4, b_350⟩
  f357 : P.fn 357 = some ⟨5, b_357⟩
  f364 : P.fn 364 = some ⟨6, b_364⟩
  f371 : P.fn 371 = some ⟨5, b_371⟩
  i154 : P.init 154 = some 81
  i290 : P.init 290 = some 280
  i325 : P.init 325 = some 315
  m8 : P.meth 154 8 = some 88
  m9 : P.meth 154 9 = some 95
  m10 : P.meth 154 10 = some 102
  m11 : P.meth 154 11 = some 109
  m12 : P.meth 154 12 = some 116
  m13 : P.meth 154 13 = some 123
  m14 : P.meth 290 14 = some 287
  m15 : P.meth 325 15 = some 322
  s0 : P.fld 154 0 = true
  s1 : P.fld 154 1 = true
  s2 : P.fld 154 2 = true
  s3 : P.fld 154 3 = true
  s4 : P.fld 290 4 = true
  s5 : P.fld 325 5 = true
  s6 : P.fld 325 6 = true

structure Tab2 (P : Pg) : Prop extends TabP P where
  f378 : P.fn 378 = some ⟨1, b_378⟩
  f385 : P.fn 385 = some ⟨2, b_385⟩
  f392 : P.fn 392 = some ⟨2, b_392⟩
  f399 : P.fn 399 = some ⟨2, b_399⟩
  f404 : P.fn 404 = some ⟨3, b_404⟩
  f409 : P.fn 409 = some ⟨2, b_409⟩
  f416 : P.fn 416 = some ⟨1, b_416⟩
  f423 : P.fn 423 = some ⟨1, b_423⟩
  f430 : P.fn 430 = some ⟨1, b_430⟩
  f437 : P.fn 437 = some ⟨4, b_437⟩
  f444 : P.fn 444 = some ⟨2, b_444⟩
  f449 : P.fn 449 = some ⟨1, b_449⟩

theorem get_set_eq {σ : St} {k : Nat} {o o' : AObj} (h : σ[k]? = some o) : (σ.set k o')[k]? = some o' := List.getElem?_set_self (List.getElem?_eq_some_iff.mp h).1
theorem get_set_ne {σ : St} {j k : Nat} {o' o : AObj} (h : k ≠ j) (e : σ[j]? = some o) : (σ.set k o')[j]? = some o := (List.getElem?_set_ne h).trans e
theorem get_app {σ l : St} {k : Nat} {o : AObj} (h : σ[k]? = some o) : (σ ++ l)[k]? = some o := by
  rw [List.getElem?_append_left (List.getElem?_eq_some_iff.mp h).1]; exact h
theorem get_new {σ : St} {o : AObj} : (σ ++ [o])[σ.length]? = some o := by simp


theorem bmOk_get {σ : St} {k : Nat} {kvs : List (PV × PV)} (h : σ[k]? = some (.dict kvs)) : bmOk .get (.obj k) σ := by
  exact ⟨k, kvs, rfl, h, trivial⟩
theorem bmOk_list {σ : St} {k : Nat} {xs : List PV} {m : BM} (h : σ[k]? = some (.list xs)) (hm : m ≠ .get) : bmOk m (.obj k) σ := by
  cases m <;> first | exact ⟨k, xs, rfl, h, trivial⟩ | exact absurd rfl hm
theorem of_ite_pos {c : Prop} [inst : Decidable c] {α β : Prop} (h : c) (q : α) : @ite _ c inst α β := by rw [if_pos h]; exact q
theorem of_ite_neg {c : Prop} [inst : Decidable c] {α β : Prop} (h : ¬c) (q : β) : @ite _ c inst α β := by rw [if_neg h]; exact q

theorem inS_dict {σ : St} {k : Nat} {kvs : List (PV × PV)} {x : PV} (h : σ[k]? = some (.dict kvs)) (hk : keysLike x kvs = true) : inS σ x (.obj k) = some (dget x kvs).isSome := (congrArg (fun o => Option.bind o (inA x)) h).trans (if_pos hk)
theorem inS_list {σ : St} {k : Nat} {ys : List PV} {x : PV} (h : σ[k]? = some (.list ys)) : inS σ x (.obj k) = anyL (fun y => eqv eqDepth y x) ys := congrArg (fun o => Option.bind o (inA x)) h
theorem truthy_list {σ : St} {k : Nat} {xs : List PV} (h : σ[k]? = some (.list xs)) : truthy σ (.obj k) = some (!xs.isEmpty) := congrArg (Option.map fun (xs : List PV) => !xs.isEmpty) (lst_of h)

noncomputable def seqK (C : CT) (P : Pg) (b : MS) (Q : SQ) : SQ := seqF (fun lm σ => wps C P b lm σ Q) Q
noncomputable def methK (C : CT) (P : Pg) (m : Nat) (es : MEs) (lm : LM) (Q : EQ) (o : PV) (σ : St) : Prop := insB σ o fun k c fs => optB (P.meth c m) fun f => fs.lookup m = Option.none ∧ wpes C P es lm σ fun vs σ₂ => C f (.obj k :: vs) σ₂ Q
noncomputable def orK (C : CT) (P : Pg) (b : ME) (lm : LM) (Q : EQ) (v : PV) (σ : St) : Prop := optB (truthy σ v) fun t => if t then Q v σ else wpe C P b lm σ Q

noncomputable def uniqK (Q : EQ) (v : PV) (σ : St) : Prop := lstB σ v fun _ xs => optB (ints? xs) fun ns => ns.length ≤ 1000 ∧ Q (.obj σ.length) (σ ++ [.list ((uniqI ns).map .int)])
noncomputable def kRet (Q : SQ) (lm : LM) : EQ := fun v σ => Q (.ret v) lm σ
noncomputable def kExp (Q : SQ) (lm : LM) : EQ := fun _ σ => Q .next lm σ
noncomputable def kNx (Q : SQ) : LM → St → Prop := fun lm σ => Q .next lm σ
noncomputable def kAsg (C : CT) (P : Pg) (t : TG) (Q : SQ) (lm : LM) : EQ := fun v σ => wptg C P t v lm σ (kNx Q)
noncomputable def kSite (C : CT) (P : Pg) (a b : MS) (lm : LM) (Q : SQ) : Bool → St → Prop := fun t σ => if t then wps C P a lm σ Q else wps C P b lm σ Q
noncomputable def kAnd (C : CT) (P : Pg) (b : MT) (lm : LM) (Q : Bool → St → Prop) : Bool → St → Prop := fun t σ => if t then wpt C P b lm σ Q else Q false σ
noncomputable def kOr (C : CT) (P : Pg) (b : MT) (lm : LM) (Q : Bool → St → Prop) : Bool → St → Prop := fun t σ => if t then Q true σ else wpt C P b lm σ Q
noncomputable def kNot (Q : Bool → St → Prop) : Bool → St → Prop := fun b σ => Q (!b) σ
noncomputable def kIte (C : CT) (P : Pg) (a b : ME) (lm : LM) (Q : EQ) : Bool → St → Prop := fun t σ => if t then wpe C P a lm σ Q else wpe C P b lm σ Q
noncomputable def kCall (C : CT) (f : Addr) (Q : EQ) : List PV → St → Prop := fun vs σ => C f vs σ Q
noncomputable def kCons2 (v : PV) (Q : List PV → St → Prop) : List PV → St → Prop := fun vs σ => Q (v :: vs) σ
noncomputable def kCons1 (C : CT) (P : Pg) (es : MEs) (lm : LM) (Q : List PV → St → Prop) : EQ := fun v σ => wpes C P es lm σ (kCons2 v Q)
noncomputable def kP1 (p : Prim) (Q : EQ) : EQ := fun x σ => prim p [x] σ Q
noncomputable def kP2b (p : Prim) (x : PV) (Q : EQ) : EQ := fun y σ => prim p [x, y] σ Q
noncomputable def kP2 (C : CT) (P : Pg) (p : Prim) (b : ME) (lm : LM) (Q : EQ) : EQ := fun x σ => wpe C P b lm σ (kP2b p x Q)
noncomputable def kPn (p : Prim) (Q : EQ) : List PV → St → Prop := fun vs σ => prim p vs σ Q
noncomputable def kTup (Q : EQ) : List PV → St → Prop := fun vs σ => vs.length ≤ big ∧ Q (.tup vs) σ
noncomputable def kList (Q : EQ) : List PV → St → Prop := fun vs σ => vs.length ≤ big ∧ Q (.obj σ.length) (σ ++ [.list vs])
noncomputable def kBm2 (m : BM) (o : PV) (Q : EQ) : List PV → St → Prop := fun vs σ => bmeth m o vs σ Q
noncomputable def kBm (C : CT) (P : Pg) (m : BM) (es : MEs) (lm : LM) (Q : EQ) : EQ := fun o σ => bmOk m o σ ∧ wpes C P es lm σ (kBm2 m o Q)
noncomputable def kMeth (C : CT) (f : Addr) (k : Nat) (Q : EQ) : List PV → St → Prop := fun vs σ => C f (.obj k :: vs) σ Q
noncomputable def kNew (n : Nat) (Q : EQ) : EQ := fun r σ => r = .none ∧ Q (.obj n) σ
noncomputable def kTA2 (Q : LM → St → Prop) (lm : LM) : St → Prop := fun σ => Q lm σ
noncomputable def kTA (P : Pg) (a : Nat) (v : PV) (Q : LM → St → Prop) (lm : LM) : EQ := fun o σ => setAttr' P.fld o a v σ (kTA2 Q lm)
noncomputable def kTI2 (o v : PV) (Q : LM → St → Prop) (lm : LM) : EQ := fun iv σ => setIdx o iv v σ (kTA2 Q lm)
noncomputable def kTI (C : CT) (P : Pg) (i : ME) (v : PV) (Q : LM → St → Prop) (lm : LM) : EQ := fun o σ => wpe C P i lm σ (kTI2 o v Q lm)
noncomputable def kFor (C : CT) (P : Pg) (b : MS) (x : Nat) (lm : LM) (Q : SQ) : List PV → (St → Prop) → St → Prop := fun ys chk σ => forW (wps C P b) x chk ys lm σ Q
noncomputable def kLoop (B : LM → St → SQ → Prop) (lm : LM) (I : Nat → LM → St → Prop) (n : Nat) (Q : SQ) : Bool → St → Prop := fun t σ => if t then B lm σ (loopK I n Q) else Q .next lm σ
section
variable {C : CT} {P : Pg} {lm : LM} {σ : St}
section
variable {Q : Bool → St → Prop}
theorem r_truB {b : Bool} (q : Q b σ) : truK Q (.bool b) σ := ⟨b, rfl, q⟩
theorem r_tru {v : PV} {t : Bool} (h : truthy σ v = some t) (q : Q t σ) : truK Q v σ := ⟨t, h, q⟩
theorem r_truL {k : Nat} {xs : List PV} (h : σ[k]? = some (.list xs)) (q : Q (!xs.isEmpty) σ) : truK Q (.obj k) σ := ⟨_, congrArg (Option.map fun (xs : List PV) => !xs.isEmpty) (lst_of h), q⟩
theorem r_tt (q : Q true σ) : wpt C P .tt lm σ Q := q
theorem r_te {e : ME} (q : wpe C P e lm σ (truK Q)) : wpt C P (.e e) lm σ Q := q
theorem r_tnot {t : MT} (q : wpt C P t lm σ (kNot Q)) : wpt C P (.not t) lm σ Q := q
theorem r_tand {a b : MT} (q : wpt C P a lm σ (kAnd C P b lm Q)) : wpt C P (.and a b) lm σ Q := q
theorem r_tor {a b : MT} (q : wpt C P a lm σ (kOr C P b lm Q)) : wpt C P (.or a b) lm σ Q := q
end
section
variable {Q : SQ}
set_option tactic.hygienic true in
theorem r_seqN {b : MS} (q : wps C P b lm σ Q) : seqK C P b Q .next lm σ := q
theorem r_seqR {b : MS} {v : PV} (q : Q (.ret v) lm σ) : seqK C P b Q (.ret v) lm σ := q
theorem r_seqB {b : MS} (q : Q .brk lm σ) : seqK C P b Q .brk lm σ := q
theorem r_seqC {b : MS} (q : Q .cont lm σ) : seqK C P b Q .cont lm σ := q
set_option tactic.hygienic true in
theorem r_forN {K : LM → St → Prop} (q : K lm σ) : forK K Q .next lm σ := q
theorem r_forC {K : LM → St → Prop} (q : K lm σ) : forK K Q .cont lm σ := q
set_option tactic.hygienic true in
theorem r_forB {K : LM → St → Prop} (q : Q .next lm σ) : forK K Q .brk lm σ := q
theorem r_forR {K : LM → St → Prop} {v : PV} (q : Q (.ret v) lm σ) : forK K Q (.ret v) lm σ := q
set_option tactic.hygienic true in
theorem r_loopN {I : Nat → LM → St → Prop} {n : Nat} (q : ∃ m, m < n ∧ I m lm σ) : loopK I n Q .next lm σ := q
theorem r_loopC {I : Nat → LM → St → Prop} {n : Nat} (q : ∃ m, m < n ∧ I m lm σ) : loopK I n Q .cont lm σ := q
set_option tactic.hygienic true in
theorem r_loopB {I : Nat → LM → St → Prop} {n : Nat} (q : Q .next lm σ) : loopK I n Q .brk lm σ := q
theorem r_loopR {I : Nat → LM → St → Prop} {n : Nat} {v : PV} (q : Q (.ret v) lm σ) : loopK I n Q (.ret v) lm σ := q
set_option tactic.hygienic true in
theorem r_addK {ov iv : PV} {a b : Int} (q : setIdx ov iv (.int (a + b)) σ fun σ₅ => Q .next lm σ₅) : addK lm Q ov iv (.int a) (.int b) σ := ⟨a, b, rfl, rfl, q⟩
set_option tactic.hygienic true in
theorem r_skip (q : Q .next lm σ) : wps C P .skip lm σ Q := q
theorem r_brk (q : Q .brk lm σ) : wps C P .brk lm σ Q := q
theorem r_cont (q : Q .cont lm σ) : wps C P .cont lm σ Q := q
theorem r_ret {e : ME} (q : wpe C P e lm σ (kRet Q lm)) : wps C P (.ret e) lm σ Q := q
theorem r_expr {e : ME} (q : wpe C P e lm σ (kExp Q lm)) : wps C P (.expr e) lm σ Q := q
theorem r_assign {t : TG} {e : ME} (q : wpe C P e lm σ (kAsg C P t Q lm)) : wps C P (.assign t e) lm σ Q := q
set_option tactic.hygienic true in
theorem r_augVar {i : Nat} {e : ME} {old : PV} (h : lm i = some old) (q : wpe C P e lm σ fun v σ₁ => augW old v σ₁ fun r σ₂ => Q .next (upd lm i r) σ₂) : wps C P (.augVar i e) lm σ Q := ⟨old, h, q⟩
theorem r_augIdx {o i e : ME} (q : wpe C P o lm σ fun ov σ₁ => wpe C P i lm σ₁ fun iv σ₂ => prim .idx [ov, iv] σ₂ fun old σ₃ => wpe C P e lm σ₃ fun v σ₄ => addK lm Q ov iv old v σ₄) : wps C P (.augIdx o i e) lm σ Q := q
theorem r_site {c : MT} {a b : MS} (q : wpt C P c lm σ (kSite C P a b lm Q)) : wps C P (.ite c a b) lm σ Q := q
theorem r_loop {c : MT} {b : MS} (q : loopW (wpt C P c) (wps C P b) lm σ Q) : wps C P (.loop c b) lm σ Q := q
theorem r_for {x : Nat} {it : MI} {b : MS} (q : wpi C P it lm σ (kFor C P b x lm Q)) : wps C P (.for x it b) lm σ Q := q
theorem r_seq {a b : MS} (q : wps C P a lm σ (seqK C P b Q)) : wps C P (.seq a b) lm σ Q := q
theorem loop_rule {T : LM → St → (Bool → St → Prop) → Prop} {B : LM → St → SQ → Prop} (I : Nat → LM → St → Prop) (h0 : ∃ n, I n lm σ) (hs : ∀ n lm σ, I n lm σ → T lm σ (kLoop B lm I n Q)) : loopW T B lm σ Q := ⟨I, h0, hs⟩
end
section
variable {Q : EQ}
theorem r_retR {v : PV} (q : Q v σ) : retK Q (.ret v) lm σ := q
set_option tactic.hygienic true in
theorem r_retN (q : Q .none σ) : retK Q .next lm σ := q
theorem r_newK {c f : Addr} {vs : List PV} (h : P.init c = some f) (q : C f (.obj σ.length :: vs) (σ ++ [.inst c []]) (kNew σ.length Q)) : newK P C c Q vs σ := ⟨f, h, q⟩
theorem r_methK {m : Nat} {es : MEs} {k : Nat} {c f : Addr} {fs : List (Nat × PV)} (h : σ[k]? = some (.inst c fs)) (h2 : P.meth c m = some f) (h3 : fs.lookup m = none) (q : wpes C P es lm σ (kMeth C f k Q)) : methK C P m es lm Q (.obj k) σ := ⟨k, c, fs, rfl, h, f, h2, h3, q⟩
theorem r_attrK {a : Nat} {k : Nat} {c : Addr} {fs : List (Nat × PV)} {v : PV} (h : σ[k]? = some (.inst c fs)) (h2 : fs.lookup a = some v) (h3 : P.fld c a = true) (q : Q v σ) : attrK P a Q (.obj k) σ := ⟨k, c, fs, rfl, h, v, h2, h3, q⟩
theorem r_orK {b : ME} {v : PV} {t : Bool} (h : truthy σ v = some t) (q : if t then Q v σ else wpe C P b lm σ Q) : orK C P b lm Q v σ := ⟨t, h, q⟩
theorem r_orB {b : ME} {t : Bool} (q : if t then Q (.bool t) σ else wpe C P b lm σ Q) : orK C P b lm Q (.bool t) σ := ⟨t, rfl, q⟩
theorem r_none (q : Q .none σ) : wpe C P .none lm σ Q := q
theorem r_bool {b : Bool} (q : Q (.bool b) σ) : wpe C P (.bool b) lm σ Q := q
theorem r_int {i : Int} (q : Q (.int i) σ) : wpe C P (.int i) lm σ Q := q
theorem r_str {x : Str} (q : Q (.str x) σ) : wpe C P (.str x) lm σ Q := q
theorem r_var {i : Nat} {v : PV} (h : lm i = some v) (q : Q v σ) : wpe C P (.var i) lm σ Q := ⟨v, h, q⟩
theorem r_tup {es : MEs} (q : wpes C P es lm σ (kTup Q)) : wpe C P (.tup es) lm σ Q := q
theorem r_list {es : MEs} (q : wpes C P es lm σ (kList Q)) : wpe C P (.list es) lm σ Q := q
theorem r_dict0 (q : Q (.obj σ.length) (σ ++ [.dict []])) : wpe C P .dict0 lm σ Q := q
theorem r_call {f : Addr} {es : MEs} (q : wpes C P es lm σ (kCall C f Q)) : wpe C P (.call f es) lm σ Q := q
theorem r_new {c : Addr} {es : MEs} (q : wpes C P es lm σ (newK P C c Q)) : wpe C P (.new c es) lm σ Q := q
theorem r_meth {e : ME} {m : Nat} {es : MEs} (q : wpe C P e lm σ (methK C P m es lm Q)) : wpe C P (.meth e m es) lm σ Q := q
theorem r_bm {m : BM} {e : ME} {es : MEs} (q : wpe C P e lm σ (kBm C P m es lm Q)) : wpe C P (.bm m e es) lm σ Q := q
theorem r_prim {p : Prim} {es : MEs} (q : wpes C P es lm σ (kPn p Q)) : wpe C P (.prim p es) lm σ Q := q
theorem r_attr {e : ME} {a : Nat} (q : wpe C P e lm σ (attrK P a Q)) : wpe C P (.attr e a) lm σ Q := q
theorem r_or {a b : ME} (q : wpe C P a lm σ (orK C P b lm Q)) : wpe C P (.or a b) lm σ Q := q
theorem r_ite {c : MT} {a b : ME} (q : wpt C P c lm σ (kIte C P a b lm Q)) : wpe C P (.ite c a b) lm σ Q := q
theorem r_comp {elt : ME} {x : Nat} {it : MI} {cond : MT} (q : wpi C P it lm σ fun ys chk σ₁ => compW (wpt C P cond) (wpe C P elt) x chk lm ys [] σ₁ fun vs σ₂ => Q (.obj σ₂.length) (σ₂ ++ [.list vs])) : wpe C P (.comp elt x it cond) lm σ Q := q
theorem r_uniq {e : ME} (q : wpe C P e lm σ (uniqK Q)) : wpe C P (.uniq e) lm σ Q := q
theorem r_uniqK {k : Nat} {xs : List PV} {ns : List Int} (hk : σ[k]? = some (.list xs)) (h : ints? xs = some ns) (hn : ns.length ≤ 1000) (q : Q (.obj σ.length) (σ ++ [.list ((uniqI ns).map .int)])) : uniqK Q (.obj k) σ := ⟨k, xs, rfl, hk, ns, h, hn, q⟩
theorem p_cut2 {t : PV} {xs : List PV} (ht : t = .tup xs) (h : 2 ≤ xs.length) (q : Q (.tup (xs.drop (xs.length - 2))) σ) : prim .slice [t, .int (-2), .none, .none] σ Q := ⟨rfl, .inl ⟨xs, ht, rfl, rfl, rfl, h, q⟩⟩
theorem p_idxS {s : Str} {n : Int} {c : Nat} (h : pyIdx s.cps.toList n = some c) (hb : s.cps.size ≤ big) (q : Q (.str ⟨#[c]⟩) σ) : prim .idx [.str s, .int n] σ Q := .inr (.inl ⟨s, n, rfl, rfl, c, h, hb, q⟩)
theorem p_sorted {k : Nat} {xs : List PV} {ns : List Int} (hk : σ[k]? = some (.list xs)) (h : ints? xs = some ns) (hl : ns.length < 64) (q : ∀ ms : List Int, ms.Perm ns → ms.Pairwise (· ≤ ·) → Q (.obj σ.length) (σ ++ [.list (ms.map .int)])) : prim .sorted [.obj k] σ Q := ⟨k, xs, rfl, hk, ns, h, hl, q⟩
theorem r_augL {k j : Nat} {xs ys : List PV} (hk : σ[k]? = some (.list xs)) (hj : σ[j]? = some (.list ys)) (hz : xs.length + ys.length ≤ big) (q : Q (.obj k) (σ.set k (.list (xs ++ ys)))) : augW (.obj k) (.obj j) σ Q := .inr ⟨k, xs, rfl, hk, j, ys, rfl, hj, hz, q⟩
theorem r_enil {Q : List PV → St → Prop} (q : Q [] σ) : wpes C P .nil lm σ Q := q
theorem r_econs {e : ME} {es : MEs} {Q : List PV → St → Prop} (q : wpe C P e lm σ (kCons1 C P es lm Q)) : wpes C P (.cons e es) lm σ Q := q
/- the built-in operations -/
theorem p_addI {a b : Int} (q : Q (.int (a + b)) σ) : prim .add [.int a, .int b] σ Q := .inl ⟨a, b, rfl, rfl, q⟩
theorem p_addIE {x y : PV} {a b : Int} (hx : x = .int a) (hy : y = .int b) (q : Q (.int (a + b)) σ) : prim .add [x, y] σ Q := .inl ⟨a, b, hx, hy, q⟩
theorem p_subE {x y : PV} {a b : Int} (hx : x = .int a) (hy : y = .int b) (q : Q (.int (a - b)) σ) : prim .sub [x, y] σ Q := ⟨a, b, hx, hy, q⟩
theorem p_ltE {x y : PV} {a b : Int} (hx : x = .int a) (hy : y = .int b) (q : Q (.bool (decide (a < b))) σ) : prim .lt [x, y] σ Q := ⟨a, b, hx, hy, q⟩
theorem p_leE {x y : PV} {a b : Int} (hx : x = .int a) (hy : y = .int b) (q : Q (.bool (decide (a ≤ b))) σ) : prim .le [x, y] σ Q := ⟨a, b, hx, hy, q⟩
theorem p_gtE {x y : PV} {a b : Int} (hx : x = .int a) (hy : y = .int b) (q : Q (.bool (decide (b < a))) σ) : prim .gt [x, y] σ Q := ⟨a, b, hx, hy, q⟩
theorem p_geE {x y : PV} {a b : Int} (hx : x = .int a) (hy : y = .int b) (q : Q (.bool (decide (b ≤ a))) σ) : prim .ge [x, y] σ Q := ⟨a, b, hx, hy, q⟩
theorem p_addT {x y : PV} {a b : List PV} (hx : x = .tup a) (hy : y = .tup b) (h : a.length + b.length ≤ big) (q : Q (.tup (a ++ b)) σ) : prim .add [x, y] σ Q := .inr (.inr ⟨a, hx, b, hy, h, q⟩)
theorem p_addL {a b : Nat} {xs ys : List PV} (hx : σ[a]? = some (.list xs)) (hy : σ[b]? = some (.list ys)) (h : xs.length + ys.length ≤ big) (q : Q (.obj σ.length) (σ ++ [.list (xs ++ ys)])) : prim .add [.obj a, .obj b] σ Q := .inr (.inl ⟨a, xs, rfl, hx, b, ys, rfl, hy, h, q⟩)
theorem p_sub {a b : Int} (q : Q (.int (a - b)) σ) : prim .sub [.int a, .int b] σ Q := ⟨a, b, rfl, rfl, q⟩
theorem p_mod {a b : Int} (h : 0 < b) (q : Q (.int (a % b)) σ) : prim .mod [.int a, .int b] σ Q := ⟨a, b, rfl, rfl, h, q⟩
theorem p_fdiv {a b : Int} (h : 0 < b ∧ b ≤ 1000000) (q : Q (.int (a / b)) σ) : prim .fdiv [.int a, .int b] σ Q := ⟨a, b, rfl, rfl, h, q⟩
theorem p_eq {a b : PV} {r : Bool} (h : eqS σ a b = some r) (q : Q (.bool r) σ) : prim .eq [a, b] σ Q := ⟨r, h, q⟩
theorem p_ne {a b : PV} {r : Bool} (h : eqS σ a b = some r) (q : Q (.bool (!r)) σ) : prim .ne [a, b] σ Q := ⟨r, h, q⟩
theorem p_lt {a b : Int} (q : Q (.bool (decide (a < b))) σ) : prim .lt [.int a, .int b] σ Q := ⟨a, b, rfl, rfl, q⟩
theorem p_le {a b : Int} (q : Q (.bool (decide (a ≤ b))) σ) : prim .le [.int a, .int b] σ Q := ⟨a, b, rfl, rfl, q⟩
theorem p_gt {a b : Int} (q : Q (.bool (decide (b < a))) σ) : prim .gt [.int a, .int b] σ Q := ⟨a, b, rfl, rfl, q⟩
theorem p_ge {a b : Int} (q : Q (.bool (decide (b ≤ a))) σ) : prim .ge [.int a, .int b] σ Q := ⟨a, b, rfl, rfl, q⟩
theorem p_is {a : PV} (q : Q (.bool (decide (a = .none))) σ) : prim .is [a, .none] σ Q := ⟨rfl, q⟩
theorem p_isNot {a : PV} (q : Q (.bool (!decide (a = .none))) σ) : prim .isNot [a, .none] σ Q := ⟨rfl, q⟩
theorem p_inn {x c : PV} {r : Bool} (h : inS σ x c = some r) (q : Q (.bool r) σ) : prim .inn [x, c] σ Q := ⟨r, h, q⟩
theorem p_notIn {x c : PV} {r : Bool} (h : inS σ x c = some r) (q : Q (.bool (!r)) σ) : prim .notIn [x, c] σ Q := ⟨r, h, q⟩
theorem p_idxT {t : PV} {xs : List PV} {n : Int} {v : PV} (ht : t = .tup xs) (h : pyIdx xs n = some v) (q : Q v σ) : prim .idx [t, .int n] σ Q := .inl ⟨xs, ht, n, rfl, v, h, q⟩
theorem p_idxL {k : Nat} {xs : List PV} {n : Int} {v : PV} (hk : σ[k]? = some (.list xs)) (h : pyIdx xs n = some v) (q : Q v σ) : prim .idx [.obj k, .int n] σ Q := .inr (.inr (.inl ⟨k, xs, rfl, hk, n, rfl, v, h, q⟩))
theorem p_idxD {k : Nat} {kvs : List (PV × PV)} {n : Int} {v : PV} (hk : σ[k]? = some (.dict kvs)) (h : dget (.int n) kvs = some v) (hl : keysLike (.int n) kvs = true) (q : Q v σ) : prim .idx [.obj k, .int n] σ Q := .inr (.inr (.inr ⟨k, kvs, rfl, hk, n, rfl, v, h, hl, q⟩))
theorem p_slice {k : Nat} {xs : List PV} {lo hi st : PV} {l h s : Option Int} (e1 : partP lo = some l) (e2 : partP hi = some h) (e3 : partP st = some s) (hk : σ[k]? = some (.list xs)) (hs : s ≠ some 0) (q : Q (.obj σ.length) (σ ++ [.list (sliceP xs l h s)])) : prim .slice [.obj k, lo, hi, st] σ Q := ⟨rfl, .inr ⟨k, xs, l, h, s, rfl, e1, e2, e3, .inl hk, hs, q⟩⟩
theorem p_sliceR {k : Nat} {xs : List PV} {lo hi st : PV} {l h s : Option Int} (e1 : partP lo = some l) (e2 : partP hi = some h) (e3 : partP st = some s) (hk : σ[k]? = some (.ro xs)) (hs : s ≠ some 0) (q : Q (.obj σ.length) (σ ++ [.list (sliceP xs l h s)])) : prim .slice [.obj k, lo, hi, st] σ Q := ⟨rfl, .inr ⟨k, xs, l, h, s, rfl, e1, e2, e3, .inr hk, hs, q⟩⟩
theorem p_lenT {t : PV} {xs : List PV} (ht : t = .tup xs) (q : Q (.int xs.length) σ) : prim .len [t] σ Q := .inl ⟨xs, ht, q⟩
theorem p_lenL {k : Nat} {xs : List PV} (hk : σ[k]? = some (.list xs)) (q : Q (.int xs.length) σ) : prim .len [.obj k] σ Q := .inr ⟨k, xs, rfl, hk, q⟩
theorem p_tupT {xs : List PV} (q : Q (.tup xs) σ) : prim .tupleOf [.tup xs] σ Q := .inl ⟨xs, rfl, q⟩
theorem p_tupL {k : Nat} {xs : List PV} (hk : σ[k]? = some (.list xs)) (q : Q (.tup xs) σ) : prim .tupleOf [.obj k] σ Q := .inr ⟨k, xs, rfl, hk, q⟩
theorem p_rev {k : Nat} {xs : List PV} (hk : σ[k]? = some (.list xs)) (q : Q (.obj σ.length) (σ ++ [.list xs.reverse])) : prim .listRev [.obj k] σ Q := ⟨k, xs, rfl, hk, q⟩
theorem p_listD {k : Nat} {kvs : List (PV × PV)} (hk : σ[k]? = some (.dict kvs)) (h : keysLike (.int 0) kvs = true) (q : Q (.obj σ.length) (σ ++ [.list (kvs.map (·.1))])) : prim .listDict [.obj k] σ Q := ⟨k, kvs, rfl, hk, h, q⟩
theorem b_append {k : Nat} {xs : List PV} {v : PV} (hk : σ[k]? = some (.list xs)) (h : xs.length < big) (q : Q .none (σ.set k (.list (xs ++ [v])))) : bmeth .append (.obj k) [v] σ Q := ⟨k, xs, rfl, hk, v, rfl, h, q⟩
theorem b_pop {k : Nat} {xs : List PV} {v : PV} (hk : σ[k]? = some (.list xs)) (h : xs.getLast? = some v) (q : Q v (σ.set k (.list xs.dropLast))) : bmeth .pop (.obj k) [] σ Q := ⟨k, xs, rfl, hk, rfl, v, h, q⟩
theorem b_reverse {k : Nat} {xs : List PV} (hk : σ[k]? = some (.list xs)) (q : Q .none (σ.set k (.list xs.reverse))) : bmeth .reverse (.obj k) [] σ Q := ⟨k, xs, rfl, hk, rfl, q⟩
theorem b_extendRev {k : Nat} {xs ys : List PV} {t : PV} (hk : σ[k]? = some (.list xs)) (ht : t = .tup ys) (h : xs.length + ys.length ≤ big) (q : Q .none (σ.set k (.list (xs ++ ys.reverse)))) : bmeth .extendRev (.obj k) [t] σ Q := ⟨k, xs, rfl, hk, ys, congrArg (fun x => [x]) ht, h, q⟩
theorem b_get {k : Nat} {kvs : List (PV × PV)} {key d : PV} (hk : σ[k]? = some (.dict kvs)) (h : keysLike key kvs = true) (q : Q ((dget key kvs).getD d) σ) : bmeth .get (.obj k) [key, d] σ Q := ⟨k, kvs, rfl, hk, key, d, rfl, h, q⟩
theorem r_augW {a b : Int} (q : Q (.int (a + b)) σ) : augW (.int a) (.int b) σ Q := .inl ⟨a, b, rfl, rfl, q⟩
end
section
variable {Q : St → Prop}
theorem s_list {k : Nat} {xs : List PV} {n : Int} {v : PV} (hk : σ[k]? = some (.list xs)) (h0 : 0 ≤ n) (h1 : n < xs.length) (q : Q (σ.set k (.list (xs.set n.toNat v)))) : setIdx (.obj k) (.int n) v σ Q := .inl ⟨k, xs, rfl, hk, n, rfl, h0, h1, q⟩
theorem s_dict {k : Nat} {kvs : List (PV × PV)} {i v : PV} (hk : σ[k]? = some (.dict kvs)) (h0 : keysLike i kvs = true) (h1 : kvs.length < 1000) (q : Q (σ.set k (.dict (dput i v kvs)))) : setIdx (.obj k) i v σ Q := .inr ⟨k, kvs, rfl, hk, h0, h1, q⟩
theorem s_attr {F : Addr → Nat → Bool} {k a : Nat} {v : PV} {c : Addr} {fs : List (Nat × PV)} (hk : σ[k]? = some (.inst c fs)) (h0 : F c a = true) (h1 : fs.length < 100) (q : Q (σ.set k (.inst c (fput a v fs)))) : setAttr' F (.obj k) a v σ Q := ⟨k, c, fs, rfl, hk, h0, h1, q⟩
end
section
variable {Q : LM → St → Prop} {v : PV}
theorem t_var {i : Nat} (q : Q (upd lm i v) σ) : wptg C P (.var i) v lm σ Q := q
theorem t_tup {is : List Nat} {vs : List PV} {lm' : LM} (hv : v = .tup vs) (h : asgs is vs lm = some lm') (q : Q lm' σ) : wptg C P (.tup is) v lm σ Q := ⟨vs, hv, lm', h, q⟩
theorem t_attr {e : ME} {a : Nat} (q : wpe C P e lm σ (kTA P a v Q lm)) : wptg C P (.attr e a) v lm σ Q := q
theorem t_idx {e i : ME} (q : wpe C P e lm σ (kTI C P i v Q lm)) : wptg C P (.idx e i) v lm σ Q := q
end
section
variable {Q : List PV → (St → Prop) → St → Prop}
theorem i_val {e : ME} (q : wpe C P e lm σ (valK Q)) : wpi C P (.val e) lm σ Q := q
theorem i_range {es : MEs} (q : wpes C P es lm σ (rangeK Q)) : wpi C P (.range es) lm σ Q := q
theorem i_rev {e : ME} (q : wpe C P e lm σ (revK Q)) : wpi C P (.rev e) lm σ Q := q
theorem i_valT {v : PV} {xs : List PV} (h : v = .tup xs) (q : Q xs (fun _ => True) σ) : valK Q v σ := .inl ⟨xs, h, q⟩
theorem i_valL {k : Nat} {xs : List PV} (h : σ[k]? = some (.list xs)) (q : Q xs (fun τ => τ[k]? = some (.list xs)) σ) : valK Q (.obj k) σ := .inr ⟨k, xs, rfl, h, q⟩
theorem i_rangeK {vs xs : List PV} (h : rangeOf vs xs) (q : Q xs (fun _ => True) σ) : rangeK Q vs σ := ⟨xs, h, q⟩
theorem i_revK {k : Nat} {xs : List PV} (h : σ[k]? = some (.list xs)) (q : Q xs.reverse (fun τ => τ[k]? = some (.list xs)) σ) : revK Q (.obj k) σ := ⟨k, xs, rfl, h, q⟩
end
end

theorem c_nil {T : LM → St → (Bool → St → Prop) → Prop} {V : LM → St → EQ → Prop} {x : Nat} {chk : St → Prop} {lm : LM} {acc : List PV} {σ : St} {Q : List PV → St → Prop} (h : chk σ) (q : Q acc σ) : compW T V x chk lm [] acc σ Q := ⟨h, q⟩
theorem c_cons {T : LM → St → (Bool → St → Prop) → Prop} {V : LM → St → EQ → Prop} {x : Nat} {chk : St → Prop} {lm : LM} {y : PV} {ys acc : List PV} {σ : St} {Q : List PV → St → Prop} (h : chk σ) (q : T (upd lm x y) σ fun b σ₁ => if b then V (upd lm x y) σ₁ fun v σ₂ => acc.length < big ∧ compW T V x chk lm ys (acc ++ [v]) σ₂ Q else compW T V x chk lm ys acc σ₁ Q) : compW T V x chk lm (y :: ys) acc σ Q := ⟨h, q⟩
noncomputable def peI (vs : Option (List PV)) : Option PV := match vs with
  | some [t, i] => match t with
    | .tup xs => match i with
      | .int n => pyIdx xs n
      | _ => none
    | _ => none
  | _ => none
noncomputable def peT (vs : Option (List PV)) : Option PV := match vs with
  | some vs => match Nat.ble vs.length big with
    | true => some (.tup vs)
    | false => none
  | none => none
noncomputable def peC (a : Option PV) (b : Option (List PV)) : Option (List PV) := match a with
  | some v => match b with
    | some vs => some (v :: vs)
    | none => none
  | none => none
mutual
noncomputable def pe (lm : LM) : ME → Option PV
  | .int i => some (.int i)
  | .str x => some (.str x)
  | .none => some .none
  | .bool b => some (.bool b)
  | .var i => lm i
  | .tup es => peT (pes lm es)
  | .prim .idx es => peI (pes lm es)
  | _ => none
noncomputable def pes (lm : LM) : MEs → Option (List PV)
  | .nil => some []
  | .cons e es => peC (pe lm e) (pes lm es)
end
section
variable {C : CT} {P : Pg} {lm : LM} {σ : St} {Q : EQ}
set_option tactic.hygienic true in
mutual
theorem pe_sound : ∀ (e : ME) {v : PV} {σ : St} {Q : EQ}, pe lm e = some v → Q v σ → wpe C P e lm σ Q := fun e {v σ Q} h q => by
  cases e
  case int i => cases (show some (PV.int i) = some v from h); exact r_int q
  case str i => cases (show some (PV.str i) = some v from h); exact r_str q
  case none => cases (show some PV.none = some v from h); exact r_none q
  case bool i => cases (show some (PV.bool i) = some v from h); exact r_bool q
  case var i => exact r_var h q
  case tup es =>
    have h : peT (pes lm es) = some v := h
    cases e : pes lm es with
    | none => rw [e] at h; exact nomatch (show none = some v from h)
    | some vs =>
      rw [e] at h
      cases hb : Nat.ble vs.length big with
      | false =>
        have h : (match Nat.ble vs.length big with | true => some (PV.tup vs) | false => none) = some v := h
        rw [hb] at h; exact nomatch h
      | true =>
        have h : (match Nat.ble vs.length big with | true => some (PV.tup vs) | false => none) = some v := h
        rw [hb] at h
        cases (show some (PV.tup vs) = some v from h)
        exact r_tup (pes_sound es e ⟨Nat.le_of_ble_eq_true hb, q⟩)
  case prim p es =>
    cases p
    case idx =>
      have h : peI (pes lm es) = some v := h
      cases e : pes lm es with
      | none => rw [e] at h; exact nomatch (show none = some v from h)
      | some vs =>
        rw [e] at h
        refine r_prim (pes_sound es e ?_)
        rcases vs with _ | ⟨t, _ | ⟨i, _ | ⟨_, _⟩⟩⟩ <;> try exact nomatch (show none = some v from h)
        cases t <;> try exact nomatch (show none = some v from h)
        cases i <;> try exact nomatch (show none = some v from h)
        exact p_idxT rfl h q
    all_goals exact nomatch (show none = some v from h)
  all_goals exact nomatch (show none = some v from h)
theorem pes_sound : ∀ (es : MEs) {vs : List PV} {σ : St} {Q : List PV → St → Prop}, pes lm es = some vs → Q vs σ → wpes C P es lm σ Q := fun es {vs σ Q} h q => by
  cases es with
  | nil => cases (show some [] = some vs from h); exact r_enil q
  | cons e es =>
    have h : peC (pe lm e) (pes lm es) = some vs := h
    cases h1 : pe lm e with
    | none => rw [h1] at h; exact nomatch (show none = some vs from h)
    | some v =>
      rw [h1] at h
      cases h2 : pes lm es with
      | none => rw [h2] at h; exact nomatch (show none = some vs from h)
      | some ws =>
        rw [h2] at h
        cases (show some (v :: ws) = some vs from h)
        exact r_econs (pe_sound e h1 (show wpes C P es lm _ _ from pes_sound es h2 q))
end
theorem r_pure {es : MEs} {v : PV} (h : pe lm (.prim .idx es) = some v) (q : Q v σ) : wpe C P (.prim .idx es) lm σ Q := pe_sound _ h q
theorem r_pures {es : MEs} {vs : List PV} {Q : List PV → St → Prop} (h : pes lm es = some vs) (q : Q vs σ) : wpes C P es lm σ Q := pes_sound _ h q
theorem r_primP {p : Prim} {es : MEs} {vs : List PV} (h : pes lm es = some vs) (q : prim p vs σ Q) : wpe C P (.prim p es) lm σ Q := r_prim (pes_sound _ h q)
theorem r_callP {f : Addr} {es : MEs} {vs : List PV} (h : pes lm es = some vs) (q : C f vs σ Q) : wpe C P (.call f es) lm σ Q := r_call (pes_sound _ h q)
theorem r_tupP {es : MEs} {v : PV} (h : pe lm (.tup es) = some v) (q : Q v σ) : wpe C P (.tup es) lm σ Q := pe_sound _ h q
theorem r_prim1 {p : Prim} {a : ME} (q : wpe C P a lm σ (kP1 p Q)) : wpe C P (.prim p (.cons a .nil)) lm σ Q := by
  exact r_prim (r_econs q)
theorem r_prim2 {p : Prim} {a b : ME} (q : wpe C P a lm σ (kP2 C P p b lm Q)) : wpe C P (.prim p (.cons a (.cons b .nil))) lm σ Q := by
  exact r_prim (r_econs q)
end
section
variable {C : CT} {P : Pg} {lm : LM} {σ : St} {v x y o : PV} {vs : List PV}
theorem a_ret {Q : SQ} (q : Q (.ret v) lm σ) : kRet Q lm v σ := q
set_option tactic.hygienic true in
theorem a_exp {Q : SQ} (q : Q .next lm σ) : kExp Q lm v σ := q
set_option tactic.hygienic true in
theorem a_nx {Q : SQ} (q : Q .next lm σ) : kNx Q lm σ := q
theorem a_asg {t : TG} {Q : SQ} (q : wptg C P t v lm σ (kNx Q)) : kAsg C P t Q lm v σ := q
theorem a_siteT {a b : MS} {Q : SQ} {t : Bool} (h : t = true) (q : wps C P a lm σ Q) : kSite C P a b lm Q t σ := by subst h; exact q
theorem a_siteF {a b : MS} {Q : SQ} {t : Bool} (h : ¬ t = true) (q : wps C P b lm σ Q) : kSite C P a b lm Q t σ := by cases t <;> first | exact q | exact absurd rfl h
theorem a_andT {b : MT} {Q : Bool → St → Prop} {t : Bool} (h : t = true) (q : wpt C P b lm σ Q) : kAnd C P b lm Q t σ := by subst h; exact q
theorem a_andF {b : MT} {Q : Bool → St → Prop} {t : Bool} (h : ¬ t = true) (q : Q false σ) : kAnd C P b lm Q t σ := by cases t <;> first | exact q | exact absurd rfl h
theorem a_orT {b : MT} {Q : Bool → St → Prop} {t : Bool} (h : t = true) (q : Q true σ) : kOr C P b lm Q t σ := by subst h; exact q
theorem a_orF {b : MT} {Q : Bool → St → Prop} {t : Bool} (h : ¬ t = true) (q : wpt C P b lm σ Q) : kOr C P b lm Q t σ := by cases t <;> first | exact q | exact absurd rfl h
theorem a_not {Q : Bool → St → Prop} {t : Bool} (q : Q (!t) σ) : kNot Q t σ := q
theorem a_iteT {a b : ME} {Q : EQ} {t : Bool} (h : t = true) (q : wpe C P a lm σ Q) : kIte C P a b lm Q t σ := by subst h; exact q
theorem a_iteF {a b : ME} {Q : EQ} {t : Bool} (h : ¬ t = true) (q : wpe C P b lm σ Q) : kIte C P a b lm Q t σ := by cases t <;> first | exact q | exact absurd rfl h
theorem a_loopT {B : LM → St → SQ → Prop} {I : Nat → LM → St → Prop} {n : Nat} {Q : SQ} {t : Bool} (h : t = true) (q : B lm σ (loopK I n Q)) : kLoop B lm I n Q t σ := by subst h; exact q
set_option tactic.hygienic true in
theorem a_loopF {B : LM → St → SQ → Prop} {I : Nat → LM → St → Prop} {n : Nat} {Q : SQ} {t : Bool} (h : ¬ t = true) (q : Q .next lm σ) : kLoop B lm I n Q t σ := by cases t <;> first | exact q | exact absurd rfl h
theorem a_call {f : Addr} {Q : EQ} (q : C f vs σ Q) : kCall C f Q vs σ := q
theorem a_cons2 {Q : List PV → St → Prop} (q : Q (v :: vs) σ) : kCons2 v Q vs σ := q
theorem a_cons1 {es : MEs} {Q : List PV → St → Prop} (q : wpes C P es lm σ (kCons2 v Q)) : kCons1 C P es lm Q v σ := q
theorem a_p1 {p : Prim} {Q : EQ} (q : prim p [x] σ Q) : kP1 p Q x σ := q
theorem a_p2b {p : Prim} {Q : EQ} (q : prim p [x, y] σ Q) : kP2b p x Q y σ := q
theorem a_p2 {p : Prim} {b : ME} {Q : EQ} (q : wpe C P b lm σ (kP2b p x Q)) : kP2 C P p b lm Q x σ := q
theorem a_pn {p : Prim} {Q : EQ} (q : prim p vs σ Q) : kPn p Q vs σ := q
theorem a_tup {Q : EQ} (h : vs.length ≤ big) (q : Q (.tup vs) σ) : kTup Q vs σ := ⟨h, q⟩
theorem a_list {Q : EQ} (h : vs.length ≤ big) (q : Q (.obj σ.length) (σ ++ [.list vs])) : kList Q vs σ := ⟨h, q⟩
theorem a_bm2 {m : BM} {Q : EQ} (q : bmeth m o vs σ Q) : kBm2 m o Q vs σ := q
theorem a_bm {m : BM} {es : MEs} {Q : EQ} (h : bmOk m o σ) (q : wpes C P es lm σ (kBm2 m o Q)) : kBm C P m es lm Q o σ := ⟨h, q⟩
theorem a_meth {f : Addr} {k : Nat} {Q : EQ} (q : C f (.obj k :: vs) σ Q) : kMeth C f k Q vs σ := q
theorem a_new {n : Nat} {Q : EQ} (q : Q (.obj n) σ) : kNew n Q .none σ := ⟨rfl, q⟩
theorem a_ta2 {Q : LM → St → Prop} (q : Q lm σ) : kTA2 Q lm σ := q
theorem a_ta {a : Nat} {Q : LM → St → Prop} (q : setAttr' P.fld o a v σ (kTA2 Q lm)) : kTA P a v Q lm o σ := q
theorem a_ti2 {Q : LM → St → Prop} (q : setIdx o x v σ (kTA2 Q lm)) : kTI2 o v Q lm x σ := q
theorem a_ti {i : ME} {Q : LM → St → Prop} (q : wpe C P i lm σ (kTI2 o v Q lm)) : kTI C P i v Q lm o σ := q
theorem a_for {b : MS} {x : Nat} {Q : SQ} {ys : List PV} {chk : St → Prop} (q : forW (wps C P b) x chk ys lm σ Q) : kFor C P b x lm Q ys chk σ := q
theorem r_orT {b : ME} {t : Bool} {Q : EQ} (h : t = true) (q : Q (.bool t) σ) : orK C P b lm Q (.bool t) σ := by subst h; exact ⟨true, rfl, q⟩
theorem r_orF {b : ME} {t : Bool} {Q : EQ} (h : ¬ t = true) (q : wpe C P b lm σ Q) : orK C P b lm Q (.bool t) σ := by cases t <;> first | exact ⟨false, rfl, q⟩ | exact absurd rfl h
end

structure Fr (M : Nat → Prop) (σ σ' : St) : Prop where
  len : σ.length ≤ σ'.length
  at' : ∀ j o, σ[j]? = some o → ¬ M j → σ'[j]? = some o
namespace Fr
variable {M N : Nat → Prop} {σ σ' σ'' : St}
theorem refl : Fr M σ σ := ⟨Nat.le_refl _, fun _ _ e _ => e⟩
theorem trans (a : Fr M σ σ') (b : Fr M σ' σ'') : Fr M σ σ'' := ⟨Nat.le_trans a.len b.len, fun j o e n => b.at' j o (a.at' j o e n) n⟩
theorem mono (a : Fr M σ σ') (h : ∀ j, M j → N j) : Fr N σ σ' := ⟨a.len, fun j o e n => a.at' j o e fun m => n (h j m)⟩
theorem new (o : AObj) : Fr M σ (σ ++ [o]) := ⟨by simp, fun _ _ e _ => get_app e⟩
theorem set {k : Nat} {o : AObj} (h : M k) : Fr M σ (σ.set k o) := ⟨by simp, fun j o e n => get_set_ne (fun q => n (by rw [← q]; exact h)) e⟩
end Fr

structure Sym where
  texts : List Str
  funs : List (Int × Int)
noncomputable def fpair (p : Int × Int) : PV := .tup [.int p.1, .int p.2]
noncomputable def numd (l : List PV) : List (PV × PV) := l.zipIdx.map fun p => (p.1, .int (p.2 : Int))
structure SymAt (σ : St) (k : Nat) (S : Sym) : Prop where
  i : σ[k]? = some (.inst 154 [(0, .obj (k + 1)), (1, .obj (k + 2)), (2, .obj (k + 3)), (3, .obj (k + 4))])
  t : σ[k + 1]? = some (.list (S.texts.map .str))
  td : σ[k + 2]? = some (.dict (numd (S.texts.map .str)))
  f : σ[k + 3]? = some (.list (S.funs.map fpair))
  fd : σ[k + 4]? = some (.dict (numd (S.funs.map fpair)))
  nt : S.texts.Nodup
  nf : S.funs.Nodup
  bt : S.texts.length < 900
  bf : S.funs.length < 900
noncomputable def Sym.le (S S' : Sym) : Prop := (∃ l, S'.texts = S.texts ++ l) ∧ ∃ l, S'.funs = S.funs ++ l

theorem numd_snoc (l : List PV) (x : PV) : numd (l ++ [x]) = numd l ++ [(x, .int (l.length : Int))] := by
  unfold numd
  rw [List.zipIdx_append]; simp
theorem numd_length (l : List PV) : (numd l).length = l.length := by simp [numd]
theorem numd_keys (l : List PV) : (numd l).map (·.1) = l := by
  unfold numd
  rw [List.map_map]
  have : ((fun x => x.1) ∘ fun p : PV × Nat => (p.1, PV.int (p.2 : Int))) = fun p : PV × Nat => p.1 := rfl
  rw [this]; simp
theorem dget_go (x : PV) : ∀ (l : List PV) (k : Nat), ((l.zipIdx k).map fun p => (p.1, PV.int (p.2 : Int))).find? (fun p => decide (p.1 = x)) = match l.findIdx? (fun y => decide (y = x)) with
    | some i => some (x, .int ((i + k : Nat) : Int))
    | none => none
  | [], _ => rfl
  | y :: r, k => by
    rw [List.zipIdx_cons, List.map_cons, List.find?_cons, List.findIdx?_cons]
    by_cases h : y = x
    · subst h; simp
    · simp only [h, decide_false]
      rw [dget_go x r (k + 1)]
      cases r.findIdx? (fun y => decide (y = x)) with
      | none => rfl
      | some i => simp; (first | lia | omega)
theorem dget_numd (x : PV) (l : List PV) : dget x (numd l) = (l.findIdx? fun y => decide (y = x)).map fun i => .int (i : Int) := by
  unfold dget numd
  rw [dget_go]
  cases l.findIdx? (fun y => decide (y = x)) with
  | none => rfl
  | some i => simp
theorem findIdx_none {l : List PV} {x : PV} (h : x ∉ l) : l.findIdx? (fun y => decide (y = x)) = none := by
  rw [List.findIdx?_eq_none_iff]
  intro y hy; simp; exact fun q => h (q ▸ hy)
theorem findIdx_some {l : List PV} {x : PV} (h : x ∈ l) : ∃ i, l.findIdx? (fun y => decide (y = x)) = some i ∧ l[i]? = some x := by
  cases e : l.findIdx? (fun y => decide (y = x)) with
  | none =>
    rw [List.findIdx?_eq_none_iff] at e
    have := e x h; simp at this
  | some i =>
    obtain ⟨hi, a, _⟩ := List.findIdx?_eq_some_iff_getElem.mp e
    exact ⟨i, rfl, by rw [List.getElem?_eq_getElem hi]; simpa using a⟩
theorem dput_new {k v : PV} {kvs : List (PV × PV)} (h : dget k kvs = none) : dput k v kvs = kvs ++ [(k, v)] := by
  unfold dput; rw [h]; rfl

theorem like_str (x : Str) (l : List Str) : keysLike (.str x) (numd (l.map .str)) = true := by
  unfold keysLike
  rw [Bool.and_eq_true, List.all_eq_true]
  refine ⟨rfl, fun p hp => ?_⟩
  have : p.1 ∈ (numd (l.map .str)).map (·.1) := List.mem_map.mpr ⟨p, hp, rfl⟩
  rw [numd_keys] at this
  obtain ⟨y, _, hy⟩ := List.mem_map.mp this
  rw [← hy]; rfl
theorem like_pair (x : Int × Int) (l : List (Int × Int)) : keysLike (fpair x) (numd (l.map fpair)) = true := by
  unfold keysLike
  rw [Bool.and_eq_true, List.all_eq_true]
  refine ⟨rfl, fun p hp => ?_⟩
  have : p.1 ∈ (numd (l.map fpair)).map (·.1) := List.mem_map.mpr ⟨p, hp, rfl⟩
  rw [numd_keys] at this
  obtain ⟨y, _, hy⟩ := List.mem_map.mp this
  rw [← hy]; rfl

theorem lmOf_cons0 (v : PV) (l : List PV) : lmOf (v :: l) 0 = some v := rfl
theorem lmOf_consS (v : PV) (l : List PV) (i : Nat) : lmOf (v :: l) (i + 1) = lmOf l i := rfl
theorem upd_eq (lm : LM) (i : Nat) (v : PV) : upd lm i v i = some v := by simp [upd]
theorem upd_ne (lm : LM) {i j : Nat} (v : PV) (h : j ≠ i) : upd lm i v j = lm j := by simp [upd, h]


theorem enter {P : Pg} {m f : Nat} {fr : FR} {vs : List PV} {σ : St} {Q : EQ} (hf : P.fn f = some fr) (hl : vs.length = fr.np) (h : wps (wpCall P m) P fr.body (lmOf vs) σ (retK Q)) : wpCall P (m + 1) f vs σ Q := by
  exact ⟨fr, hf, hl, h⟩

noncomputable def symM (k : Nat) (j : Nat) : Prop := k < j ∧ j ≤ k + 4
theorem SymAt.frame {σ σ' : St} {k : Nat} {S : Sym} (h : SymAt σ k S) {M : Nat → Prop} (F : Fr M σ σ') (hm : ∀ j, k ≤ j → j ≤ k + 4 → ¬ M j) : SymAt σ' k S :=
  ⟨F.at' _ _ h.i (hm _ (by (first | lia | omega)) (by (first | lia | omega))), F.at' _ _ h.t (hm _ (by (first | lia | omega)) (by (first | lia | omega))), F.at' _ _ h.td (hm _ (by (first | lia | omega)) (by (first | lia | omega))), F.at' _ _ h.f (hm _ (by (first | lia | omega)) (by (first | lia | omega))), F.at' _ _ h.fd (hm _ (by (first | lia | omega)) (by (first | lia | omega))), h.nt, h.nf, h.bt, h.bf⟩

section
variable {P : Pg} {σ : St} {k m : Nat} {S : Sym} {Q : EQ}

theorem mem_map_str {x : Str} {l : List Str} : PV.str x ∈ l.map PV.str ↔ x ∈ l := by
  rw [List.mem_map]
  constructor
  · rintro ⟨y, hy, e⟩; cases e; exact hy
  · exact fun h => ⟨x, h, rfl⟩
theorem mem_map_pair {x : Int × Int} {l : List (Int × Int)} : fpair x ∈ l.map fpair ↔ x ∈ l := by
  rw [List.mem_map]
  constructor
  · rintro ⟨y, hy, e⟩
    unfold fpair at e
    have : y = x := by
      obtain ⟨a, b⟩ := y; obtain ⟨c, d⟩ := x
      simp only [PV.tup.injEq, List.cons.injEq, PV.int.injEq, and_true] at e
      rw [e.1, e.2]
    exact this ▸ hy
  · exact fun h => ⟨x, h, rfl⟩

theorem atom_spec (T : TabP P) (hS : SymAt σ k S) {x : Str} (hb : S.texts.length < 800)
    (q : ∀ S' (i : Nat) σ', S' = (if x ∈ S.texts then S else ⟨S.texts ++ [x], S.funs⟩) → S'.texts[i]? = some x → SymAt σ' k S' → Fr (symM k) σ σ' → Q (.int (i : Int)) σ') : wpCall P (m + 1) 88 [.obj k, .str x] σ Q := by
  have ei := hS.i
  have et := hS.t
  have etd := hS.td
  refine enter T.f88 rfl ?_
  unfold b_88
  (refine r_seq (r_assign (r_bm (r_attr (r_var rfl ?_)))); refine' r_attrK ?wa ?wb ?wc ?_; (case wa => assumption); (case wb => rfl); (case wc => exact TabP.s1 (by assumption)); refine a_bm ?wa ?_; (case wa => (refine' bmOk_get ?wz; (case wz => assumption))); refine r_pures rfl (a_bm2 ?_); refine' b_get ?wa ?wb ?_; (case wa => assumption); (case wb => exact like_str _ _); refine a_asg (t_var (a_nx (r_seqN (r_seq (r_site (r_te (r_primP rfl ?_))))))))
  by_cases hx : x ∈ S.texts
  · obtain ⟨i, h1, h2⟩ := findIdx_some (mem_map_str.mpr hx)
    have hd : (dget (.str x) (numd (S.texts.map PV.str))).getD (.int (-1)) = .int (i : Int) := by rw [dget_numd, h1]; rfl
    rw [hd]
    have h0 : (0 : Int) ≤ (i : Int) := by (first | lia | omega)
    refine p_ge (r_truB (a_siteT rfl (r_seq (r_ret (r_var rfl (a_ret (r_seqR (r_seqR (r_retR ?_)))))))))
    refine q S i σ (by rw [if_pos hx]) ?_ hS Fr.refl
    rw [List.getElem?_map] at h2
    cases e : S.texts[i]? with
    | none => rw [e] at h2; cases h2
    | some y => rw [e] at h2; cases h2; rfl
  · have hg : dget (.str x) (numd (S.texts.map PV.str)) = none := by rw [dget_numd, findIdx_none (fun q => hx (mem_map_str.mp q))]; rfl
    rw [hg]
    have hlen : (S.texts.map PV.str).length < big := by rw [List.length_map]; unfold big; (first | lia | omega)
    have hlen2 : (numd (S.texts.map PV.str)).length < 1000 := by rw [numd_length, List.length_map]; (first | lia | omega)
    (refine p_geE rfl rfl (r_truB ?_); refine a_siteF ?wa ?_; (case wa => decide); refine r_skip (r_seqN (r_seq (r_assign (r_prim1 (r_attr (r_var rfl ?_)))))); refine' r_attrK ?wa ?wb ?wc ?_; (case wa => assumption); (case wb => rfl); (case wc => exact TabP.s0 (by assumption)); refine a_p1 ?_; refine' p_lenL ?wa ?_; (case wa => assumption); refine a_asg (t_var (a_nx (r_seqN (r_seq (r_expr (r_bm (r_attr (r_var rfl ?_)))))))); refine' r_attrK ?wa ?wb ?wc ?_; (case wa => assumption); (case wb => rfl); (case wc => exact TabP.s0 (by assumption)); refine a_bm ?wa ?_; (case wa => (refine' bmOk_list ?wz (by intro e; cases e); (case wz => assumption))); refine r_pures rfl (a_bm2 ?_); refine' b_append ?wa ?wb ?_; (case wa => assumption); (case wb => assumption); refine a_exp (r_seqN (r_seq (r_assign (r_var rfl (a_asg (t_idx (r_attr (r_var rfl ?_)))))))); refine' r_attrK ?wa ?wb ?wc ?_; (case wa => (refine get_set_ne (by first | (first | lia | omega) | decide) ?_; assumption)); (case wb => rfl); (case wc => exact TabP.s1 (by assumption)); refine a_ti (r_var rfl (a_ti2 ?_)); refine' s_dict ?wa ?wb ?wc ?_; (case wa => (refine get_set_ne (by first | (first | lia | omega) | decide) ?_; assumption)); (case wb => exact like_str _ _); (case wc => assumption); refine a_ta2 (a_nx (r_seqN (r_seq (r_ret (r_var rfl (a_ret (r_seqR (r_retR ?_)))))))))
    rw [dput_new hg]
    have e1 : S.texts.map PV.str ++ [.str x] = (S.texts ++ [x]).map PV.str := by simp
    have e2 : numd (S.texts.map PV.str) ++ [(.str x, .int ((S.texts.map PV.str).length : Int))] = numd ((S.texts ++ [x]).map PV.str) := by rw [← e1, numd_snoc]
    rw [e2, e1, List.length_map]
    refine q ⟨S.texts ++ [x], S.funs⟩ S.texts.length _ (by rw [if_neg hx]) (by simp) ⟨?_, ?_, ?_, ?_, ?_, ?_, hS.nf, by simp; (first | lia | omega), hS.bf⟩ ((Fr.set (by unfold symM; (first | lia | omega))).trans (Fr.set (by unfold symM; (first | lia | omega))))
    · (refine get_set_ne (by first | (first | lia | omega) | decide) ?_; refine get_set_ne (by first | (first | lia | omega) | decide) ?_; assumption)
    · (refine get_set_ne (by first | (first | lia | omega) | decide) ?_; refine get_set_eq (o := ?_) ?_; rotate_left; assumption)
    · exact get_set_eq (o := .dict (numd (S.texts.map PV.str))) (by (refine get_set_ne (by first | (first | lia | omega) | decide) ?_; assumption))
    · have := hS.f; (refine get_set_ne (by first | (first | lia | omega) | decide) ?_; refine get_set_ne (by first | (first | lia | omega) | decide) ?_; assumption)
    · have := hS.fd; (refine get_set_ne (by first | (first | lia | omega) | decide) ?_; refine get_set_ne (by first | (first | lia | omega) | decide) ?_; assumption)
    · rw [List.nodup_append]
      exact ⟨hS.nt, by simp, fun a ha b hb e => hx (by rw [List.mem_singleton.mp hb] at e; exact e ▸ ha)⟩

theorem functor_spec (T : TabP P) (hS : SymAt σ k S) {a r : Int} (hb : S.funs.length < 800)
    (q : ∀ S' (i : Nat) σ', S' = (if (a, r) ∈ S.funs then S else ⟨S.texts, S.funs ++ [(a, r)]⟩) → S'.funs[i]? = some (a, r) → SymAt σ' k S' → Fr (symM k) σ σ' → Q (.int (i : Int)) σ') : wpCall P (m + 1) 102 [.obj k, .int a, .int r] σ Q := by
  have ei := hS.i
  have et := hS.f
  have etd := hS.fd
  have hkey : keysLike (.tup [.int a, .int r]) (numd (S.funs.map fpair)) = true := like_pair (a, r) S.funs
  have hbig : (2 : Nat) ≤ big := by decide
  refine enter T.f102 rfl ?_
  unfold b_102
  (refine r_seq (r_assign (r_tupP rfl (a_asg (t_var (a_nx (r_seqN (r_seq (r_assign (r_bm ?_))))))))); refine r_attr (r_var rfl ?_); refine' r_attrK ?wa ?wb ?wc ?_; (case wa => assumption); (case wb => rfl); (case wc => exact TabP.s3 (by assumption)); refine a_bm ?wa ?_; (case wa => (refine' bmOk_get ?wz; (case wz => assumption))); refine r_pures rfl (a_bm2 ?_); refine' b_get ?wa ?wb ?_; (case wa => assumption); (case wb => assumption); refine a_asg (t_var (a_nx (r_seqN (r_seq (r_site (r_te (r_primP rfl ?_))))))))
  by_cases hx : (a, r) ∈ S.funs
  · obtain ⟨i, h1, h2⟩ := findIdx_some (mem_map_pair.mpr hx)
    have hd : (dget (.tup [.int a, .int r]) (numd (S.funs.map fpair))).getD (.int (-1)) = .int (i : Int) := by
      have := dget_numd (fpair (a, r)) (S.funs.map fpair)
      rw [h1] at this
      unfold fpair at this
      show (dget (.tup [.int a, .int r]) (numd (S.funs.map fpair))).getD _ = _
      unfold fpair
      rw [this]; rfl
    rw [hd]
    have h0 : (0 : Int) ≤ (i : Int) := by (first | lia | omega)
    refine p_ge (r_truB (a_siteT rfl (r_seq (r_ret (r_var rfl (a_ret (r_seqR (r_seqR (r_retR ?_)))))))))
    refine q S i σ (by rw [if_pos hx]) ?_ hS Fr.refl
    rw [List.getElem?_map] at h2
    cases e : S.funs[i]? with
    | none => rw [e] at h2; cases h2
    | some y =>
      rw [e] at h2
      have h2 : fpair y = fpair (a, r) := Option.some.inj h2
      obtain ⟨b, c⟩ := y
      simp only [fpair, PV.tup.injEq, List.cons.injEq, PV.int.injEq, and_true] at h2
      rw [h2.1, h2.2]
  · have hg : dget (.tup [.int a, .int r]) (numd (S.funs.map fpair)) = none := by
      have := dget_numd (fpair (a, r)) (S.funs.map fpair)
      rw [findIdx_none (fun q => hx (mem_map_pair.mp q))] at this
      exact this
    rw [hg]
    have hlen : (S.funs.map fpair).length < big := by rw [List.length_map]; unfold big; (first | lia | omega)
    have hlen2 : (numd (S.funs.map fpair)).length < 1000 := by rw [numd_length, List.length_map]; (first | lia | omega)
    (refine p_geE rfl rfl (r_truB ?_); refine a_siteF ?wa ?_; (case wa => decide); refine r_skip (r_seqN (r_seq (r_assign (r_prim1 (r_attr (r_var rfl ?_)))))); refine' r_attrK ?wa ?wb ?wc ?_; (case wa => assumption); (case wb => rfl); (case wc => exact TabP.s2 (by assumption)); refine a_p1 ?_; refine' p_lenL ?wa ?_; (case wa => assumption); refine a_asg (t_var (a_nx (r_seqN (r_seq (r_expr (r_bm (r_attr (r_var rfl ?_)))))))); refine' r_attrK ?wa ?wb ?wc ?_; (case wa => assumption); (case wb => rfl); (case wc => exact TabP.s2 (by assumption)); refine a_bm ?wa ?_; (case wa => (refine' bmOk_list ?wz (by intro e; cases e); (case wz => assumption))); refine r_pures rfl (a_bm2 ?_); refine' b_append ?wa ?wb ?_; (case wa => assumption); (case wb => assumption); refine a_exp (r_seqN (r_seq (r_assign (r_var rfl (a_asg (t_idx (r_attr (r_var rfl ?_)))))))); refine' r_attrK ?wa ?wb ?wc ?_; (case wa => (refine get_set_ne (by first | (first | lia | omega) | decide) ?_; assumption)); (case wb => rfl); (case wc => exact TabP.s3 (by assumption)); refine a_ti (r_var rfl (a_ti2 ?_)); refine' s_dict ?wa ?wb ?wc ?_; (case wa => (refine get_set_ne (by first | (first | lia | omega) | decide) ?_; assumption)); (case wb => assumption); (case wc => assumption); refine a_ta2 (a_nx (r_seqN (r_seq (r_ret (r_var rfl (a_ret (r_seqR (r_retR ?_)))))))))
    rw [dput_new hg]
    have e1 : S.funs.map fpair ++ [.tup [.int a, .int r]] = (S.funs ++ [(a, r)]).map fpair := by simp [fpair]
    have e2 : numd (S.funs.map fpair) ++ [(.tup [.int a, .int r], .int ((S.funs.map fpair).length : Int))] = numd ((S.funs ++ [(a, r)]).map fpair) := by rw [← e1, numd_snoc]
    rw [e2, e1, List.length_map]
    refine q ⟨S.texts, S.funs ++ [(a, r)]⟩ S.funs.length _ (by rw [if_neg hx]) (by simp) ⟨?_, ?_, ?_, ?_, ?_, hS.nt, ?_, hS.bt, by simp; (first | lia | omega)⟩ ((Fr.set (by unfold symM; (first | lia | omega))).trans (Fr.set (by unfold symM; (first | lia | omega))))
    · (refine get_set_ne (by first | (first | lia | omega) | decide) ?_; refine get_set_ne (by first | (first | lia | omega) | decide) ?_; assumption)
    · have := hS.t; (refine get_set_ne (by first | (first | lia | omega) | decide) ?_; refine get_set_ne (by first | (first | lia | omega) | decide) ?_; assumption)
    · have := hS.td; (refine get_set_ne (by first | (first | lia | omega) | decide) ?_; refine get_set_ne (by first | (first | lia | omega) | decide) ?_; assumption)
    · (refine get_set_ne (by first | (first | lia | omega) | decide) ?_; refine get_set_eq (o := ?_) ?_; rotate_left; assumption)
    · exact get_set_eq (o := .dict (numd (S.funs.map fpair))) (by (refine get_set_ne (by first | (first | lia | omega) | decide) ?_; assumption))
    · rw [List.nodup_append]
      exact ⟨hS.nf, by simp, fun a ha b hb e => hx (by rw [List.mem_singleton.mp hb] at e; exact e ▸ ha)⟩
end

set_option tactic.hygienic true in
theorem for_rule' {B : LM → St → SQ → Prop} {x : Nat} {chk : St → Prop} {Q : SQ} (Inv : Nat → LM → St → Prop) : ∀ (ys zs : List PV) (lm : LM) (σ : St) (_ : Inv zs.length lm σ) (_ : ∀ i lm σ, Inv i lm σ → chk σ)
    (_ : ∀ i y lm σ (K : LM → St → Prop), (zs ++ ys)[i]? = some y → Inv i lm σ → (∀ lm' σ', Inv (i + 1) lm' σ' → K lm' σ') → B (upd lm x y) σ (forK K Q))
    (_ : ∀ lm σ, Inv (zs ++ ys).length lm σ → Q .next lm σ), forW B x chk ys lm σ Q
  | [], zs, lm, σ, h0, hc, _, hq => ⟨hc _ _ _ h0, hq lm σ (by rw [List.append_nil]; exact h0)⟩
  | y :: ys, zs, lm, σ, h0, hc, hs, hq => by
    have e : (zs ++ [y]) ++ ys = zs ++ y :: ys := by simp
    have el : (zs ++ [y]).length = zs.length + 1 := by simp
    refine ⟨hc _ _ _ h0, hs zs.length y lm σ (fun lm' σ' => forW B x chk ys lm' σ' Q) (by simp) h0 fun lm' σ' h => ?_⟩
    exact for_rule' Inv ys (zs ++ [y]) lm' σ' (by rw [el]; exact h) hc (by rw [e]; exact hs) (by rw [e]; exact hq)
set_option tactic.hygienic true in
theorem for_rule {B : LM → St → SQ → Prop} {x : Nat} {chk : St → Prop} {Q : SQ} {ys : List PV} {lm : LM} {σ : St} (Inv : Nat → LM → St → Prop) (h0 : Inv 0 lm σ) (hc : ∀ i lm σ, Inv i lm σ → chk σ)
    (hs : ∀ i y lm σ (K : LM → St → Prop), ys[i]? = some y → Inv i lm σ → (∀ lm' σ', Inv (i + 1) lm' σ' → K lm' σ') → B (upd lm x y) σ (forK K Q))
    (hq : ∀ lm σ, Inv ys.length lm σ → Q .next lm σ) : forW B x chk ys lm σ Q := for_rule' Inv ys [] lm σ h0 hc hs hq

noncomputable def Sym.addA (S : Sym) (x : Str) : Sym := if x ∈ S.texts then S else ⟨S.texts ++ [x], S.funs⟩
noncomputable def Sym.addF (S : Sym) (a r : Int) : Sym := if (a, r) ∈ S.funs then S else ⟨S.texts, S.funs ++ [(a, r)]⟩
theorem Sym.le_refl (S : Sym) : S.le S := ⟨⟨[], by simp⟩, ⟨[], by simp⟩⟩
theorem Sym.le_trans {S S' S'' : Sym} (a : S.le S') (b : S'.le S'') : S.le S'' := by
  obtain ⟨⟨l, e⟩, ⟨m, f⟩⟩ := a
  obtain ⟨⟨l', e'⟩, ⟨m', f'⟩⟩ := b
  exact ⟨⟨l ++ l', by rw [e', e, List.append_assoc]⟩, ⟨m ++ m', by rw [f', f, List.append_assoc]⟩⟩
theorem Sym.le_addA (S : Sym) (x : Str) : S.le (S.addA x) := by
  unfold Sym.addA; split
  · exact S.le_refl
  · exact ⟨⟨[x], rfl⟩, ⟨[], by simp⟩⟩
theorem Sym.le_addF (S : Sym) (a r : Int) : S.le (S.addF a r) := by
  unfold Sym.addF; split
  · exact S.le_refl
  · exact ⟨⟨[], by simp⟩, ⟨[(a, r)], rfl⟩⟩
theorem le_text {S S' : Sym} (h : S.le S') {i : Nat} {x : Str} (e : S.texts[i]? = some x) : S'.texts[i]? = some x := by
  obtain ⟨⟨l, e'⟩, _⟩ := h
  rw [e', List.getElem?_append_left (List.getElem?_eq_some_iff.mp e).1]; exact e
theorem le_fun {S S' : Sym} (h : S.le S') {i : Nat} {p : Int × Int} (e : S.funs[i]? = some p) : S'.funs[i]? = some p := by
  obtain ⟨_, ⟨l, e'⟩⟩ := h
  rw [e', List.getElem?_append_left (List.getElem?_eq_some_iff.mp e).1]; exact e

noncomputable def fixedT : List Str := ["[]", ".", "{}", "-", "+", "*", "/", ",", "|", ";", "->", "\\+", ":-", "?-", "-->", "!", "true", "fail", "false", "call", "=", "^", "error", "", "end_of_file", "system", "$VAR", "catch", "throw"]
noncomputable def AL : List Str := fixedT ++ (["t", "n", "p", "g", "phrase", "x", "q", "r"] : List Str)
structure Sok (S : Sym) : Prop where
  nt : S.texts.Nodup
  nf : S.funs.Nodup
  t : ∀ x ∈ S.texts, x ∈ AL
  f : ∀ p ∈ S.funs, 0 ≤ p.1 ∧ p.1 < 40 ∧ 0 ≤ p.2 ∧ p.2 ≤ 8
theorem nodup_len {α : Type} [DecidableEq α] : ∀ {l m : List α}, l.Nodup → (∀ x ∈ l, x ∈ m) → l.length ≤ m.length
  | [], _, _, _ => Nat.zero_le _
  | x :: l, m, hn, h => by
    have hx := h x List.mem_cons_self
    have := nodup_len (l := l) (m := m.erase x) (List.nodup_cons.mp hn).2 fun y hy => by
      have hne : y ≠ x := fun e => (List.nodup_cons.mp hn).1 (e ▸ hy)
      exact (List.mem_erase_of_ne hne).mpr (h y (List.mem_cons_of_mem _ hy))
    rw [List.length_erase_of_mem hx] at this
    have := List.length_pos_of_mem hx
    rw [List.length_cons]; (first | lia | omega)
noncomputable def allF : List (Int × Int) := (List.range 40).flatMap fun (a : Nat) => (List.range 9).map fun (r : Nat) => (((a : Nat) : Int), (r : Int))
theorem Sok.bt {S : Sym} (h : Sok S) : S.texts.length ≤ 37 := nodup_len h.nt h.t
theorem Sok.bf {S : Sym} (h : Sok S) : S.funs.length ≤ 360 := by
  have : allF.length = 360 := by decide +kernel
  rw [← this]
  refine nodup_len h.nf fun p hp => ?_
  obtain ⟨a, b, c, d⟩ := h.f p hp
  unfold allF
  rw [List.mem_flatMap]
  refine ⟨p.1.toNat, by rw [List.mem_range]; (first | lia | omega), List.mem_map.mpr ⟨p.2.toNat, by rw [List.mem_range]; (first | lia | omega), ?_⟩⟩
  rw [Int.toNat_of_nonneg a, Int.toNat_of_nonneg c]
set_option tactic.hygienic true in
theorem Sok.addA {S : Sym} (h : Sok S) {x : Str} (hx : x ∈ AL) : Sok (S.addA x) := by
  unfold Sym.addA; split
  · exact h
  · rename_i hn
    refine ⟨?_, h.nf, fun y hy => ?_, h.f⟩
    · rw [List.nodup_append]
      exact ⟨h.nt, by simp, fun a ha b hb e => hn (by rw [List.mem_singleton.mp hb] at e; exact e ▸ ha)⟩
    · rcases List.mem_append.mp hy with hy | hy
      · exact h.t y hy
      · rw [List.mem_singleton.mp hy]; exact hx
set_option tactic.hygienic true in
theorem Sok.addF {S : Sym} (h : Sok S) {a r : Int} (hk : 0 ≤ a ∧ a < 40 ∧ 0 ≤ r ∧ r ≤ 8) : Sok (S.addF a r) := by
  unfold Sym.addF; split
  · exact h
  · rename_i hn
    refine ⟨h.nt, ?_, h.t, fun y hy => ?_⟩
    · rw [List.nodup_append]
      exact ⟨h.nf, by simp, fun a' ha b hb e => hn (by rw [List.mem_singleton.mp hb] at e; exact e ▸ ha)⟩
    · rcases List.mem_append.mp hy with hy | hy
      · exact h.f y hy
      · rw [List.mem_singleton.mp hy]; exact hk

section
variable {P : Pg} {σ : St} {k m : Nat} {S : Sym} {Q : EQ}
theorem atomS (T : TabP P) (hS : SymAt σ k S) (ok : Sok S) {x : Str} (hx : x ∈ AL)
    (q : ∀ (i : Nat) σ', (S.addA x).texts[i]? = some x → SymAt σ' k (S.addA x) → Sok (S.addA x) → Fr (symM k) σ σ' → Q (.int (i : Int)) σ') : wpCall P (m + 1) 88 [.obj k, .str x] σ Q := by
  have := ok.bt
  refine atom_spec T hS (by (first | lia | omega)) fun S' i σ' e h1 h2 F => ?_
  have e : S' = S.addA x := e
  subst e
  exact q i σ' h1 h2 (ok.addA hx) F
theorem functorS (T : TabP P) (hS : SymAt σ k S) (ok : Sok S) {a r : Int} (hk : 0 ≤ a ∧ a < 40 ∧ 0 ≤ r ∧ r ≤ 8)
    (q : ∀ (i : Nat) σ', (S.addF a r).funs[i]? = some (a, r) → SymAt σ' k (S.addF a r) → Sok (S.addF a r) → Fr (symM k) σ σ' → Q (.int (i : Int)) σ') : wpCall P (m + 1) 102 [.obj k, .int a, .int r] σ Q := by
  have := ok.bf
  refine functor_spec T hS (by (first | lia | omega)) fun S' i σ' e h1 h2 F => ?_
  have e : S' = S.addF a r := e
  subst e
  exact q i σ' h1 h2 (ok.addF hk) F
theorem funcS (T : TabP P) (hS : SymAt σ k S) (ok : Sok S) {x : Str} {r : Int} (hx : x ∈ AL) (hr : 0 ≤ r ∧ r ≤ 8)
    (q : ∀ (a i : Nat) σ', (S.addA x).texts[a]? = some x → ((S.addA x).addF a r).funs[i]? = some ((a : Int), r) → SymAt σ' k ((S.addA x).addF a r) → Sok ((S.addA x).addF a r) → Fr (symM k) σ σ' → Q (.int (i : Int)) σ') :
    wpCall P (m + 2) 109 [.obj k, .str x, .int r] σ Q := by
  have ei := hS.i
  refine enter T.f109 rfl ?_
  unfold b_109
  (refine r_seq (r_ret (r_meth (r_var rfl ?_))); refine' r_methK ?wa ?wb ?wc ?_; (case wa => assumption); (case wb => exact TabP.m10 (by assumption)); (case wc => rfl); refine r_econs (r_meth (r_var rfl ?_)); refine' r_methK ?wa ?wb ?wc ?_; (case wa => assumption); (case wb => exact TabP.m8 (by assumption)); (case wc => rfl); refine r_pures rfl (a_meth ?_))
  refine atomS T hS ok hx fun a σ₁ h1 h2 h3 F1 => ?_
  refine a_cons1 (r_pures rfl (a_cons2 (a_meth ?_)))
  have ha : 0 ≤ (a : Int) ∧ (a : Int) < 40 ∧ 0 ≤ r ∧ r ≤ 8 := by
    have := h3.bt
    have := (List.getElem?_eq_some_iff.mp h1).1
    (first | lia | omega)
  refine functorS T h2 h3 ha fun i σ₂ h4 h5 h6 F2 => ?_
  refine a_ret (r_seqR (r_retR ?_))
  exact q a i σ₂ h1 h4 h5 h6 (F1.trans F2)
end

inductive Tm where
  | v (n : Int) | a (n : Int) | i (n : Int) | s (f : Int) (args : List Tm)
mutual
noncomputable def Tm.pv : Tm → PV
  | .v n => .tup [.str "v", .int n]
  | .a n => .tup [.str "a", .int n]
  | .i n => .tup [.str "i", .int n]
  | .s f args => .tup [.str "s", .int f, .tup (Tm.pvs args)]
noncomputable def Tm.pvs : List Tm → List PV
  | [] => []
  | t :: r => t.pv :: Tm.pvs r
end
theorem Tm.pvs_eq : ∀ l : List Tm, Tm.pvs l = l.map Tm.pv
  | [] => rfl
  | t :: r => by rw [Tm.pvs, Tm.pvs_eq r]; rfl
theorem Tm.pvs_len (l : List Tm) : (Tm.pvs l).length = l.length := by rw [Tm.pvs_eq, List.length_map]
theorem Tm.pvs_app (l m : List Tm) : Tm.pvs (l ++ m) = Tm.pvs l ++ Tm.pvs m := by simp [Tm.pvs_eq]
noncomputable def Tm.tag : Tm → Str
  | .v _ => "v" | .a _ => "a" | .i _ => "i" | .s .. => "s"
noncomputable def listT (items : List Tm) (e : Tm) : Tm := items.foldr (fun i t => .s 0 [i, t]) e

theorem Fr.setNew {M : Nat → Prop} {σ σ' : St} {k : Nat} {o : AObj} (F : Fr M σ σ') (h : σ.length ≤ k) : Fr M σ (σ'.set k o) :=
  ⟨by rw [List.length_set]; exact F.len, fun j ob e n => get_set_ne (fun q => by have := (List.getElem?_eq_some_iff.mp e).1; (first | lia | omega)) (F.at' j ob e n)⟩
theorem Sym.le.trans {S S' S'' : Sym} (a : S.le S') (b : S'.le S'') : S.le S'' := Sym.le_trans a b
theorem rev_at {α β : Type} {f : α → β} {a b : List α} {y : β} (h : ((a ++ b).map f).reverse[b.length]? = some y) : ∃ a' t, a = a' ++ [t] ∧ y = f t := by
  rcases List.eq_nil_or_concat a with rfl | ⟨a', t, rfl⟩
  · simp at h
  · refine ⟨a', t, by simp, ?_⟩
    rw [List.map_append, List.reverse_append, List.getElem?_append_right (by simp)] at h
    simpa using h.symm

section
variable {P : Pg} {σ : St} {k m : Nat} {S : Sym} {Q : EQ}

theorem var_S (T : TabP P) {n : Int} (q : Q (Tm.v n).pv σ) : wpCall P (m + 1) 166 [.int n] σ Q := by
  have hbig : (2 : Nat) ≤ big := by decide
  refine enter T.f166 rfl ?_
  unfold b_166
  refine r_seq (r_ret (r_tupP rfl (a_ret (r_seqR (r_retR ?_)))))
  exact q
theorem atom_S (T : TabP P) {n : Int} (q : Q (Tm.a n).pv σ) : wpCall P (m + 1) 173 [.int n] σ Q := by
  have hbig : (2 : Nat) ≤ big := by decide
  refine enter T.f173 rfl ?_
  unfold b_173
  refine r_seq (r_ret (r_tupP rfl (a_ret (r_seqR (r_retR ?_)))))
  exact q
theorem struct_S (T : TabP P) {f : Int} {xs : List PV} (q : Q (.tup [.str "s", .int f, .tup xs]) σ) : wpCall P (m + 1) 180 [.int f, .tup xs] σ Q := by
  have hbig : (3 : Nat) ≤ big := by decide
  refine enter T.f180 rfl ?_
  unfold b_180
  (refine r_seq (r_ret (r_tup (r_econs (r_str (a_cons1 (r_econs (r_var rfl (a_cons1 (r_econs ?_))))))))); refine r_primP rfl (p_tupT (a_cons1 (r_pures rfl (a_cons2 (a_cons2 (a_cons2 ?_)))))); refine a_tup ?wa ?_; (case wa => assumption); refine a_ret (r_seqR (r_retR ?_)))
  exact q
theorem list_term_S (T : TabP P) {k : Nat} {items : List Tm} {e : Tm} (h : σ[k]? = some (.list (Tm.pvs items))) (q : Q (listT items e).pv σ) : wpCall P (m + 1) 188 [.obj k, e.pv] σ Q := by
  have hbig : (3 : Nat) ≤ big := by decide
  have hbig2 : (2 : Nat) ≤ big := by decide
  refine enter T.f188 rfl ?_
  unfold b_188
  have he : ∃ xs, e.pv = .tup xs := by cases e <;> exact ⟨_, rfl⟩
  obtain ⟨xs, he⟩ := he
  rw [he]
  (refine r_seq (r_assign (r_ite (r_te (r_primP rfl (p_is (r_truB ?_)))))); refine a_iteF ?wa ?_; (case wa => (simp only [decide_eq_true_eq, decide_eq_false_iff_not, Bool.not_eq_true, Bool.not_eq_true', Bool.not_eq_false, Bool.not_eq_false', decide_not, Bool.not_not, Bool.and_false, Bool.false_and, Bool.or_false, Bool.false_or, Bool.true_and, Bool.and_true, Bool.false_eq_true, Bool.and_eq_true, Bool.or_eq_true, not_true_eq_false, not_false_eq_true]; intro h; cases h)); refine r_var rfl (a_asg (t_var (a_nx (r_seqN (r_seq (r_for (i_rev (r_var rfl ?_)))))))); refine' i_revK ?wa ?_; (case wa => assumption); refine a_for ?_)
  refine for_rule (fun i lm σ' => σ' = σ ∧ ∃ a b, items = a ++ b ∧ b.length = i ∧ lm 2 = some (listT b e).pv) ⟨rfl, items, [], by simp, rfl, he ▸ rfl⟩ (fun i lm σ' h' => h'.1 ▸ h) ?_ ?_
  · rintro i y lm σ' K hy ⟨rfl, a, b, rfl, rfl, h2⟩ hK
    rw [Tm.pvs_eq] at hy
    obtain ⟨a', t, rfl, rfl⟩ := rev_at hy
    (refine r_seq (r_assign (r_tup (r_econs (r_str (a_cons1 (r_econs (r_int (a_cons1 (r_econs ?_))))))))); refine r_tup (r_econs (r_var rfl (a_cons1 (r_econs ?_)))); refine' r_var ?wa ?_; (case wa => assumption); refine a_cons1 (r_pures rfl (a_cons2 (a_cons2 ?_))); refine a_tup ?wa ?_; (case wa => assumption); refine a_cons1 (r_pures rfl (a_cons2 (a_cons2 (a_cons2 ?_)))); refine a_tup ?wa ?_; (case wa => assumption); refine a_asg (t_var (a_nx (r_seqN (r_skip (r_forN ?_))))))
    exact hK _ _ ⟨rfl, a', t :: b, by simp, by simp, rfl⟩
  · rintro lm σ' ⟨rfl, a, b, rfl, hl, h2⟩
    have : a = [] := by
      simp [Tm.pvs_len] at hl
      cases a with
      | nil => rfl
      | cons _ _ => simp at hl
    subst this
    (refine r_seqN (r_seq (r_ret ?_)); refine' r_var ?wa ?_; (case wa => assumption); refine a_ret (r_seqR (r_retR ?_)))
    exact q
theorem list_items_S (T : TabP P) {items : List Tm} {n : Int} (hn : items.length ≤ 1000) (q : ∀ σ', Fr (fun _ => False) σ σ' → σ'[σ.length]? = some (.list (Tm.pvs items)) → Q (.tup [.obj σ.length, (Tm.a n).pv]) σ') : wpCall P (m + 1) 195 [(listT items (.a n)).pv] σ Q := by
  have hbig2 : (2 : Nat) ≤ big := by decide
  refine enter T.f195 rfl ?_
  unfold b_195
  (refine r_seq (r_assign (r_list (r_pures rfl ?_))); refine a_list ?wa ?_; (case wa => trivial); refine a_asg (t_var (a_nx (r_seqN (r_seq (r_loop ?_))))))
  refine loop_rule (fun c lm σ' => ∃ a b, items = a ++ b ∧ c = b.length ∧ lm 0 = some (listT b (.a n)).pv ∧ lm 1 = some (.obj σ.length) ∧ Fr (fun _ => False) σ σ' ∧ σ'[σ.length]? = some (.list (Tm.pvs a)) ∧ a.length ≤ 1000) ⟨_, [], items, rfl, rfl, rfl, rfl, Fr.new _, by simp [Tm.pvs], by simp⟩ ?_
  rintro c lm σ' ⟨a, b, rfl, rfl, h0, h1, F, hl, hs⟩
  cases b with
  | nil =>
    have h0 : lm 0 = some (.tup [.str "a", .int n]) := h0
    (refine r_tand (r_te (r_prim2 (r_prim2 ?_))); refine' r_var ?wa ?_; (case wa => assumption); refine a_p2 (r_int (a_p2b (p_idxT rfl rfl (a_p2 (r_str (a_p2b (p_eq rfl (r_truB ?_)))))))); refine a_andF ?wa ?_; (case wa => decide); refine a_loopF ?wa ?_; (case wa => decide); refine r_seqN (r_seq (r_ret (r_tup (r_econs ?_)))); refine' r_var ?wa ?_; (case wa => assumption); refine a_cons1 (r_econs ?_); refine' r_var ?wa ?_; (case wa => assumption); refine a_cons1 (r_pures rfl (a_cons2 (a_cons2 ?_))); refine a_tup ?wa ?_; (case wa => assumption); refine a_ret (r_seqR (r_retR ?_)))
    exact q σ' F (by simpa using hl)
  | cons t b =>
    have h0 : lm 0 = some (.tup [.str "s", .int 0, .tup [t.pv, (listT b (.a n)).pv]]) := h0
    have hlen : (Tm.pvs a).length < big := by rw [Tm.pvs_len]; unfold big; (first | lia | omega)
    (refine r_tand (r_te (r_prim2 (r_prim2 ?_))); refine' r_var ?wa ?_; (case wa => assumption); refine a_p2 (r_int (a_p2b (p_idxT rfl rfl (a_p2 (r_str (a_p2b (p_eq rfl (r_truB (a_andT rfl ?_))))))))); refine r_te (r_prim2 (r_prim2 ?_)); refine' r_var ?wa ?_; (case wa => assumption); refine a_p2 (r_int (a_p2b (p_idxT rfl rfl (a_p2 (r_int (a_p2b (p_eq rfl (r_truB (a_loopT rfl ?_))))))))); refine r_seq (r_expr (r_bm ?_)); refine' r_var ?wa ?_; (case wa => assumption); refine a_bm ?wa ?_; (case wa => (refine' bmOk_list ?wz (by intro e; cases e); (case wz => assumption))); refine r_econs (r_prim2 (r_prim2 ?_)); refine' r_var ?wa ?_; (case wa => assumption); refine a_p2 (r_int (a_p2b (p_idxT rfl rfl (a_p2 (r_int (a_p2b (p_idxT rfl rfl (a_cons1 (r_pures rfl ?_))))))))); refine a_cons2 (a_bm2 ?_); refine' b_append ?wa ?wb ?_; (case wa => assumption); (case wb => assumption); refine a_exp (r_seqN (r_seq (r_assign (r_prim2 (r_prim2 ?_))))); refine' r_var ?wa ?_; (case wa => assumption); refine a_p2 (r_int (a_p2b (p_idxT rfl rfl (a_p2 (r_int (a_p2b (p_idxT rfl rfl (a_asg (t_var ?_))))))))); refine a_nx (r_seqN (r_skip (r_loopN ?_))))
    refine ⟨b.length, by simp, a ++ [t], b, by simp, rfl, rfl, h1, F.setNew (Nat.le_refl _), ?_, ?_⟩
    · rw [Tm.pvs_app]; exact get_set_eq (by assumption)
    · have : (a ++ t :: b).length ≤ 1000 := hn
      simp at this ⊢; (first | lia | omega)

theorem dec_str {x y : Str} (h : x = y) : decide (x = y) = true := by simp [h]
theorem is_callable_S (T : TabP P) {t : Tm} (h : t.tag = "a" ∨ t.tag = "s") (q : Q (.bool true) σ) : wpCall P (m + 1) 202 [t.pv] σ Q := by
  refine enter T.f202 rfl ?_
  unfold b_202
  cases t with
  | v n => exact absurd h (by show ¬ (("v" : Str) = "a" ∨ ("v" : Str) = "s"); decide +kernel)
  | i n => exact absurd h (by show ¬ (("i" : Str) = "a" ∨ ("i" : Str) = "s"); decide +kernel)
  | a n =>
    simp only [Tm.pv]
    refine r_seq (r_ret (r_or (r_primP rfl (p_eq rfl (r_orT rfl (a_ret (r_seqR (r_retR ?_))))))))
    rw [dec_str rfl]; exact q
  | s f args =>
    simp only [Tm.pv]
    (refine r_seq (r_ret (r_or (r_primP rfl (p_eq rfl ?_)))); refine r_orF ?wa ?_; (case wa => decide); refine r_primP rfl (p_eq rfl (a_ret (r_seqR (r_retR ?_)))))
    rw [dec_str rfl]; exact q

theorem functor_in_a (T : TabP P) (hS : SymAt σ k S) (ok : Sok S) {n : Nat} (hn : n < 40)
    (q : ∀ (i : Nat) σ', (S.addF n 0).funs[i]? = some ((n : Int), 0) → SymAt σ' k (S.addF n 0) → Sok (S.addF n 0) → Fr (symM k) σ σ' → Q (.int (i : Int)) σ') : wpCall P (m + 2) 209 [.obj k, (Tm.a n).pv] σ Q := by
  have ei := hS.i
  refine enter T.f209 rfl ?_
  unfold b_209
  simp only [Tm.pv]
  (refine r_seq (r_site (r_te (r_primP rfl (p_eq rfl (r_truB (a_siteT rfl (r_seq (r_ret (r_meth ?_))))))))); refine r_var rfl ?_; refine' r_methK ?wa ?wb ?wc ?_; (case wa => assumption); (case wb => exact TabP.m10 (by assumption)); (case wc => rfl); refine r_pures rfl (a_meth ?_))
  refine functorS T hS ok (by (first | lia | omega)) fun i σ₂ h4 h5 h6 F2 => ?_
  refine a_ret (r_seqR (r_seqR (r_retR ?_)))
  exact q i σ₂ h4 h5 h6 F2
theorem functor_in_s (T : TabP P) {f : Int} {args : List Tm} (q : Q (.int f) σ) : wpCall P (m + 1) 209 [.obj k, (Tm.s f args).pv] σ Q := by
  refine enter T.f209 rfl ?_
  unfold b_209
  simp only [Tm.pv]
  (refine r_seq (r_site (r_te (r_primP rfl (p_eq rfl (r_truB ?_))))); refine a_siteF ?wa ?_; (case wa => decide); refine r_skip (r_seqN (r_seq (r_ret (r_pure rfl (a_ret (r_seqR (r_retR ?_))))))))
  exact q
theorem arguments_a (T : TabP P) {n : Int} (q : Q (.tup []) σ) : wpCall P (m + 1) 216 [(Tm.a n).pv] σ Q := by
  have hbig : (0 : Nat) ≤ big := by decide
  refine enter T.f216 rfl ?_
  unfold b_216
  simp only [Tm.pv]
  (refine r_seq (r_site (r_te (r_primP rfl (p_eq rfl (r_truB ?_))))); refine a_siteF ?wa ?_; (case wa => decide); refine r_skip (r_seqN (r_seq (r_ret (r_tupP rfl (a_ret (r_seqR (r_retR ?_))))))))
  exact q
theorem arguments_s (T : TabP P) {f : Int} {args : List Tm} (q : Q (.tup (Tm.pvs args)) σ) : wpCall P (m + 1) 216 [(Tm.s f args).pv] σ Q := by
  refine enter T.f216 rfl ?_
  unfold b_216
  simp only [Tm.pv]
  (refine r_seq (r_site (r_te (r_primP rfl (p_eq rfl (r_truB (a_siteT rfl (r_seq (r_ret (r_pure rfl ?_))))))))); refine a_ret (r_seqR (r_seqR (r_retR ?_))))
  exact q

theorem pyIdx_nat {α : Type} {xs : List α} {i : Nat} {v : α} (h : xs[i]? = some v) : pyIdx xs (i : Int) = some v := by
  unfold pyIdx
  rw [if_pos (by (first | lia | omega))]
  simpa using h
theorem name_S (T : TabP P) (hS : SymAt σ k S) {i : Nat} {a r : Int} (h : S.funs[i]? = some (a, r)) (q : Q (.int a) σ) : wpCall P (m + 1) 116 [.obj k, .int (i : Int)] σ Q := by
  have ei := hS.i
  have ef := hS.f
  have hp : pyIdx (S.funs.map fpair) (i : Int) = some (.tup [.int a, .int r]) := pyIdx_nat (by rw [List.getElem?_map, h]; rfl)
  refine enter T.f116 rfl ?_
  unfold b_116
  (refine r_seq (r_ret (r_prim2 (r_prim2 (r_attr (r_var rfl ?_))))); refine' r_attrK ?wa ?wb ?wc ?_; (case wa => assumption); (case wb => rfl); (case wc => exact TabP.s2 (by assumption)); refine a_p2 (r_var rfl (a_p2b ?_)); refine' p_idxL ?wa ?wb ?_; (case wa => assumption); (case wb => with_reducible assumption); refine a_p2 (r_int (a_p2b (p_idxT rfl rfl (a_ret (r_seqR (r_retR ?_)))))))
  exact q

theorem nonterminal_a (T : TabP P) (hS : SymAt σ k S) (ok : Sok S) {n : Nat} (hn : n < 40) {x y : Tm}
    (q : ∀ S' (i : Nat) σ', S.le S' → S'.funs[i]? = some ((n : Int), 2) → SymAt σ' k S' → Sok S' → Fr (symM k) σ σ' → Q (Tm.s i [x, y]).pv σ') : wpCall P (m + 3) 343 [.obj k, (Tm.a n).pv, x.pv, y.pv] σ Q := by
  have hbig2 : (2 : Nat) ≤ big := by decide
  refine enter T.f343 rfl ?_
  unfold b_343
  refine r_seq (r_assign (r_callP rfl ?_))
  refine functor_in_a T hS ok hn fun i σ₁ h1 h2 h3 F1 => ?_
  refine a_asg (t_var (a_nx (r_seqN (r_seq (r_assign (r_prim2 (r_callP rfl ?_)))))))
  refine arguments_a T ?_
  have hz : ([] : List PV).length + [x.pv, y.pv].length ≤ big := by show 0 + 2 ≤ big; decide
  have ei := h2.i
  (refine a_p2 (r_tupP rfl (a_p2b ?_)); refine' p_addT ?wa ?wb ?wc ?_; (case wa => rfl); (case wb => rfl); (case wc => assumption); refine a_asg (t_var (a_nx (r_seqN (r_seq (r_ret (r_call (r_econs (r_meth (r_var rfl ?_))))))))); refine' r_methK ?wa ?wb ?wc ?_; (case wa => assumption); (case wb => exact TabP.m10 (by assumption)); (case wc => rfl); refine r_econs (r_meth (r_var rfl ?_)); refine' r_methK ?wa ?wb ?wc ?_; (case wa => assumption); (case wb => exact TabP.m12 (by assumption)); (case wc => rfl); refine r_pures rfl (a_meth ?_))
  refine name_S T h2 h1 ?_
  refine a_cons1 (r_econs (r_primP rfl (p_lenT rfl (a_cons1 (r_pures rfl (a_cons2 (a_cons2 (a_meth ?_))))))))
  refine functorS T h2 h3 (a := n) (r := 2) (by (first | lia | omega)) fun j σ₂ h4 h5 h6 F2 => ?_
  refine a_cons1 (r_pures rfl (a_cons2 (a_call ?_)))
  refine struct_S T ?_
  refine a_ret (r_seqR (r_retR ?_))
  exact q _ j σ₂ ((S.le_addF n 0).trans (Sym.le_addF _ n 2)) h4 h5 h6 (F1.trans F2)
end

theorem rangeL_at {a b c : Int} {i : Nat} {y : PV} (h : (rangeL a b c)[i]? = some y) : y = .int (a + c * (i : Int)) := by
  unfold rangeL at h
  rw [List.getElem?_map] at h
  cases e : (List.range (Builtin.Range.rangeSize a b c).toNat)[i]? with
  | none => rw [e] at h; cases h
  | some j =>
    rw [e] at h
    obtain ⟨hi, e'⟩ := List.getElem?_eq_some_iff.mp e
    simp at e'; subst e'
    cases h; rfl
theorem rangeL_len (a b c : Int) : (rangeL a b c).length = (Builtin.Range.rangeSize a b c).toNat := by simp [rangeL]
theorem down_size (n : Nat) : (Builtin.Range.rangeSize ((n : Int) - 1) (-1) (-1)).toNat = n := by
  unfold Builtin.Range.rangeSize
  rw [if_neg (by decide)]
  split
  · rw [show -(-1 : Int) = 1 by decide, Int.ediv_one]; (first | lia | omega)
  · (first | lia | omega)
theorem up_size (n : Nat) : (Builtin.Range.rangeSize 0 (n : Int) 1).toNat = n := by
  unfold Builtin.Range.rangeSize
  rw [if_pos (by decide)]
  split
  · rw [Int.ediv_one]; (first | lia | omega)
  · (first | lia | omega)

noncomputable def conjT : List Tm → Tm → Tm := fun pre z => pre.foldr (fun g r => .s 1 [g, r]) z
inductive IsSpine (F : List Int) : Tm → List Tm → Prop where
  | one {t : Tm} : (∀ f l, t = .s f l → f ∉ F) → IsSpine F t [t]
  | cons {f : Int} {l r : Tm} {ps : List Tm} : f ∈ F → IsSpine F r ps → IsSpine F (.s f [l, r]) (l :: ps)
theorem eqv_int (g f : Int) : eqv eqDepth (.int g) (.int f) = some (decide (g = f)) := rfl
theorem anyL_cons (h : PV → Option Bool) (x : PV) (xs : List PV) {a b : Bool} (h1 : h x = some a) (h2 : anyL h xs = some b) : anyL h (x :: xs) = some (a || b) := by
  unfold anyL; rw [h1, h2]
theorem dec_or (g f : Int) (r : List Int) : (decide (g = f) || decide (f ∈ r)) = decide (f ∈ g :: r) := by
  rw [Bool.eq_iff_iff, Bool.or_eq_true, decide_eq_true_eq, decide_eq_true_eq, decide_eq_true_eq, List.mem_cons]
  exact ⟨fun h => h.imp Eq.symm id, fun h => h.imp Eq.symm id⟩
theorem anyL_ints (f : Int) : ∀ F : List Int, anyL (fun y => eqv eqDepth y (.int f)) (F.map PV.int) = some (decide (f ∈ F))
  | [] => rfl
  | g :: r => by
    rw [List.map_cons, anyL_cons (fun y => eqv eqDepth y (.int f)) _ _ (eqv_int g f) (anyL_ints f r), dec_or]
theorem inS_ints (σ : St) (f : Int) (F : List Int) : inS σ (.int f) (.tup (F.map PV.int)) = some (decide (f ∈ F)) := anyL_ints f F

section
variable {P : Pg} {σ : St} {k m : Nat} {S : Sym} {Q : EQ}

theorem nonterminal_s (T : TabP P) (hS : SymAt σ k S) (ok : Sok S) {f : Nat} {args : List Tm} {a : Nat} {r : Int} (hf : S.funs[f]? = some ((a : Int), r)) (hr : args.length ≤ 6) {x y : Tm}
    (q : ∀ S' (i : Nat) σ', S.le S' → S'.funs[i]? = some ((a : Int), ((args.length + 2 : Nat) : Int)) → SymAt σ' k S' → Sok S' → Fr (symM k) σ σ' → Q (Tm.s i (args ++ [x, y])).pv σ') : wpCall P (m + 3) 343 [.obj k, (Tm.s f args).pv, x.pv, y.pv] σ Q := by
  have hbig2 : (2 : Nat) ≤ big := by decide
  have hk := ok.f _ (List.mem_of_getElem? hf)
  refine enter T.f343 rfl ?_
  unfold b_343
  refine r_seq (r_assign (r_callP rfl ?_))
  refine functor_in_s T ?_
  refine a_asg (t_var (a_nx (r_seqN (r_seq (r_assign (r_prim2 (r_callP rfl ?_)))))))
  refine arguments_s T ?_
  have hz : (Tm.pvs args).length + [x.pv, y.pv].length ≤ big := by rw [Tm.pvs_len]; show _ + 2 ≤ big; unfold big; (first | lia | omega)
  have ei := hS.i
  (refine a_p2 (r_tupP rfl (a_p2b ?_)); refine' p_addT ?wa ?wb ?wc ?_; (case wa => rfl); (case wb => rfl); (case wc => assumption); refine a_asg (t_var (a_nx (r_seqN (r_seq (r_ret (r_call (r_econs (r_meth (r_var rfl ?_))))))))); refine' r_methK ?wa ?wb ?wc ?_; (case wa => assumption); (case wb => exact TabP.m10 (by assumption)); (case wc => rfl); refine r_econs (r_meth (r_var rfl ?_)); refine' r_methK ?wa ?wb ?wc ?_; (case wa => assumption); (case wb => exact TabP.m12 (by assumption)); (case wc => rfl); refine r_pures rfl (a_meth ?_))
  refine name_S T hS hf ?_
  refine a_cons1 (r_econs (r_primP rfl (p_lenT rfl (a_cons1 (r_pures rfl (a_cons2 (a_cons2 (a_meth ?_))))))))
  have e : (((Tm.pvs args ++ [x.pv, y.pv]).length : Nat) : Int) = ((args.length + 2 : Nat) : Int) := by simp [Tm.pvs_len]
  rw [e]
  refine functorS T hS ok (a := a) (r := ((args.length + 2 : Nat) : Int)) (by refine ⟨hk.1, hk.2.1, ?_, ?_⟩ <;> push_cast <;> (first | lia | omega)) fun j σ₂ h4 h5 h6 F2 => ?_
  refine a_cons1 (r_pures rfl (a_cons2 (a_call ?_)))
  refine struct_S T ?_
  refine a_ret (r_seqR (r_retR ?_))
  have := q _ j σ₂ (Sym.le_addF _ _ _) h4 h5 h6 F2
  rw [Tm.pv, Tm.pvs_app] at this
  exact this

theorem conjunction_S (T : TabP P) {k : Nat} {pre : List Tm} {z : Tm} (hn : pre.length ≤ 1000) (h : σ[k]? = some (.list (Tm.pvs (pre ++ [z])))) (q : Q (conjT pre z).pv σ) : wpCall P (m + 1) 237 [.obj k] σ Q := by
  have hbig2 : (2 : Nat) ≤ big := by decide
  have hbig3 : (3 : Nat) ≤ big := by decide
  have hl : (((Tm.pvs (pre ++ [z])).length : Nat) : Int) = (pre.length : Int) + 1 := by simp [Tm.pvs_len]
  refine enter T.f237 rfl ?_
  unfold b_237
  (refine r_seq (r_site (r_te (r_prim2 (r_primP rfl ?_)))); refine' p_lenL ?wa ?_; (case wa => assumption); refine a_p2 (r_int (a_p2b (p_eq rfl (r_truB ?_)))); refine a_siteF ?wa ?_; (case wa => (simp only [decide_eq_true_eq, decide_eq_false_iff_not, Bool.not_eq_true, Bool.not_eq_true', Bool.not_eq_false, Bool.not_eq_false', decide_not, Bool.not_not, Bool.and_false, Bool.false_and, Bool.or_false, Bool.false_or, Bool.true_and, Bool.and_true, Bool.false_eq_true, Bool.and_eq_true, Bool.or_eq_true, not_true_eq_false, not_false_eq_true]; (first | lia | omega))); refine r_skip (r_seqN (r_seq (r_assign (r_prim2 (r_var rfl (a_p2 (r_prim2 (r_primP rfl ?_)))))))); refine' p_lenL ?wa ?_; (case wa => assumption); refine a_p2 (r_int (a_p2b (p_sub (a_p2b ?_)))))
  rw [hl]
  have hne : ¬ ((pre.length : Int) + 1 = 0) := by (first | lia | omega)
  skip
  have hp : pyIdx (Tm.pvs (pre ++ [z])) ((pre.length : Int) + 1 - 1) = some z.pv := by
    rw [show (pre.length : Int) + 1 - 1 = ((pre.length : Nat) : Int) by (first | lia | omega)]
    exact pyIdx_nat (by rw [Tm.pvs_eq]; simp)
  (refine' p_idxL ?wa ?wb ?_; (case wa => assumption); (case wb => with_reducible assumption); refine a_asg (t_var (a_nx (r_seqN (r_seq (r_for (i_range (r_econs (r_prim2 (r_primP rfl ?_))))))))); refine' p_lenL ?wa ?_; (case wa => assumption); refine a_p2 (r_int (a_p2b (p_sub (a_cons1 (r_pures rfl (a_cons2 ?_)))))))
  rw [hl]
  have hR : rangeOf [.int ((pre.length : Int) + 1 - 2), .int (-1), .int (-1)] (rangeL ((pre.length : Int) - 1) (-1) (-1)) := by
    rw [show (pre.length : Int) + 1 - 2 = (pre.length : Int) - 1 by (first | lia | omega)]
    exact .inr ⟨_, _, rfl, decide_eq_true (by (first | lia | omega)), rfl, rfl⟩
  (refine' i_rangeK ?wa ?_; (case wa => with_reducible assumption); refine a_for ?_)
  refine for_rule (fun i lm σ' => σ' = σ ∧ ∃ a b, pre = a ++ b ∧ b.length = i ∧ lm 0 = some (.obj k) ∧ lm 1 = some (conjT b z).pv) ⟨rfl, pre, [], by simp, rfl, rfl, rfl⟩ (fun _ _ _ _ => trivial) ?_ ?_
  · rintro i y lm σ' K hy ⟨rfl, a, b, rfl, rfl, h0, h1⟩ hK
    have hy' := rangeL_at hy
    subst hy'
    rcases List.eq_nil_or_concat a with rfl | ⟨a', t, rfl⟩
    · have := (List.getElem?_eq_some_iff.mp hy).1
      rw [rangeL_len, down_size] at this
      simp at this
    · have hp : pyIdx (Tm.pvs ((a'.concat t ++ b) ++ [z])) (((a'.concat t ++ b).length : Int) - 1 + -1 * (b.length : Int)) = some t.pv := by
        rw [show ((a'.concat t ++ b).length : Int) - 1 + -1 * (b.length : Int) = ((a'.length : Nat) : Int) by simp; (first | lia | omega)]
        refine pyIdx_nat ?_
        rw [Tm.pvs_eq]; simp
      (refine r_seq (r_assign (r_tup (r_econs (r_str (a_cons1 (r_econs (r_int (a_cons1 (r_econs ?_))))))))); refine r_tup (r_econs (r_prim2 ?_)); refine' r_var ?wa ?_; (case wa => assumption); refine a_p2 (r_var rfl (a_p2b ?_)); refine' p_idxL ?wa ?wb ?_; (case wa => assumption); (case wb => with_reducible assumption); refine a_cons1 (r_econs ?_); refine' r_var ?wa ?_; (case wa => assumption); refine a_cons1 (r_pures rfl (a_cons2 (a_cons2 ?_))); refine a_tup ?wa ?_; (case wa => assumption); refine a_cons1 (r_pures rfl (a_cons2 (a_cons2 (a_cons2 ?_)))); refine a_tup ?wa ?_; (case wa => assumption); refine a_asg (t_var (a_nx (r_seqN (r_skip (r_forN ?_))))))
      exact hK _ _ ⟨rfl, a', t :: b, by simp, by simp, h0, rfl⟩
  · rintro lm σ' ⟨rfl, a, b, rfl, hl', h0, h1⟩
    have : a = [] := by
      rw [rangeL_len, down_size] at hl'
      cases a with
      | nil => rfl
      | cons _ _ => simp at hl'; (first | lia | omega)
    subst this
    (refine r_seqN (r_seq (r_ret ?_)); refine' r_var ?wa ?_; (case wa => assumption); refine a_ret (r_seqR (r_retR ?_)))
    exact q

set_option tactic.hygienic true in
theorem right_spine_S (T : TabP P) {F : List Int} {t : Tm} {parts : List Tm} (hs : IsSpine F t parts) (hn : parts.length ≤ 1000) (q : ∀ σ', Fr (fun _ => False) σ σ' → σ'[σ.length]? = some (.list (Tm.pvs parts)) → Q (.obj σ.length) σ') : wpCall P (m + 1) 301 [t.pv, .tup (F.map PV.int)] σ Q := by
  refine enter T.f301 rfl ?_
  unfold b_301
  (refine r_seq (r_assign (r_list (r_pures rfl ?_))); refine a_list ?wa ?_; (case wa => trivial); refine a_asg (t_var (a_nx (r_seqN (r_seq (r_loop ?_))))))
  refine loop_rule (fun c lm σ' => ∃ pre rest t', parts = pre ++ rest ∧ c = rest.length ∧ IsSpine F t' rest ∧ lm 0 = some t'.pv ∧ lm 1 = some (.tup (F.map PV.int)) ∧ lm 2 = some (.obj σ.length) ∧ Fr (fun _ => False) σ σ' ∧ σ'[σ.length]? = some (.list (Tm.pvs pre))) ⟨_, [], parts, t, rfl, rfl, hs, rfl, rfl, rfl, Fr.new _, by simp [Tm.pvs]⟩ ?_
  rintro c lm σ' ⟨pre, rest, t', rfl, rfl, hs', h0, h1, h2, F', hl⟩
  have hlen : (Tm.pvs pre).length < big := by rw [Tm.pvs_len]; simp at hn; unfold big; (first | lia | omega)
  cases hs' with
  | one hno =>
    have fin : Q (.obj σ.length) (σ'.set σ.length (.list (Tm.pvs pre ++ [t'.pv]))) := by
      refine q _ (F'.setNew (Nat.le_refl _)) ?_
      rw [Tm.pvs_app]; exact get_set_eq (by assumption)
    cases t' with
    | v n => simp only [Tm.pv] at h0 fin; (refine r_tand (r_te (r_prim2 (r_prim2 ?_))); refine' r_var ?wa ?_; (case wa => assumption); refine a_p2 (r_int (a_p2b (p_idxT rfl rfl (a_p2 (r_str (a_p2b (p_eq rfl (r_truB ?_)))))))); refine a_andF ?wa ?_; (case wa => decide); refine a_loopF ?wa ?_; (case wa => decide); refine r_seqN (r_seq (r_expr (r_bm ?_))); refine' r_var ?wa ?_; (case wa => assumption); refine a_bm ?wa ?_; (case wa => (refine' bmOk_list ?wz (by intro e; cases e); (case wz => assumption))); refine r_econs ?_; refine' r_var ?wa ?_; (case wa => assumption); refine a_cons1 (r_pures rfl (a_cons2 (a_bm2 ?_))); refine' b_append ?wa ?wb ?_; (case wa => assumption); (case wb => assumption); refine a_exp (r_seqN (r_seq (r_ret ?_))); refine' r_var ?wa ?_; (case wa => assumption); refine a_ret (r_seqR (r_retR ?_))); exact fin
    | a n => simp only [Tm.pv] at h0 fin; (refine r_tand (r_te (r_prim2 (r_prim2 ?_))); refine' r_var ?wa ?_; (case wa => assumption); refine a_p2 (r_int (a_p2b (p_idxT rfl rfl (a_p2 (r_str (a_p2b (p_eq rfl (r_truB ?_)))))))); refine a_andF ?wa ?_; (case wa => decide); refine a_loopF ?wa ?_; (case wa => decide); refine r_seqN (r_seq (r_expr (r_bm ?_))); refine' r_var ?wa ?_; (case wa => assumption); refine a_bm ?wa ?_; (case wa => (refine' bmOk_list ?wz (by intro e; cases e); (case wz => assumption))); refine r_econs ?_; refine' r_var ?wa ?_; (case wa => assumption); refine a_cons1 (r_pures rfl (a_cons2 (a_bm2 ?_))); refine' b_append ?wa ?wb ?_; (case wa => assumption); (case wb => assumption); refine a_exp (r_seqN (r_seq (r_ret ?_))); refine' r_var ?wa ?_; (case wa => assumption); refine a_ret (r_seqR (r_retR ?_))); exact fin
    | i n => simp only [Tm.pv] at h0 fin; (refine r_tand (r_te (r_prim2 (r_prim2 ?_))); refine' r_var ?wa ?_; (case wa => assumption); refine a_p2 (r_int (a_p2b (p_idxT rfl rfl (a_p2 (r_str (a_p2b (p_eq rfl (r_truB ?_)))))))); refine a_andF ?wa ?_; (case wa => decide); refine a_loopF ?wa ?_; (case wa => decide); refine r_seqN (r_seq (r_expr (r_bm ?_))); refine' r_var ?wa ?_; (case wa => assumption); refine a_bm ?wa ?_; (case wa => (refine' bmOk_list ?wz (by intro e; cases e); (case wz => assumption))); refine r_econs ?_; refine' r_var ?wa ?_; (case wa => assumption); refine a_cons1 (r_pures rfl (a_cons2 (a_bm2 ?_))); refine' b_append ?wa ?wb ?_; (case wa => assumption); (case wb => assumption); refine a_exp (r_seqN (r_seq (r_ret ?_))); refine' r_var ?wa ?_; (case wa => assumption); refine a_ret (r_seqR (r_retR ?_))); exact fin
    | s f l =>
      have hf := hno f l rfl
      have hin := inS_ints σ' f F
      simp only [Tm.pv] at h0 fin
      (refine r_tand (r_te (r_prim2 (r_prim2 ?_))); refine' r_var ?wa ?_; (case wa => assumption); refine a_p2 (r_int (a_p2b (p_idxT rfl rfl (a_p2 (r_str (a_p2b (p_eq rfl (r_truB (a_andT rfl ?_))))))))); refine r_te (r_prim2 (r_prim2 ?_)); refine' r_var ?wa ?_; (case wa => assumption); refine a_p2 (r_int (a_p2b (p_idxT rfl rfl (a_p2 ?_)))); refine' r_var ?wa ?_; (case wa => assumption); refine a_p2b ?_; refine' p_inn ?wa ?_; (case wa => with_reducible assumption); refine r_truB ?_; refine a_loopF ?wa ?_; (case wa => (simp only [decide_eq_true_eq, decide_eq_false_iff_not, Bool.not_eq_true, Bool.not_eq_true', Bool.not_eq_false, Bool.not_eq_false', decide_not, Bool.not_not, Bool.and_false, Bool.false_and, Bool.or_false, Bool.false_or, Bool.true_and, Bool.and_true, Bool.false_eq_true, Bool.and_eq_true, Bool.or_eq_true, not_true_eq_false, not_false_eq_true]; assumption)); refine r_seqN (r_seq (r_expr (r_bm ?_))); refine' r_var ?wa ?_; (case wa => assumption); refine a_bm ?wa ?_; (case wa => (refine' bmOk_list ?wz (by intro e; cases e); (case wz => assumption))); refine r_econs ?_; refine' r_var ?wa ?_; (case wa => assumption); refine a_cons1 (r_pures rfl (a_cons2 (a_bm2 ?_))); refine' b_append ?wa ?wb ?_; (case wa => assumption); (case wb => assumption); refine a_exp (r_seqN (r_seq (r_ret ?_))); refine' r_var ?wa ?_; (case wa => assumption); refine a_ret (r_seqR (r_retR ?_)))
      exact fin
  | cons hf hr =>
    rename_i f l r ps
    have hin := inS_ints σ' f F
    have h0 : lm 0 = some (.tup [.str "s", .int f, .tup [l.pv, r.pv]]) := h0
    (refine r_tand (r_te (r_prim2 (r_prim2 ?_))); refine' r_var ?wa ?_; (case wa => assumption); refine a_p2 (r_int (a_p2b (p_idxT rfl rfl (a_p2 (r_str (a_p2b (p_eq rfl (r_truB (a_andT rfl ?_))))))))); refine r_te (r_prim2 (r_prim2 ?_)); refine' r_var ?wa ?_; (case wa => assumption); refine a_p2 (r_int (a_p2b (p_idxT rfl rfl (a_p2 ?_)))); refine' r_var ?wa ?_; (case wa => assumption); refine a_p2b ?_; refine' p_inn ?wa ?_; (case wa => with_reducible assumption); refine r_truB ?_; refine a_loopT ?wa ?_; (case wa => (simp only [decide_eq_true_eq, decide_eq_false_iff_not, Bool.not_eq_true, Bool.not_eq_true', Bool.not_eq_false, Bool.not_eq_false', decide_not, Bool.not_not, Bool.and_false, Bool.false_and, Bool.or_false, Bool.false_or, Bool.true_and, Bool.and_true, Bool.false_eq_true, Bool.and_eq_true, Bool.or_eq_true, not_true_eq_false, not_false_eq_true]; assumption)); refine r_seq (r_expr (r_bm ?_)); refine' r_var ?wa ?_; (case wa => assumption); refine a_bm ?wa ?_; (case wa => (refine' bmOk_list ?wz (by intro e; cases e); (case wz => assumption))); refine r_econs (r_prim2 (r_prim2 ?_)); refine' r_var ?wa ?_; (case wa => assumption); refine a_p2 (r_int (a_p2b (p_idxT rfl rfl (a_p2 (r_int (a_p2b (p_idxT rfl rfl (a_cons1 (r_pures rfl ?_))))))))); refine a_cons2 (a_bm2 ?_); refine' b_append ?wa ?wb ?_; (case wa => assumption); (case wb => assumption); refine a_exp (r_seqN (r_seq (r_assign (r_prim2 (r_prim2 ?_))))); refine' r_var ?wa ?_; (case wa => assumption); refine a_p2 (r_int (a_p2b (p_idxT rfl rfl (a_p2 (r_int (a_p2b (p_idxT rfl rfl (a_asg (t_var ?_))))))))); refine a_nx (r_seqN (r_skip (r_loopN ?_))))
    refine ⟨ps.length, by simp, pre ++ [l], ps, r, by simp, rfl, hr, rfl, h1, h2, F'.setNew (Nat.le_refl _), ?_⟩
    rw [Tm.pvs_app]; exact get_set_eq (by assumption)
end

theorem free_ex (u : List Int) : ∀ (c : Nat) (n : Int), (u.filter fun x => decide (n ≤ x)).length ≤ c → ∃ r, n ≤ r ∧ r ∉ u ∧ ∀ j, n ≤ j → j < r → j ∈ u
  | c, n, h => by
    by_cases hn : n ∈ u
    · cases c with
      | zero =>
        have : n ∈ u.filter fun x => decide (n ≤ x) := List.mem_filter.mpr ⟨hn, by simp⟩
        have := List.length_pos_of_mem this
        (first | lia | omega)
      | succ c =>
        have hlt : (u.filter fun x => decide (n + 1 ≤ x)).length < (u.filter fun x => decide (n ≤ x)).length := by
          have e : u.filter (fun x => decide (n + 1 ≤ x)) = (u.filter fun x => decide (n ≤ x)).filter fun x => decide (n + 1 ≤ x) := by
            rw [List.filter_filter]
            refine List.filter_congr fun x _ => ?_
            rw [Bool.eq_iff_iff]; simp; (first | lia | omega)
          rw [e]
          refine List.length_filter_lt_length_iff_exists.mpr ⟨n, List.mem_filter.mpr ⟨hn, by simp⟩, by simp; (first | lia | omega)⟩
        obtain ⟨r, h1, h2, h3⟩ := free_ex u c (n + 1) (by (first | lia | omega))
        refine ⟨r, by (first | lia | omega), h2, fun j hj hj' => ?_⟩
        by_cases q : j = n
        · rw [q]; exact hn
        · exact h3 j (by (first | lia | omega)) hj'
    · exact ⟨n, Int.le_refl _, hn, fun j h1 h2 => by (first | lia | omega)⟩
noncomputable def free (u : List Int) (n : Int) : Int := Classical.choose (free_ex u _ n (Nat.le_refl _))
theorem free_le (u : List Int) (n : Int) : n ≤ free u n := (Classical.choose_spec (free_ex u _ n (Nat.le_refl _))).1
theorem free_not (u : List Int) (n : Int) : free u n ∉ u := (Classical.choose_spec (free_ex u _ n (Nat.le_refl _))).2.1
theorem free_least (u : List Int) (n : Int) : ∀ j, n ≤ j → j < free u n → j ∈ u := (Classical.choose_spec (free_ex u _ n (Nat.le_refl _))).2.2
theorem free_eq {u : List Int} {n r : Int} (h1 : n ≤ r) (h2 : r ∉ u) (h3 : ∀ j, n ≤ j → j < r → j ∈ u) : r = free u n := by
  rcases Int.lt_trichotomy r (free u n) with h | h | h
  · exact absurd (free_least u n r h1 h) h2
  · exact h
  · exact absurd (h3 _ (free_le u n) h) (free_not u n)

section
variable {P : Pg} {σ : St} {k m : Nat} {S : Sym} {Q : EQ}

theorem terminals_S (T : TabP P) {items : List Tm} (hn : items.length ≤ 1000) {x y : Tm} (q : ∀ σ', Fr (fun _ => False) σ σ' → Q (Tm.s 10 [x, listT items y]).pv σ') : wpCall P (m + 2) 350 [.obj k, (listT items (.a 0)).pv, x.pv, y.pv] σ Q := by
  have hbig2 : (2 : Nat) ≤ big := by decide
  refine enter T.f350 rfl ?_
  unfold b_350
  refine r_seq (r_assign (r_callP rfl ?_))
  refine list_items_S T hn fun σ₁ F1 hl => ?_
  simp only [Tm.pv]
  (refine a_asg (t_tup rfl rfl (a_nx (r_seqN (r_seq (r_site (r_te (r_primP rfl (p_eq rfl (r_truB ?_))))))))); refine a_siteF ?wa ?_; (case wa => decide); refine r_skip (r_seqN (r_seq (r_site (r_te (r_prim2 (r_var rfl (a_p2 (r_callP rfl ?_)))))))))
  refine atom_S T ?_
  simp only [Tm.pv]
  (refine a_p2b (p_ne rfl (r_truB ?_)); refine a_siteF ?wa ?_; (case wa => decide); refine r_skip (r_seqN (r_seq (r_ret (r_call (r_econs (r_int (a_cons1 (r_econs (r_tup ?_))))))))); refine r_econs (r_var rfl (a_cons1 (r_econs (r_callP rfl ?_)))))
  refine list_term_S T hl ?_
  (refine a_cons1 (r_pures rfl (a_cons2 (a_cons2 ?_))); refine a_tup ?wa ?_; (case wa => assumption); refine a_cons1 (r_pures rfl (a_cons2 (a_cons2 (a_call ?_)))))
  refine struct_S T ?_
  refine a_ret (r_seqR (r_retR ?_))
  exact q σ₁ F1

theorem number_S (T : TabP P) {kf : Nat} {n : Int} (h : σ[kf]? = some (.inst 290 [(4, .int n)])) (q : Q (.int n) (σ.set kf (.inst 290 [(4, .int (n + 1))]))) : wpCall P (m + 1) 287 [.obj kf] σ Q := by
  refine enter T.f287 rfl ?_
  unfold b_287
  (refine r_seq (r_assign (r_attr (r_var rfl ?_))); refine' r_attrK ?wa ?wb ?wc ?_; (case wa => assumption); (case wb => rfl); (case wc => exact TabP.s4 (by assumption)); refine a_asg (t_var (a_nx (r_seqN (r_seq (r_assign (r_primP rfl (p_addI (a_asg (t_attr ?_))))))))); refine r_var rfl (a_ta ?_); refine' s_attr ?wa ?wb ?wc ?_; (case wa => assumption); (case wb => exact TabP.s4 (by assumption)); (case wc => exact Nat.le_of_ble_eq_true rfl); refine a_ta2 (a_nx (r_seqN (r_seq (r_ret (r_var rfl (a_ret (r_seqR (r_retR ?_)))))))))
  exact q
theorem freshInit_S (T : TabP P) {kf : Nat} {n : Int} (h : σ[kf]? = some (.inst 290 [])) (q : Q .none (σ.set kf (.inst 290 [(4, .int n)]))) : wpCall P (m + 1) 280 [.obj kf, .int n] σ Q := by
  refine enter T.f280 rfl ?_
  unfold b_280
  (refine r_seq (r_assign (r_var rfl (a_asg (t_attr (r_var rfl (a_ta ?_)))))); refine' s_attr ?wa ?wb ?wc ?_; (case wa => assumption); (case wb => exact TabP.s4 (by assumption)); (case wc => trivial); refine a_ta2 (a_nx (r_seqN (r_skip (r_retN ?_)))))
  exact q
theorem gvInit_S (T : TabP P) {kn : Nat} {a b : PV} (h : σ[kn]? = some (.inst 325 [])) (q : Q .none ((σ.set kn (.inst 325 [(5, a)])).set kn (.inst 325 [(5, a), (6, b)]))) : wpCall P (m + 1) 315 [.obj kn, a, b] σ Q := by
  refine enter T.f315 rfl ?_
  unfold b_315
  (refine r_seq (r_assign (r_var rfl (a_asg (t_attr (r_var rfl (a_ta ?_)))))); refine' s_attr ?wa ?wb ?wc ?_; (case wa => assumption); (case wb => exact TabP.s5 (by assumption)); (case wc => trivial); refine a_ta2 (a_nx (r_seqN (r_seq (r_assign (r_var rfl (a_asg (t_attr (r_var rfl (a_ta ?_))))))))); refine' s_attr ?wa ?wb ?wc ?_; (case wa => (refine get_set_eq (o := ?_) ?_; rotate_left; assumption)); (case wb => exact TabP.s6 (by assumption)); (case wc => exact Nat.le_of_ble_eq_true rfl); refine a_ta2 (a_nx (r_seqN (r_skip (r_retN ?_)))))
  have h2 := get_set_eq (o' := .inst 325 [(5, a)]) h
  skip
  exact q

structure GVAt (σ : St) (kn kf ku : Nat) (u : List Int) (n : Int) : Prop where
  i : σ[kn]? = some (.inst 325 [(5, .obj kf), (6, .obj ku)])
  f : σ[kf]? = some (.inst 290 [(4, .int n)])
  u : σ[ku]? = some (.list (u.map .int))
  nf : kn ≠ kf
  uf : ku ≠ kf
theorem GVAt.frame {σ σ' : St} {kn kf ku : Nat} {u : List Int} {n : Int} (h : GVAt σ kn kf ku u n) {M : Nat → Prop} (F : Fr M σ σ') (h1 : ¬ M kn) (h2 : ¬ M kf) (h3 : ¬ M ku) : GVAt σ' kn kf ku u n :=
  ⟨F.at' _ _ h.i h1, F.at' _ _ h.f h2, F.at' _ _ h.u h3, h.nf, h.uf⟩
theorem GVAt.set {σ : St} {kn kf ku : Nat} {u : List Int} {n n' : Int} (h : GVAt σ kn kf ku u n) : GVAt (σ.set kf (.inst 290 [(4, .int n')])) kn kf ku u n' :=
  ⟨get_set_ne h.nf.symm h.i, get_set_eq h.f, get_set_ne h.uf.symm h.u, h.nf, h.uf⟩

theorem variable_S (T : TabP P) {kn kf ku : Nat} {u : List Int} {n : Int} (h : GVAt σ kn kf ku u n) (q : ∀ σ', GVAt σ' kn kf ku u (free u n + 1) → Fr (fun j => j = kf) σ σ' → Q (Tm.v (free u n)).pv σ') : wpCall P (m + 2) 322 [.obj kn] σ Q := by
  have hi := h.i
  have hf := h.f
  refine enter T.f322 rfl ?_
  unfold b_322
  (refine r_seq (r_assign (r_meth (r_attr (r_var rfl ?_)))); refine' r_attrK ?wa ?wb ?wc ?_; (case wa => assumption); (case wb => rfl); (case wc => exact TabP.s5 (by assumption)); refine' r_methK ?wa ?wb ?wc ?_; (case wa => assumption); (case wb => exact TabP.m14 (by assumption)); (case wc => rfl); refine r_pures rfl (a_meth ?_))
  refine number_S T hf ?_
  refine a_asg (t_var (a_nx (r_seqN (r_seq (r_loop ?_)))))
  refine loop_rule (fun c lm σ' => ∃ r, lm 0 = some (.obj kn) ∧ lm 1 = some (.int r) ∧ n ≤ r ∧ (∀ j, n ≤ j → j < r → j ∈ u) ∧ c = (u.filter fun x => decide (r ≤ x)).length ∧ GVAt σ' kn kf ku u (r + 1) ∧ Fr (fun j => j = kf) σ σ') ⟨_, n, rfl, rfl, Int.le_refl _, fun j h1 h2 => by (first | lia | omega), rfl, h.set, Fr.set rfl⟩ ?_
  rintro c lm σ' ⟨r, h0, h1, hle, hu, rfl, G, F⟩
  have hi := G.i
  have hf := G.f
  have hku := G.u
  have hin : inS σ' (.int r) (.obj ku) = some (decide (r ∈ u)) := by
    exact (inS_list hku).trans (anyL_ints r u)
  by_cases hr : r ∈ u
  · (refine r_te (r_prim2 ?_); refine' r_var ?wa ?_; (case wa => assumption); refine a_p2 (r_attr ?_); refine' r_var ?wa ?_; (case wa => assumption); refine' r_attrK ?wa ?wb ?wc ?_; (case wa => assumption); (case wb => rfl); (case wc => exact TabP.s6 (by assumption)); refine a_p2b ?_; refine' p_inn ?wa ?_; (case wa => with_reducible assumption); refine r_truB ?_; refine a_loopT ?wa ?_; (case wa => (simp only [decide_eq_true_eq, decide_eq_false_iff_not, Bool.not_eq_true, Bool.not_eq_true', Bool.not_eq_false, Bool.not_eq_false', decide_not, Bool.not_not, Bool.and_false, Bool.false_and, Bool.or_false, Bool.false_or, Bool.true_and, Bool.and_true, Bool.false_eq_true, Bool.and_eq_true, Bool.or_eq_true, not_true_eq_false, not_false_eq_true]; assumption)); refine r_seq (r_assign (r_meth (r_attr ?_))); refine' r_var ?wa ?_; (case wa => assumption); refine' r_attrK ?wa ?wb ?wc ?_; (case wa => assumption); (case wb => rfl); (case wc => exact TabP.s5 (by assumption)); refine' r_methK ?wa ?wb ?wc ?_; (case wa => assumption); (case wb => exact TabP.m14 (by assumption)); (case wc => rfl); refine r_pures rfl (a_meth ?_))
    refine number_S T hf ?_
    refine a_asg (t_var (a_nx (r_seqN (r_skip (r_loopN ?_)))))
    refine ⟨_, ?_, r + 1, h0, rfl, by (first | lia | omega), fun j h1 h2 => ?_, rfl, G.set, F.trans (Fr.set rfl)⟩
    · have e : u.filter (fun x => decide (r + 1 ≤ x)) = (u.filter fun x => decide (r ≤ x)).filter fun x => decide (r + 1 ≤ x) := by
        rw [List.filter_filter]
        refine List.filter_congr fun x _ => ?_
        rw [Bool.eq_iff_iff]; simp; (first | lia | omega)
      rw [e]
      exact List.length_filter_lt_length_iff_exists.mpr ⟨r, List.mem_filter.mpr ⟨hr, by simp⟩, by simp; (first | lia | omega)⟩
    · by_cases q : j = r
      · rw [q]; exact hr
      · exact hu j h1 (by (first | lia | omega))
  · have e := free_eq hle hr hu
    subst e
    (refine r_te (r_prim2 ?_); refine' r_var ?wa ?_; (case wa => assumption); refine a_p2 (r_attr ?_); refine' r_var ?wa ?_; (case wa => assumption); refine' r_attrK ?wa ?wb ?wc ?_; (case wa => assumption); (case wb => rfl); (case wc => exact TabP.s6 (by assumption)); refine a_p2b ?_; refine' p_inn ?wa ?_; (case wa => with_reducible assumption); refine r_truB ?_; refine a_loopF ?wa ?_; (case wa => (simp only [decide_eq_true_eq, decide_eq_false_iff_not, Bool.not_eq_true, Bool.not_eq_true', Bool.not_eq_false, Bool.not_eq_false', decide_not, Bool.not_not, Bool.and_false, Bool.false_and, Bool.or_false, Bool.false_or, Bool.true_and, Bool.and_true, Bool.false_eq_true, Bool.and_eq_true, Bool.or_eq_true, not_true_eq_false, not_false_eq_true]; assumption)); refine r_seqN (r_seq (r_ret (r_call (r_econs ?_)))); refine' r_var ?wa ?_; (case wa => assumption); refine a_cons1 (r_pures rfl (a_cons2 (a_call ?_))))
    refine var_S T ?_
    refine a_ret (r_seqR (r_retR ?_))
    exact q σ' G F
end

mutual
noncomputable def Tm.vars : Tm → List Int
  | .v n => [n] | .a _ => [] | .i _ => [] | .s _ args => Tm.varsL args
noncomputable def Tm.varsL : List Tm → List Int
  | [] => [] | t :: r => t.vars ++ Tm.varsL r
end
mutual
noncomputable def Tm.size : Tm → Nat
  | .v _ => 1 | .a _ => 1 | .i _ => 1 | .s _ args => 1 + Tm.sizeL args
noncomputable def Tm.sizeL : List Tm → Nat
  | [] => 0 | t :: r => t.size + Tm.sizeL r
end
theorem Tm.varsL_app : ∀ l m : List Tm, Tm.varsL (l ++ m) = Tm.varsL l ++ Tm.varsL m
  | [], _ => rfl
  | t :: r, m => by rw [List.cons_append, Tm.varsL, Tm.varsL, Tm.varsL_app r m, List.append_assoc]
theorem Tm.sizeL_app : ∀ l m : List Tm, Tm.sizeL (l ++ m) = Tm.sizeL l + Tm.sizeL m
  | [], _ => by simp [Tm.sizeL]
  | t :: r, m => by rw [List.cons_append, Tm.sizeL, Tm.sizeL, Tm.sizeL_app r m, Nat.add_assoc]
theorem Tm.varsL_rev (x : Int) : ∀ l : List Tm, x ∈ Tm.varsL l.reverse ↔ x ∈ Tm.varsL l
  | [] => Iff.rfl
  | t :: r => by
    rw [List.reverse_cons, Tm.varsL_app, Tm.varsL, Tm.varsL, Tm.varsL, List.append_nil, List.mem_append, List.mem_append, Tm.varsL_rev x r, or_comm]
theorem Tm.sizeL_rev : ∀ l : List Tm, Tm.sizeL l.reverse = Tm.sizeL l
  | [] => rfl
  | t :: r => by rw [List.reverse_cons, Tm.sizeL_app, Tm.sizeL_rev r, Tm.sizeL, Tm.sizeL, Tm.sizeL]; (first | lia | omega)
theorem Tm.size_pos (t : Tm) : 0 < t.size := by cases t <;> simp [Tm.size]; (first | lia | omega)
theorem Tm.len_sizeL : ∀ l : List Tm, l.length ≤ Tm.sizeL l
  | [] => Nat.le_refl _
  | t :: r => by have := Tm.len_sizeL r; have := t.size_pos; rw [Tm.sizeL, List.length_cons]; (first | lia | omega)

theorem dget_ints (n : Int) : ∀ l : List Int, (dget (.int n) (l.map fun x => (PV.int x, PV.bool true))).isSome = decide (n ∈ l)
  | [] => rfl
  | x :: l => by
    have ih := dget_ints n l
    unfold dget at ih ⊢
    rw [List.map_cons, List.find?_cons]
    by_cases h : x = n
    · subst h; simp
    · have : decide (PV.int x = PV.int n) = false := by simp [h]
      simp only [this]
      rw [ih, Bool.eq_iff_iff]
      simp [Ne.symm h]
theorem like_ints (n : Int) (l : List Int) : keysLike (.int n) (l.map fun x => (PV.int x, PV.bool true)) = true := by
  unfold keysLike
  rw [Bool.and_eq_true, List.all_eq_true]
  refine ⟨rfl, fun p hp => ?_⟩
  obtain ⟨x, _, rfl⟩ := List.mem_map.mp hp
  rfl

section
variable {P : Pg} {σ : St} {k m : Nat} {S : Sym} {Q : EQ}
theorem variables_of_S (T : TabP P) {t : Tm} (h : σ[k]? = some (.list [t.pv])) (hn : t.size ≤ 800) (q : ∀ σ' U, Fr (fun _ => False) σ σ' → σ'[σ.length + 1]? = some (.list (List.map PV.int U)) → (∀ n ∈ t.vars, n ∈ U) → Q (.obj (σ.length + 1)) σ') : wpCall P (m + 1) 230 [.obj k] σ Q := by
  refine enter T.f230 rfl ?_
  unfold b_230
  (refine r_seq (r_assign (r_dict0 (a_asg (t_var (a_nx (r_seqN (r_seq (r_assign (r_list ?_))))))))); refine r_pures rfl ?_; refine a_list ?wa ?_; (case wa => trivial); refine a_asg (t_var (a_nx (r_seqN (r_seq (r_assign (r_primP rfl ?_)))))); refine' p_rev ?wa ?_; (case wa => (refine get_app (get_app ?_); assumption)); refine a_asg (t_var (a_nx (r_seqN (r_seq (r_loop ?_))))))
  refine loop_rule (fun c lm σ' => ∃ todo seen, lm 1 = some (.obj σ.length) ∧ lm 2 = some (.obj (σ.length + 1)) ∧ lm 3 = some (.obj (σ.length + 2)) ∧ σ'[σ.length]? = some (.dict (seen.map fun x => (PV.int x, PV.bool true))) ∧ σ'[σ.length + 1]? = some (.list (List.map PV.int seen)) ∧
      σ'[σ.length + 2]? = some (.list (Tm.pvs todo)) ∧ Fr (fun _ => False) σ σ' ∧ (∀ n ∈ t.vars, n ∈ seen ∨ n ∈ Tm.varsL todo) ∧ c = Tm.sizeL todo ∧ seen.length + Tm.sizeL todo ≤ 800) ⟨_, [t], [], rfl, ?_, ?_, ?_, ?_, ?_, ?_, ?_, rfl, ?_⟩ ?_
  · show some (PV.obj (σ ++ [AObj.dict []]).length) = _
    simp
  · show some (PV.obj ((σ ++ [AObj.dict []]) ++ [AObj.list []]).length) = _
    simp
  · simp
  · simp
  · simp [Tm.pvs]
  · exact ((Fr.new _).trans (Fr.new _)).trans (Fr.new _)
  · intro n hn; right; simpa [Tm.varsL] using hn
  · simp [Tm.sizeL]; exact hn
  · rintro c lm σ' ⟨todo, seen, h1, h2, h3, e1, e2, e3, F, hv, rfl, hb⟩
    rcases List.eq_nil_or_concat todo with rfl | ⟨todo, x, rfl⟩
    · simp only [Tm.pvs] at e3
      have ht := truthy_list e3
      (refine r_te ?_; refine' r_var ?wa ?_; (case wa => assumption); refine' r_tru ?wa ?_; (case wa => assumption); refine a_loopF ?wa ?_; (case wa => decide); refine r_seqN (r_seq (r_ret ?_)); refine' r_var ?wa ?_; (case wa => assumption); refine a_ret (r_seqR (r_retR ?_)))
      refine q σ' seen F e2 fun n hn => ?_
      rcases hv n hn with h | h
      · exact h
      · simp [Tm.varsL] at h
    · rw [List.concat_eq_append] at *
      have hne : (!(Tm.pvs (todo ++ [x])).isEmpty) = true := by rw [Tm.pvs_eq]; simp
      have hla : (Tm.pvs (todo ++ [x])).getLast? = some x.pv := by rw [Tm.pvs_eq]; simp
      have hdl : (Tm.pvs (todo ++ [x])).dropLast = Tm.pvs todo := by rw [Tm.pvs_eq, Tm.pvs_eq]; simp
      rw [Tm.sizeL_app] at hb
      have hxs : Tm.sizeL [x] = x.size := by simp [Tm.sizeL]
      have ht := truthy_list e3
      (refine r_te ?_; refine' r_var ?wa ?_; (case wa => assumption); refine' r_tru ?wa ?_; (case wa => assumption); refine a_loopT ?wa ?_; (case wa => assumption); refine r_seq (r_assign (r_bm ?_)); refine' r_var ?wa ?_; (case wa => assumption); refine a_bm ?wa ?_; (case wa => (refine' bmOk_list ?wz (by intro e; cases e); (case wz => assumption))); refine r_pures rfl (a_bm2 ?_); refine' b_pop ?wa ?wb ?_; (case wa => assumption); (case wb => with_reducible assumption); refine a_asg (t_var (a_nx (r_seqN (r_seq (r_site (r_te (r_prim2 (r_primP rfl ?_)))))))))
      rw [hdl]
      have gt : (σ'.set (σ.length + 2) (.list (Tm.pvs todo)))[σ.length + 2]? = some (.list (Tm.pvs todo)) := by (refine get_set_eq (o := ?_) ?_; rotate_left; assumption)
      have F1 : Fr (fun _ => False) σ (σ'.set (σ.length + 2) (.list (Tm.pvs todo))) := F.setNew (by (first | lia | omega))
      have gd : (σ'.set (σ.length + 2) (.list (Tm.pvs todo)))[σ.length]? = some (.dict (seen.map fun x => (PV.int x, PV.bool true))) := by (refine get_set_ne (by first | (first | lia | omega) | decide) ?_; assumption)
      have gr : (σ'.set (σ.length + 2) (.list (Tm.pvs todo)))[σ.length + 1]? = some (.list (List.map PV.int seen)) := by (refine get_set_ne (by first | (first | lia | omega) | decide) ?_; assumption)
      generalize (σ'.set (σ.length + 2) (.list (Tm.pvs todo))) = τ at *
      rw [Tm.sizeL_app, hxs]
      have hsz := x.size_pos
      have back : ∀ (lm : LM) (hv' : ∀ n ∈ t.vars, n ∈ seen ∨ n ∈ Tm.varsL todo) (_ : lm 1 = some (.obj σ.length)) (_ : lm 2 = some (.obj (σ.length + 1))) (_ : lm 3 = some (.obj (σ.length + 2))), ∃ m, m < Tm.sizeL todo + x.size ∧ (fun c lm σ' => ∃ todo seen, lm 1 = some (.obj σ.length) ∧ lm 2 = some (.obj (σ.length + 1)) ∧ lm 3 = some (.obj (σ.length + 2)) ∧ σ'[σ.length]? = some (.dict (seen.map fun x => (PV.int x, PV.bool true))) ∧ σ'[σ.length + 1]? = some (.list (List.map PV.int seen)) ∧
          σ'[σ.length + 2]? = some (.list (Tm.pvs todo)) ∧ Fr (fun _ => False) σ σ' ∧ (∀ n ∈ t.vars, n ∈ seen ∨ n ∈ Tm.varsL todo) ∧ c = Tm.sizeL todo ∧ seen.length + Tm.sizeL todo ≤ 800) m lm τ :=
        fun lm hv' a b c => ⟨_, by (first | lia | omega), todo, seen, a, b, c, gd, gr, gt, F1, hv', rfl, by (first | lia | omega)⟩
      have hvx : ∀ n ∈ t.vars, n ∈ seen ∨ n ∈ Tm.varsL todo ∨ n ∈ x.vars := fun n hn => by
        rcases hv n hn with h | h
        · exact .inl h
        · rw [Tm.varsL_app, List.mem_append] at h
          rcases h with h | h
          · exact .inr (.inl h)
          · exact .inr (.inr (by simpa [Tm.varsL] using h))
      cases x with
      | a n =>
        simp only [Tm.pv]
        (refine p_idxT rfl rfl (a_p2 (r_str (a_p2b (p_eq rfl (r_truB ?_))))); refine a_siteF ?wa ?_; (case wa => decide); refine r_seq (r_site (r_te (r_primP rfl (p_eq rfl (r_truB ?_))))); refine a_siteF ?wa ?_; (case wa => decide); refine r_skip (r_seqN (r_skip (r_seqN (r_skip (r_loopN ?_))))))
        refine back _ (fun n hn => (hvx n hn).imp id fun h => h.elim id fun h => by simp [Tm.vars] at h) h1 h2 h3
      | i n =>
        simp only [Tm.pv]
        (refine p_idxT rfl rfl (a_p2 (r_str (a_p2b (p_eq rfl (r_truB ?_))))); refine a_siteF ?wa ?_; (case wa => decide); refine r_seq (r_site (r_te (r_primP rfl (p_eq rfl (r_truB ?_))))); refine a_siteF ?wa ?_; (case wa => decide); refine r_skip (r_seqN (r_skip (r_seqN (r_skip (r_loopN ?_))))))
        refine back _ (fun n hn => (hvx n hn).imp id fun h => h.elim id fun h => by simp [Tm.vars] at h) h1 h2 h3
      | s f args =>
        simp only [Tm.pv]
        have hz : (Tm.pvs todo).length + (Tm.pvs args).length ≤ big := by
          rw [Tm.pvs_len, Tm.pvs_len]
          have := Tm.len_sizeL todo
          have := Tm.len_sizeL args
          have : (Tm.s f args).size = 1 + Tm.sizeL args := rfl
          unfold big; (first | lia | omega)
        (refine p_idxT rfl rfl (a_p2 (r_str (a_p2b (p_eq rfl (r_truB ?_))))); refine a_siteF ?wa ?_; (case wa => decide); refine r_seq (r_site (r_te (r_primP rfl (p_eq rfl (r_truB (a_siteT rfl (r_seq (r_expr (r_bm ?_))))))))); refine' r_var ?wa ?_; (case wa => assumption); refine a_bm ?wa ?_; (case wa => (refine' bmOk_list ?wz (by intro e; cases e); (case wz => assumption))); refine r_pures rfl (a_bm2 ?_); refine' b_extendRev ?wa ?wb ?wc ?_; (case wa => assumption); (case wb => rfl); (case wc => assumption); refine a_exp (r_seqN (r_skip (r_seqN (r_skip (r_seqN (r_skip (r_loopN ?_))))))))
        have : (Tm.s f args).size = 1 + Tm.sizeL args := rfl
        have e : Tm.pvs todo ++ (Tm.pvs args).reverse = Tm.pvs (todo ++ args.reverse) := by simp [Tm.pvs_eq]
        rw [e]
        refine ⟨Tm.sizeL (todo ++ args.reverse), ?_, todo ++ args.reverse, seen, h1, h2, h3, ?_, ?_, ?_, F1.setNew (by (first | lia | omega)), fun n hn => ?_, rfl, ?_⟩
        · rw [Tm.sizeL_app, Tm.sizeL_rev]; (first | lia | omega)
        · (refine get_set_ne (by first | (first | lia | omega) | decide) ?_; assumption)
        · (refine get_set_ne (by first | (first | lia | omega) | decide) ?_; assumption)
        · (refine get_set_eq (o := ?_) ?_; rotate_left; assumption)
        · rw [Tm.varsL_app, List.mem_append, Tm.varsL_rev]
          exact (hvx n hn).imp id fun h => h.imp id fun h => h
        · rw [Tm.sizeL_app, Tm.sizeL_rev]; (first | lia | omega)
      | v n =>
        simp only [Tm.pv]
        have hin : inS τ (.int n) (.obj σ.length) = some (decide (n ∈ seen)) := by
          rw [inS_dict gd (like_ints n seen), dget_ints]
        by_cases hs : n ∈ seen
        · rw [decide_eq_true hs] at hin
          (refine p_idxT rfl rfl (a_p2 (r_str (a_p2b (p_eq rfl (r_truB (a_siteT rfl (r_seq (r_site (r_te ?_))))))))); refine r_prim2 (r_pure rfl (a_p2 ?_)); refine' r_var ?wa ?_; (case wa => assumption); refine a_p2b ?_; refine' p_notIn ?wa ?_; (case wa => with_reducible assumption); refine r_truB ?_; refine a_siteF ?wa ?_; (case wa => decide); refine r_skip (r_seqN (r_skip (r_seqN (r_skip (r_loopN ?_))))))
          refine back _ (fun y hy => (hvx y hy).elim .inl fun h => h.elim .inr fun h => .inl ?_) h1 h2 h3
          have : y = n := by simpa [Tm.vars] using h
          rw [this]; exact hs
        · have hlk := like_ints n seen
          have hlen : (seen.map fun x => (PV.int x, PV.bool true)).length < 1000 := by rw [List.length_map]; (first | lia | omega)
          have hlen2 : (List.map PV.int seen).length < big := by rw [List.length_map]; unfold big; (first | lia | omega)
          rw [decide_eq_false hs] at hin
          (refine p_idxT rfl rfl (a_p2 (r_str (a_p2b (p_eq rfl (r_truB (a_siteT rfl (r_seq (r_site (r_te ?_))))))))); refine r_prim2 (r_pure rfl (a_p2 ?_)); refine' r_var ?wa ?_; (case wa => assumption); refine a_p2b ?_; refine' p_notIn ?wa ?_; (case wa => with_reducible assumption); refine r_truB (a_siteT rfl (r_seq (r_assign (r_bool (a_asg (t_idx ?_)))))); refine' r_var ?wa ?_; (case wa => assumption); refine a_ti (r_pure rfl (a_ti2 ?_)); refine' s_dict ?wa ?wb ?wc ?_; (case wa => assumption); (case wb => assumption); (case wc => assumption); refine a_ta2 (a_nx (r_seqN (r_seq (r_expr (r_bm ?_))))); refine' r_var ?wa ?_; (case wa => assumption); refine a_bm ?wa ?_; (case wa => (refine' bmOk_list ?wz (by intro e; cases e); (case wz => (refine get_set_ne (by first | (first | lia | omega) | decide) ?_; assumption)))); refine r_pures rfl (a_bm2 ?_); refine' b_append ?wa ?wb ?_; (case wa => (refine get_set_ne (by first | (first | lia | omega) | decide) ?_; assumption)); (case wb => assumption); refine a_exp (r_seqN (r_skip (r_seqN (r_skip (r_seqN (r_skip (r_loopN ?_))))))))
          have hg : dget (.int n) (seen.map fun x => (PV.int x, PV.bool true)) = none := by
            have := dget_ints n seen
            rw [decide_eq_false hs] at this
            simpa using this
          rw [dput_new hg]
          have : (Tm.v n).size = 1 := rfl
          refine ⟨Tm.sizeL todo, by (first | lia | omega), todo, seen ++ [n], h1, h2, h3, ?_, ?_, ?_, (F1.setNew (by (first | lia | omega))).setNew (by (first | lia | omega)), fun y hy => ?_, rfl, by simp; (first | lia | omega)⟩
          · rw [List.map_append]; (refine get_set_ne (by first | (first | lia | omega) | decide) ?_; refine get_set_eq (o := ?_) ?_; rotate_left; assumption)
          · rw [List.map_append]; exact get_set_eq (o := .list (List.map PV.int seen)) (by (refine get_set_ne (by first | (first | lia | omega) | decide) ?_; assumption))
          · (refine get_set_ne (by first | (first | lia | omega) | decide) ?_; refine get_set_ne (by first | (first | lia | omega) | decide) ?_; assumption)
          · rw [List.mem_append]
            rcases hvx y hy with h | h | h
            · exact .inl (.inl h)
            · exact .inr h
            · exact .inl (.inr (by simpa [Tm.vars] using h))

theorem variables_S (T : TabP P) {t : Tm} (hn : t.size ≤ 800) (q : ∀ σ' U ku, Fr (fun _ => False) σ σ' → σ.length ≤ ku → σ'[ku]? = some (.list (List.map PV.int U)) → (∀ n ∈ t.vars, n ∈ U) → Q (.obj ku) σ') : wpCall P (m + 2) 223 [t.pv] σ Q := by
  have hbig : (1 : Nat) ≤ big := by decide
  refine enter T.f223 rfl ?_
  unfold b_223
  (refine r_seq (r_ret (r_call (r_econs (r_list (r_pures rfl ?_))))); refine a_list ?wa ?_; (case wa => assumption); refine a_cons1 (r_pures rfl (a_cons2 (a_call ?_))))
  refine variables_of_S T (t := t) get_new hn fun σ' U F h hv => ?_
  refine a_ret (r_seqR (r_retR ?_))
  exact q σ' U _ ((Fr.new _).trans F) (by simp; (first | lia | omega)) h hv
end

inductive Bd where
  | lst (items : List Tm) | nil | cut
  | atom (n : Nat) | cmp (f a : Nat) (args : List Tm) | curly (g : Tm) | var (n : Int)
  | seq (f : Int) (l r : Bd)
namespace Bd
noncomputable def tm : Bd → Tm
  | lst items => listT items (.a 0) | nil => .a 0 | cut => .a 15
  | atom n => .a n | cmp f _ args => .s f args | curly g => .s 9 [g] | var n => .v n
  | seq f l r => .s f [l.tm, r.tm]
noncomputable def dp : Bd → Nat
  | seq _ l r => max l.dp r.dp + 1 | _ => 0
noncomputable def nv : Bd → Nat
  | seq _ l r => 1 + l.nv + r.nv | _ => 0
noncomputable def ok (S : Sym) : Bd → Prop
  | lst items => items.length ≤ 1000 ∧ ∃ t r, items = t :: r
  | nil => True | cut => True
  | atom n => n ≠ 0 ∧ n ≠ 15 ∧ n < 40
  | cmp f a args => S.funs[f]? = some ((a : Int), (args.length : Int)) ∧ args.length ≤ 6 ∧ 32 ≤ f ∧ a ≠ 8
  | curly _ => True | var _ => True
  | seq f l r => f = 1 ∧ l.ok S ∧ r.ok S
theorem ok_le {S S' : Sym} (h : S.le S') : ∀ {b : Bd}, b.ok S → b.ok S'
  | lst _, x => x | nil, x => x | cut, x => x | atom _, x => x
  | cmp _ _ _, x => ⟨le_fun h x.1, x.2⟩
  | curly _, x => x | var _, x => x
  | seq _ _ _, x => ⟨x.1, ok_le h x.2.1, ok_le h x.2.2⟩
end Bd

noncomputable def Sym.fn (S : Sym) (p : Int × Int) : Int := ((S.funs.findIdx? fun q => decide (q = p)).getD 0 : Nat)
noncomputable def Sym.tn (S : Sym) (x : Str) : Int := ((S.texts.findIdx? fun q => decide (q = x)).getD 0 : Nat)
theorem findIdx_of {α : Type} [DecidableEq α] {l : List α} {i : Nat} {x : α} (hn : l.Nodup) (h : l[i]? = some x) : l.findIdx? (fun q => decide (q = x)) = some i := by
  obtain ⟨hi, e⟩ := List.getElem?_eq_some_iff.mp h
  refine List.findIdx?_eq_some_iff_getElem.mpr ⟨hi, by simpa using e, fun j hj => ?_⟩
  simp only [Bool.not_eq_true, decide_eq_false_iff_not]
  intro q
  have : j = i := by
    have := (List.getElem_inj (h₀ := Nat.lt_trans hj hi) (h₁ := hi) hn).mp (q.trans e.symm)
    exact this
  (first | lia | omega)
theorem Sym.fn_eq {S : Sym} (ok : Sok S) {i : Nat} {p : Int × Int} (h : S.funs[i]? = some p) : S.fn p = i := by
  unfold Sym.fn; rw [findIdx_of ok.nf h]; rfl
theorem Sym.tn_eq {S : Sym} (ok : Sok S) {i : Nat} {x : Str} (h : S.texts[i]? = some x) : S.tn x = i := by
  unfold Sym.tn; rw [findIdx_of ok.nt h]; rfl
theorem Sym.fn_le {S S' : Sym} (ok : Sok S) (ok' : Sok S') (h : S.le S') {p : Int × Int} (hp : p ∈ S.funs) : S'.fn p = S.fn p := by
  obtain ⟨i, hi, e⟩ := List.mem_iff_getElem.mp hp
  have e' : S.funs[i]? = some p := by rw [List.getElem?_eq_getElem hi, e]
  rw [Sym.fn_eq ok e', Sym.fn_eq ok' (le_fun h e')]
theorem Sym.tn_le {S S' : Sym} (ok : Sok S) (ok' : Sok S') (h : S.le S') {p : Str} (hp : p ∈ S.texts) : S'.tn p = S.tn p := by
  obtain ⟨i, hi, e⟩ := List.mem_iff_getElem.mp hp
  have e' : S.texts[i]? = some p := by rw [List.getElem?_eq_getElem hi, e]
  rw [Sym.tn_eq ok e', Sym.tn_eq ok' (le_text h e')]

noncomputable def G (S : Sym) (φ : Nat → Int) : Bd → Tm → Tm → Nat → Tm
  | .lst items, h, t, _ => .s 10 [h, listT items t]
  | .nil, h, t, _ => .s 10 [h, t]
  | .cut, h, t, _ => .s 1 [.a 15, .s 10 [h, t]]
  | .atom n, h, t, _ => .s (S.fn (n, 2)) [h, t]
  | .cmp _ a args, h, t, _ => .s (S.fn (a, ((args.length + 2 : Nat) : Int))) (args ++ [h, t])
  | .curly g, h, t, _ => .s 1 [g, .s 10 [h, t]]
  | .var n, h, t, _ => .s (S.fn (S.tn "phrase", 3)) [.v n, h, t]
  | .seq f l r, h, t, c => .s f [G S φ l h (.v (φ c)) (c + 1), G S φ r (.v (φ c)) t (c + 1 + l.nv)]
noncomputable def Bd.has (S : Sym) : Bd → Prop
  | .atom n => ((n : Int), 2) ∈ S.funs
  | .cmp _ a args => ((a : Int), ((args.length + 2 : Nat) : Int)) ∈ S.funs
  | .var _ => ("phrase" : Str) ∈ S.texts ∧ (S.tn "phrase", 3) ∈ S.funs
  | .seq _ l r => l.has S ∧ r.has S
  | _ => True
theorem le_memF {S S' : Sym} (h : S.le S') {p : Int × Int} (hp : p ∈ S.funs) : p ∈ S'.funs := by
  obtain ⟨_, ⟨l, e⟩⟩ := h; rw [e]; exact List.mem_append_left _ hp
theorem le_memT {S S' : Sym} (h : S.le S') {p : Str} (hp : p ∈ S.texts) : p ∈ S'.texts := by
  obtain ⟨⟨l, e⟩, _⟩ := h; rw [e]; exact List.mem_append_left _ hp
theorem Bd.has_le {S S' : Sym} (ok : Sok S) (ok' : Sok S') (h : S.le S') : ∀ {b : Bd}, b.has S → b.has S'
  | .lst _, x => x | .nil, x => x | .cut, x => x | .curly _, x => x
  | .atom _, x => le_memF h x | .cmp _ _ _, x => le_memF h x
  | .var _, x => ⟨le_memT h x.1, by rw [Sym.tn_le ok ok' h x.1]; exact le_memF h x.2⟩
  | .seq _ _ _, x => ⟨Bd.has_le ok ok' h x.1, Bd.has_le ok ok' h x.2⟩
theorem G_le {S S' : Sym} (ok : Sok S) (ok' : Sok S') (h : S.le S') (φ : Nat → Int) : ∀ {b : Bd} {x y : Tm} {c : Nat}, b.has S → G S' φ b x y c = G S φ b x y c
  | .lst _, _, _, _, _ => rfl | .nil, _, _, _, _ => rfl | .cut, _, _, _, _ => rfl | .curly _, _, _, _, _ => rfl
  | .atom _, _, _, _, x => by simp only [G]; rw [Sym.fn_le ok ok' h x]
  | .cmp _ _ _, _, _, _, x => by simp only [G]; rw [Sym.fn_le ok ok' h x]
  | .var _, _, _, _, x => by simp only [G]; rw [Sym.tn_le ok ok' h x.1, Sym.fn_le ok ok' h x.2]
  | .seq _ l r, _, _, _, x => by simp only [G]; rw [G_le (b := l) ok ok' h φ x.1, G_le (b := r) ok ok' h φ x.2]

noncomputable def Bd.spine : Bd → List Bd
  | .seq f l r => if f = 1 then l :: r.spine else [.seq f l r]
  | b => [b]
noncomputable def gl (S : Sym) (φ : Nat → Int) : List Bd → Tm → Tm → Nat → List Tm
  | [], _, _, _ => []
  | [p], h, t, c => [G S φ p h t c]
  | p :: q :: r, h, t, c => G S φ p h (.v (φ c)) (c + 1) :: gl S φ (q :: r) (.v (φ c)) t (c + 1 + p.nv)
noncomputable def conjL : List Tm → Tm
  | [] => .a 16
  | [g] => g
  | g :: r => .s 1 [g, conjL r]
theorem conjL_snoc (z : Tm) : ∀ pre : List Tm, conjL (pre ++ [z]) = conjT pre z
  | [] => rfl
  | [g] => rfl
  | g :: h :: r => by
    have := conjL_snoc z (h :: r)
    rw [List.cons_append, List.cons_append, conjL, conjT, List.foldr_cons]
    · rw [← List.cons_append, this]; rfl
    · simp
theorem Bd.spine_ne (b : Bd) : ∃ p r, b.spine = p :: r := by
  cases b with
  | seq f l r => unfold Bd.spine; split <;> exact ⟨_, _, rfl⟩
  | _ => exact ⟨_, _, rfl⟩
theorem G_spine (S : Sym) (φ : Nat → Int) : ∀ (b : Bd) (x y : Tm) (c : Nat), conjL (gl S φ b.spine x y c) = G S φ b x y c
  | .seq f l r, x, y, c => by
    unfold Bd.spine
    by_cases hf : f = 1
    · subst hf
      rw [if_pos rfl]
      obtain ⟨p, q, e⟩ := r.spine_ne
      have ih := G_spine S φ r (.v (φ c)) y (c + 1 + l.nv)
      rw [e] at ih ⊢
      obtain ⟨g, rest, eg⟩ : ∃ g rest, gl S φ (p :: q) (.v (φ c)) y (c + 1 + l.nv) = g :: rest := by
        cases q with
        | nil => exact ⟨_, _, rfl⟩
        | cons => exact ⟨_, _, rfl⟩
      simp only [gl, G]
      rw [eg] at ih ⊢
      rw [conjL, ih]
      simp
    · rw [if_neg hf]; rfl
  | .lst _, _, _, _ => rfl | .nil, _, _, _ => rfl | .cut, _, _, _ => rfl | .curly _, _, _, _ => rfl | .atom _, _, _, _ => rfl | .cmp _ _ _, _, _, _ => rfl | .var _, _, _, _ => rfl
noncomputable def nvs : List Bd → Nat
  | [] => 0 | [p] => p.nv | p :: q :: r => 1 + p.nv + nvs (q :: r)
theorem nv_spine : ∀ b : Bd, nvs b.spine = b.nv
  | .seq f l r => by
    unfold Bd.spine
    by_cases hf : f = 1
    · rw [if_pos hf]
      obtain ⟨p, q, e⟩ := r.spine_ne
      have ih := nv_spine r
      rw [e] at ih ⊢
      simp only [nvs, Bd.nv]; (first | lia | omega)
    · rw [if_neg hf]; rfl
  | .lst _ => rfl | .nil => rfl | .cut => rfl | .curly _ => rfl | .atom _ => rfl | .cmp _ _ _ => rfl | .var _ => rfl

noncomputable def fixedF : List (Int × Int) := [(1, 2), (7, 2), (9, 2), (10, 2), (11, 1), (12, 2), (12, 1), (13, 1), (14, 2), (2, 1), (20, 2), (21, 2), (3, 1), (3, 2), (4, 2), (6, 2), (22, 2), (26, 1), (27, 3), (28, 1), (15, 0), (16, 0), (17, 0), (18, 0), (19, 1), (19, 2), (19, 3), (19, 4), (19, 5), (19, 6), (19, 7), (19, 8)]
noncomputable def S0 : Sym := ⟨fixedT, fixedF⟩
theorem bar_ge {S : Sym} (h : S0.le S) {i : Nat} (e : S.funs[i]? = some (8, 2)) : 32 ≤ i := by
  rcases Nat.lt_or_ge i 32 with hi | hi
  · obtain ⟨_, ⟨l, e'⟩⟩ := h
    rw [e', List.getElem?_append_left (by exact hi)] at e
    have : ((8 : Int), (2 : Int)) ∈ S0.funs := List.mem_of_getElem? e
    exact absurd this (by decide +kernel)
  · exact hi

noncomputable def nxs (u : List Int) (lo : Int) : Nat → Int
  | 0 => lo
  | c + 1 => free u (nxs u lo c) + 1
noncomputable def φt (u : List Int) (lo : Int) (c : Nat) : Int := free u (nxs u lo c)

noncomputable def MM (k kf : Nat) (j : Nat) : Prop := symM k j ∨ j = kf
noncomputable def TrS (P : Pg) (fa : Nat) (b : Bd) (m : Nat) : Prop := ∀ {σ : St} {k : Nat} {S : Sym} {kn kf ku : Nat} {u : List Int} {lo : Int} {c : Nat} {x y : Tm} {Q : EQ}, SymAt σ k S → Sok S → S0.le S → b.ok S → GVAt σ kn kf ku u (nxs u lo c) → k + 4 < kn → k + 4 < kf → k + 4 < ku →
  (∀ S' σ', S.le S' → b.has S' → SymAt σ' k S' → Sok S' → GVAt σ' kn kf ku u (nxs u lo (c + b.nv)) → Fr (MM k kf) σ σ' → Q (G S' (φt u lo) b x y c).pv σ') → wpCall P m fa [.obj k, b.tm.pv, x.pv, y.pv, .obj kn] σ Q

section
variable {P : Pg} {σ σ' : St} {k m : Nat} {S : Sym} {Q : EQ} {kn kf ku : Nat} {u : List Int} {n : Int}
theorem gv_sym (h : GVAt σ kn kf ku u n) (F : Fr (symM k) σ σ') (h1 : k + 4 < kn) (h2 : k + 4 < kf) (h3 : k + 4 < ku) : GVAt σ' kn kf ku u n :=
  h.frame F (by unfold symM; (first | lia | omega)) (by unfold symM; (first | lia | omega)) (by unfold symM; (first | lia | omega))
theorem gv_no (h : GVAt σ kn kf ku u n) (F : Fr (fun _ => False) σ σ') : GVAt σ' kn kf ku u n := h.frame F id id id
theorem sym_kf (h : SymAt σ k S) (F : Fr (fun j => j = kf) σ σ') (h2 : k + 4 < kf) : SymAt σ' k S := h.frame F fun j _ _ => by (first | lia | omega)
theorem sym_no (h : SymAt σ k S) (F : Fr (fun _ => False) σ σ') : SymAt σ' k S := h.frame F fun _ _ _ => id
theorem fr_sym (F : Fr (symM k) σ σ') : Fr (MM k kf) σ σ' := F.mono fun _ => .inl
theorem fr_kf (F : Fr (fun j => j = kf) σ σ') : Fr (MM k kf) σ σ' := F.mono fun _ => .inr
theorem fr_no {M : Nat → Prop} (F : Fr (fun _ => False) σ σ') : Fr M σ σ' := F.mono fun _ h => h.elim

theorem part_var (T : TabP P) (n : Int) : TrS P 371 (.var n) (m + 3) := by
  intro σ k S kn kf ku u lo c x y Q hS ok h0 hb hg h1 h2 h3 q
  have hbig2 : (2 : Nat) ≤ big := by decide
  have hbig3 : (3 : Nat) ≤ big := by decide
  have ei := hS.i
  refine enter T.f371 rfl ?_
  unfold b_371
  simp only [Bd.tm, Tm.pv]
  refine r_seq (r_assign (r_callP rfl ?_))
  refine struct_S T ?_
  (refine a_asg (t_var (a_nx (r_seqN (r_seq (r_site (r_te (r_primP rfl (p_eq rfl (r_truB ?_))))))))); refine a_siteT rfl (r_seq (r_ret (r_call (r_econs (r_meth (r_var rfl ?_)))))); refine' r_methK ?wa ?wb ?wc ?_; (case wa => assumption); (case wb => exact TabP.m11 (by assumption)); (case wc => rfl); refine r_pures rfl (a_meth ?_))
  refine funcS T hS ok (by decide +kernel) (by (first | lia | omega)) fun a i σ₁ e1 e2 s1 o1 F1 => ?_
  refine a_cons1 (r_pures rfl (a_cons2 (a_call ?_)))
  refine struct_S T ?_
  refine a_ret (r_seqR (r_seqR (r_retR ?_)))
  have ha := Sym.tn_eq (S := (S.addA "phrase").addF a 3) o1 (le_text (Sym.le_addF _ _ _) e1)
  have hi := Sym.fn_eq o1 e2
  have := q _ σ₁ ((S.le_addA _).trans (Sym.le_addF _ a 3)) ⟨List.mem_of_getElem? (le_text (Sym.le_addF _ _ _) e1), by rw [ha]; exact List.mem_of_getElem? e2⟩ s1 o1 (gv_sym hg F1 h1 h2 h3) (fr_sym F1)
  simp only [G] at this
  rw [ha, hi] at this
  exact this
theorem part_nil (T : TabP P) : TrS P 371 .nil (m + 3) := by
  intro σ k S kn kf ku u lo c x y Q hS ok h0 hb hg h1 h2 h3 q
  have hbig2 : (2 : Nat) ≤ big := by decide
  refine enter T.f371 rfl ?_
  unfold b_371
  simp only [Bd.tm, Tm.pv]
  refine r_seq (r_assign (r_callP rfl ?_))
  refine struct_S T ?_
  (refine a_asg (t_var (a_nx (r_seqN (r_seq (r_site (r_te (r_primP rfl (p_eq rfl (r_truB ?_))))))))); refine a_siteF ?wa ?_; (case wa => decide); refine r_skip (r_seqN (r_seq (r_site (r_te (r_primP rfl (p_eq rfl (r_truB ?_))))))); refine a_siteF ?wa ?_; (case wa => decide); refine r_skip (r_seqN (r_seq (r_site (r_te (r_primP rfl (p_eq rfl (r_truB (a_siteT rfl (r_seq ?_))))))))); refine r_site (r_te (r_primP rfl (p_eq rfl (r_truB (a_siteT rfl (r_seq (r_ret (r_var rfl (a_ret ?_))))))))); refine r_seqR (r_seqR (r_seqR (r_retR ?_))))
  exact q S σ S.le_refl trivial hS ok hg Fr.refl
theorem part_cut (T : TabP P) : TrS P 371 .cut (m + 3) := by
  intro σ k S kn kf ku u lo c x y Q hS ok h0 hb hg h1 h2 h3 q
  have hbig2 : (2 : Nat) ≤ big := by decide
  refine enter T.f371 rfl ?_
  unfold b_371
  simp only [Bd.tm, Tm.pv]
  refine r_seq (r_assign (r_callP rfl ?_))
  refine struct_S T ?_
  (refine a_asg (t_var (a_nx (r_seqN (r_seq (r_site (r_te (r_primP rfl (p_eq rfl (r_truB ?_))))))))); refine a_siteF ?wa ?_; (case wa => decide); refine r_skip (r_seqN (r_seq (r_site (r_te (r_primP rfl (p_eq rfl (r_truB ?_))))))); refine a_siteF ?wa ?_; (case wa => decide); refine r_skip (r_seqN (r_seq (r_site (r_te (r_primP rfl (p_eq rfl (r_truB (a_siteT rfl (r_seq ?_))))))))); refine r_site (r_te (r_primP rfl (p_eq rfl (r_truB ?_)))); refine a_siteF ?wa ?_; (case wa => decide); refine r_skip (r_seqN (r_seq (r_site (r_te (r_primP rfl (p_eq rfl (r_truB (a_siteT rfl (r_seq ?_))))))))); refine r_ret (r_call (r_econs (r_list (r_pures rfl ?_)))); refine a_list ?wa ?_; (case wa => assumption); refine a_cons1 (r_pures rfl (a_cons2 (a_call ?_))))
  refine conjunction_S T (pre := [.a 15]) (z := .s 10 [x, y]) (by decide) get_new ?_
  refine a_ret (r_seqR (r_seqR (r_seqR (r_retR ?_))))
  exact q S _ S.le_refl trivial (sym_no hS (Fr.new _)) ok (gv_no hg (Fr.new _)) (Fr.new _)
theorem part_atom (T : TabP P) (n : Nat) : TrS P 371 (.atom n) (m + 4) := by
  intro σ k S kn kf ku u lo c x y Q hS ok h0 hb hg h1 h2 h3 q
  have hbig2 : (2 : Nat) ≤ big := by decide
  obtain ⟨n0, n15, n40⟩ := hb
  have n0' : ¬ (n : Int) = 0 := by (first | lia | omega)
  have n15' : ¬ (n : Int) = 15 := by (first | lia | omega)
  refine enter T.f371 rfl ?_
  unfold b_371
  simp only [Bd.tm, Tm.pv]
  refine r_seq (r_assign (r_callP rfl ?_))
  refine struct_S T ?_
  (refine a_asg (t_var (a_nx (r_seqN (r_seq (r_site (r_te (r_primP rfl (p_eq rfl (r_truB ?_))))))))); refine a_siteF ?wa ?_; (case wa => decide); refine r_skip (r_seqN (r_seq (r_site (r_te (r_primP rfl (p_eq rfl (r_truB ?_))))))); refine a_siteF ?wa ?_; (case wa => decide); refine r_skip (r_seqN (r_seq (r_site (r_te (r_primP rfl (p_eq rfl (r_truB (a_siteT rfl (r_seq ?_))))))))); refine r_site (r_te (r_primP rfl (p_eq rfl (r_truB ?_)))); refine a_siteF ?wa ?_; (case wa => (simp only [decide_eq_true_eq, decide_eq_false_iff_not, Bool.not_eq_true, Bool.not_eq_true', Bool.not_eq_false, Bool.not_eq_false', decide_not, Bool.not_not, Bool.and_false, Bool.false_and, Bool.or_false, Bool.false_or, Bool.true_and, Bool.and_true, Bool.false_eq_true, Bool.and_eq_true, Bool.or_eq_true, not_true_eq_false, not_false_eq_true]; assumption)); refine r_skip (r_seqN (r_seq (r_site (r_te (r_primP rfl (p_eq rfl (r_truB ?_))))))); refine a_siteF ?wa ?_; (case wa => (simp only [decide_eq_true_eq, decide_eq_false_iff_not, Bool.not_eq_true, Bool.not_eq_true', Bool.not_eq_false, Bool.not_eq_false', decide_not, Bool.not_not, Bool.and_false, Bool.false_and, Bool.or_false, Bool.false_or, Bool.true_and, Bool.and_true, Bool.false_eq_true, Bool.and_eq_true, Bool.or_eq_true, not_true_eq_false, not_false_eq_true]; assumption)); refine r_skip (r_seqN (r_seq (r_ret (r_callP rfl ?_)))))
  refine nonterminal_a (m := m) T hS ok n40 fun S' i σ₁ l e s1 o1 F1 => ?_
  refine a_ret (r_seqR (r_seqR (r_retR ?_)))
  have := q S' σ₁ l (List.mem_of_getElem? e) s1 o1 (gv_sym hg F1 h1 h2 h3) (fr_sym F1)
  simp only [G] at this
  rw [Sym.fn_eq o1 e] at this
  exact this
theorem part_curly (T : TabP P) (g : Tm) : TrS P 371 (.curly g) (m + 4) := by
  intro σ k S kn kf ku u lo c x y Q hS ok h0 hb hg h1 h2 h3 q
  have hbig2 : (2 : Nat) ≤ big := by decide
  have ei := hS.i
  refine enter T.f371 rfl ?_
  unfold b_371
  simp only [Bd.tm, Tm.pv, Tm.pvs]
  refine r_seq (r_assign (r_callP rfl ?_))
  refine struct_S T ?_
  (refine a_asg (t_var (a_nx (r_seqN (r_seq (r_site (r_te (r_primP rfl (p_eq rfl (r_truB ?_))))))))); refine a_siteF ?wa ?_; (case wa => decide); refine r_skip (r_seqN (r_seq (r_site (r_te (r_primP rfl (p_eq rfl (r_truB ?_))))))); refine a_siteF ?wa ?_; (case wa => decide); refine r_skip (r_seqN (r_seq (r_site (r_te (r_primP rfl (p_eq rfl (r_truB ?_))))))); refine a_siteF ?wa ?_; (case wa => decide); refine r_skip (r_seqN (r_seq (r_assign (r_pure rfl (a_asg (t_var (a_nx (r_seqN (r_seq ?_))))))))); refine r_assign (r_meth (r_var rfl ?_)); refine' r_methK ?wa ?wb ?wc ?_; (case wa => assumption); (case wb => exact TabP.m10 (by assumption)); (case wc => rfl); refine r_pures rfl (a_meth ?_))
  refine functorS T hS ok (by (first | lia | omega)) fun i σ₁ e1 s1 o1 F1 => ?_
  have hge := bar_ge (h0.trans (S.le_addF 8 2)) e1
  have hi : ¬ ((9 : Int) = (i : Int)) := by (first | lia | omega)
  (refine a_asg (t_var (a_nx (r_seqN (r_seq (r_site (r_te (r_primP rfl (p_eq rfl (r_truB ?_))))))))); refine a_siteF ?wa ?_; (case wa => decide); refine r_skip (r_seqN (r_seq (r_site (r_te (r_primP rfl (p_eq rfl (r_truB ?_))))))); refine a_siteF ?wa ?_; (case wa => decide); refine r_skip (r_seqN (r_seq (r_site (r_tor (r_te (r_primP rfl (p_eq rfl (r_truB ?_)))))))); refine a_orF ?wa ?_; (case wa => decide); refine r_te (r_primP rfl (p_eq rfl (r_truB ?_))); refine a_siteF ?wa ?_; (case wa => (simp only [decide_eq_true_eq, decide_eq_false_iff_not, Bool.not_eq_true, Bool.not_eq_true', Bool.not_eq_false, Bool.not_eq_false', decide_not, Bool.not_not, Bool.and_false, Bool.false_and, Bool.or_false, Bool.false_or, Bool.true_and, Bool.and_true, Bool.false_eq_true, Bool.and_eq_true, Bool.or_eq_true, not_true_eq_false, not_false_eq_true]; assumption)); refine r_skip (r_seqN (r_seq (r_site (r_te (r_primP rfl (p_eq rfl (r_truB ?_))))))); refine a_siteF ?wa ?_; (case wa => decide); refine r_skip (r_seqN (r_seq (r_site (r_te (r_primP rfl (p_eq rfl (r_truB ?_))))))); refine a_siteF ?wa ?_; (case wa => decide); refine r_skip (r_seqN (r_seq (r_site (r_te (r_primP rfl (p_eq rfl (r_truB (a_siteT rfl (r_seq ?_))))))))); refine r_ret (r_call (r_econs (r_list (r_pures rfl ?_)))); refine a_list ?wa ?_; (case wa => assumption); refine a_cons1 (r_pures rfl (a_cons2 (a_call ?_))))
  refine conjunction_S T (pre := [g]) (z := .s 10 [x, y]) (by simp) get_new ?_
  refine a_ret (r_seqR (r_seqR (r_retR ?_)))
  exact q _ _ (S.le_addF 8 2) trivial (sym_no s1 (Fr.new _)) o1 (gv_no (gv_sym hg F1 h1 h2 h3) (Fr.new _)) ((fr_sym F1).trans (Fr.new _))
theorem part_lst (T : TabP P) (items : List Tm) : TrS P 371 (.lst items) (m + 4) := by
  intro σ k S kn kf ku u lo c x y Q hS ok h0 hb hg h1 h2 h3 q
  have hbig2 : (2 : Nat) ≤ big := by decide
  have ei := hS.i
  obtain ⟨hn, t, r, rfl⟩ := hb
  refine enter T.f371 rfl ?_
  unfold b_371
  have e : (Bd.lst (t :: r)).tm.pv = .tup [.str "s", .int 0, .tup [t.pv, (listT r (.a 0)).pv]] := rfl
  rw [e]
  refine r_seq (r_assign (r_callP rfl ?_))
  refine struct_S T ?_
  (refine a_asg (t_var (a_nx (r_seqN (r_seq (r_site (r_te (r_primP rfl (p_eq rfl (r_truB ?_))))))))); refine a_siteF ?wa ?_; (case wa => decide); refine r_skip (r_seqN (r_seq (r_site (r_te (r_primP rfl (p_eq rfl (r_truB ?_))))))); refine a_siteF ?wa ?_; (case wa => decide); refine r_skip (r_seqN (r_seq (r_site (r_te (r_primP rfl (p_eq rfl (r_truB ?_))))))); refine a_siteF ?wa ?_; (case wa => decide); refine r_skip (r_seqN (r_seq (r_assign (r_pure rfl (a_asg (t_var (a_nx (r_seqN (r_seq ?_))))))))); refine r_assign (r_meth (r_var rfl ?_)); refine' r_methK ?wa ?wb ?wc ?_; (case wa => assumption); (case wb => exact TabP.m10 (by assumption)); (case wc => rfl); refine r_pures rfl (a_meth ?_))
  refine functorS T hS ok (by (first | lia | omega)) fun i σ₁ e1 s1 o1 F1 => ?_
  (refine a_asg (t_var (a_nx (r_seqN (r_seq (r_site (r_te (r_primP rfl (p_eq rfl (r_truB ?_))))))))); refine a_siteT rfl (r_seq (r_ret (r_callP rfl ?_))))
  refine terminals_S T (items := t :: r) hn fun σ₂ F2 => ?_
  refine a_ret (r_seqR (r_seqR (r_retR ?_)))
  exact q _ σ₂ (S.le_addF 8 2) trivial (sym_no s1 F2) o1 (gv_no (gv_sym hg F1 h1 h2 h3) F2) ((fr_sym F1).trans (fr_no F2))
theorem part_cmp (T : TabP P) (f a : Nat) (args : List Tm) : TrS P 371 (.cmp f a args) (m + 4) := by
  intro σ k S kn kf ku u lo c x y Q hS ok h0 hb hg h1 h2 h3 q
  have hbig2 : (2 : Nat) ≤ big := by decide
  have ei := hS.i
  obtain ⟨hf, hl, hge, ha⟩ := hb
  have f0 : ¬ (f : Int) = 0 := by (first | lia | omega)
  have f1 : ¬ (f : Int) = 1 := by (first | lia | omega)
  have f2 : ¬ (f : Int) = 2 := by (first | lia | omega)
  have f3 : ¬ (f : Int) = 3 := by (first | lia | omega)
  have f4 : ¬ (f : Int) = 4 := by (first | lia | omega)
  have f9 : ¬ (f : Int) = 9 := by (first | lia | omega)
  refine enter T.f371 rfl ?_
  unfold b_371
  simp only [Bd.tm, Tm.pv]
  refine r_seq (r_assign (r_callP rfl ?_))
  refine struct_S T ?_
  (refine a_asg (t_var (a_nx (r_seqN (r_seq (r_site (r_te (r_primP rfl (p_eq rfl (r_truB ?_))))))))); refine a_siteF ?wa ?_; (case wa => decide); refine r_skip (r_seqN (r_seq (r_site (r_te (r_primP rfl (p_eq rfl (r_truB ?_))))))); refine a_siteF ?wa ?_; (case wa => decide); refine r_skip (r_seqN (r_seq (r_site (r_te (r_primP rfl (p_eq rfl (r_truB ?_))))))); refine a_siteF ?wa ?_; (case wa => decide); refine r_skip (r_seqN (r_seq (r_assign (r_pure rfl (a_asg (t_var (a_nx (r_seqN (r_seq ?_))))))))); refine r_assign (r_meth (r_var rfl ?_)); refine' r_methK ?wa ?wb ?wc ?_; (case wa => assumption); (case wb => exact TabP.m10 (by assumption)); (case wc => rfl); refine r_pures rfl (a_meth ?_))
  refine functorS T hS ok (by (first | lia | omega)) fun i σ₁ e1 s1 o1 F1 => ?_
  have hf' := le_fun (S.le_addF 8 2) hf
  have fi : ¬ ((f : Int) = (i : Int)) := by
    intro q
    have : f = i := by (first | lia | omega)
    subst this
    rw [hf'] at e1
    injection e1 with e1; injection e1 with e1 _
    exact ha (by (first | lia | omega))
  (refine a_asg (t_var (a_nx (r_seqN (r_seq (r_site (r_te (r_primP rfl (p_eq rfl (r_truB ?_))))))))); refine a_siteF ?wa ?_; (case wa => (simp only [decide_eq_true_eq, decide_eq_false_iff_not, Bool.not_eq_true, Bool.not_eq_true', Bool.not_eq_false, Bool.not_eq_false', decide_not, Bool.not_not, Bool.and_false, Bool.false_and, Bool.or_false, Bool.false_or, Bool.true_and, Bool.and_true, Bool.false_eq_true, Bool.and_eq_true, Bool.or_eq_true, not_true_eq_false, not_false_eq_true]; assumption)); refine r_skip (r_seqN (r_seq (r_site (r_te (r_primP rfl (p_eq rfl (r_truB ?_))))))); refine a_siteF ?wa ?_; (case wa => (simp only [decide_eq_true_eq, decide_eq_false_iff_not, Bool.not_eq_true, Bool.not_eq_true', Bool.not_eq_false, Bool.not_eq_false', decide_not, Bool.not_not, Bool.and_false, Bool.false_and, Bool.or_false, Bool.false_or, Bool.true_and, Bool.and_true, Bool.false_eq_true, Bool.and_eq_true, Bool.or_eq_true, not_true_eq_false, not_false_eq_true]; assumption)); refine r_skip (r_seqN (r_seq (r_site (r_tor (r_te (r_primP rfl (p_eq rfl (r_truB ?_)))))))); refine a_orF ?wa ?_; (case wa => (simp only [decide_eq_true_eq, decide_eq_false_iff_not, Bool.not_eq_true, Bool.not_eq_true', Bool.not_eq_false, Bool.not_eq_false', decide_not, Bool.not_not, Bool.and_false, Bool.false_and, Bool.or_false, Bool.false_or, Bool.true_and, Bool.and_true, Bool.false_eq_true, Bool.and_eq_true, Bool.or_eq_true, not_true_eq_false, not_false_eq_true]; assumption)); refine r_te (r_primP rfl (p_eq rfl (r_truB ?_))); refine a_siteF ?wa ?_; (case wa => (simp only [decide_eq_true_eq, decide_eq_false_iff_not, Bool.not_eq_true, Bool.not_eq_true', Bool.not_eq_false, Bool.not_eq_false', decide_not, Bool.not_not, Bool.and_false, Bool.false_and, Bool.or_false, Bool.false_or, Bool.true_and, Bool.and_true, Bool.false_eq_true, Bool.and_eq_true, Bool.or_eq_true, not_true_eq_false, not_false_eq_true]; assumption)); refine r_skip (r_seqN (r_seq (r_site (r_te (r_primP rfl (p_eq rfl (r_truB ?_))))))); refine a_siteF ?wa ?_; (case wa => (simp only [decide_eq_true_eq, decide_eq_false_iff_not, Bool.not_eq_true, Bool.not_eq_true', Bool.not_eq_false, Bool.not_eq_false', decide_not, Bool.not_not, Bool.and_false, Bool.false_and, Bool.or_false, Bool.false_or, Bool.true_and, Bool.and_true, Bool.false_eq_true, Bool.and_eq_true, Bool.or_eq_true, not_true_eq_false, not_false_eq_true]; assumption)); refine r_skip (r_seqN (r_seq (r_site (r_te (r_primP rfl (p_eq rfl (r_truB ?_))))))); refine a_siteF ?wa ?_; (case wa => (simp only [decide_eq_true_eq, decide_eq_false_iff_not, Bool.not_eq_true, Bool.not_eq_true', Bool.not_eq_false, Bool.not_eq_false', decide_not, Bool.not_not, Bool.and_false, Bool.false_and, Bool.or_false, Bool.false_or, Bool.true_and, Bool.and_true, Bool.false_eq_true, Bool.and_eq_true, Bool.or_eq_true, not_true_eq_false, not_false_eq_true]; assumption)); refine r_skip (r_seqN (r_seq (r_site (r_te (r_primP rfl (p_eq rfl (r_truB ?_))))))); refine a_siteF ?wa ?_; (case wa => (simp only [decide_eq_true_eq, decide_eq_false_iff_not, Bool.not_eq_true, Bool.not_eq_true', Bool.not_eq_false, Bool.not_eq_false', decide_not, Bool.not_not, Bool.and_false, Bool.false_and, Bool.or_false, Bool.false_or, Bool.true_and, Bool.and_true, Bool.false_eq_true, Bool.and_eq_true, Bool.or_eq_true, not_true_eq_false, not_false_eq_true]; assumption)); refine r_skip (r_seqN (r_seq (r_ret (r_callP rfl ?_)))))
  refine nonterminal_s (m := m) T s1 o1 hf' hl fun S' j σ₂ l e s2 o2 F2 => ?_
  refine a_ret (r_seqR (r_retR ?_))
  have := q S' σ₂ ((S.le_addF 8 2).trans l) (List.mem_of_getElem? e) s2 o2 (gv_sym (gv_sym hg F1 h1 h2 h3) F2 h1 h2 h3) ((fr_sym F1).trans (fr_sym F2))
  simp only [G] at this
  rw [Sym.fn_eq o2 e] at this
  exact this
end
section
variable {P : Pg} {σ σ' : St} {k m : Nat} {S : Sym} {Q : EQ} {kn kf ku : Nat} {u : List Int} {n : Int}

theorem part_comma (T : TabP P) (a b : Bd) (IH : TrS P 357 (.seq 1 a b) (m + 3)) : TrS P 371 (.seq 1 a b) (m + 4) := by
  intro σ k S kn kf ku u lo c x y Q hS ok h0 hb hg h1 h2 h3 q
  have hbig2 : (2 : Nat) ≤ big := by decide
  have ei := hS.i
  refine enter T.f371 rfl ?_
  unfold b_371
  simp only [Bd.tm, Tm.pv, Tm.pvs]
  refine r_seq (r_assign (r_callP rfl ?_))
  refine struct_S T ?_
  (refine a_asg (t_var (a_nx (r_seqN (r_seq (r_site (r_te (r_primP rfl (p_eq rfl (r_truB ?_))))))))); refine a_siteF ?wa ?_; (case wa => decide); refine r_skip (r_seqN (r_seq (r_site (r_te (r_primP rfl (p_eq rfl (r_truB ?_))))))); refine a_siteF ?wa ?_; (case wa => decide); refine r_skip (r_seqN (r_seq (r_site (r_te (r_primP rfl (p_eq rfl (r_truB ?_))))))); refine a_siteF ?wa ?_; (case wa => decide); refine r_skip (r_seqN (r_seq (r_assign (r_pure rfl (a_asg (t_var (a_nx (r_seqN (r_seq ?_))))))))); refine r_assign (r_meth (r_var rfl ?_)); refine' r_methK ?wa ?wb ?wc ?_; (case wa => assumption); (case wb => exact TabP.m10 (by assumption)); (case wc => rfl); refine r_pures rfl (a_meth ?_))
  refine functorS T hS ok (by (first | lia | omega)) fun i σ₁ e1 s1 o1 F1 => ?_
  (refine a_asg (t_var (a_nx (r_seqN (r_seq (r_site (r_te (r_primP rfl (p_eq rfl (r_truB ?_))))))))); refine a_siteF ?wa ?_; (case wa => decide); refine r_skip (r_seqN (r_seq (r_site (r_te (r_primP rfl (p_eq rfl (r_truB (a_siteT rfl (r_seq ?_))))))))); refine r_ret (r_callP rfl ?_))
  have g1 := gv_sym hg F1 h1 h2 h3
  refine IH (σ := σ₁) (c := c) s1 o1 (h0.trans (S.le_addF 8 2)) (Bd.ok_le (b := .seq 1 a b) (S.le_addF 8 2) hb) g1 h1 h2 h3 fun S' σ₂ l hh s2 o2 g2 F2 => ?_
  refine a_ret (r_seqR (r_seqR (r_retR ?_)))
  exact q S' σ₂ ((S.le_addF 8 2).trans l) hh s2 o2 g2 ((fr_sym F1).trans F2)

theorem gl_len (S : Sym) (φ : Nat → Int) : ∀ (l : List Bd) (x y : Tm) (c : Nat), (gl S φ l x y c).length = l.length
  | [], _, _, _ => rfl
  | [_], _, _, _ => rfl
  | p :: q :: r, x, y, c => by simp [gl, gl_len S φ (q :: r)]
theorem tms_pvs (l : List Bd) : (l.map Bd.tm).map Tm.pv = Tm.pvs (l.map Bd.tm) := (Tm.pvs_eq _).symm

structure BodyI (S : Sym) (σ : St) (l1 k kn kf ku : Nat) (u : List Int) (lo : Int) (b : Bd) (x y : Tm) (c i : Nat) (lm : LM) (τ : St) (pre suf : List Bd) (gs : List Tm) (h' : Tm) (c' : Nat) (S' : Sym) : Prop where
  e : b.spine = pre ++ suf
  l : pre.length = i
  l0 : lm 0 = some (.obj k)
  l3 : lm 3 = some y.pv
  l4 : lm 4 = some (.obj kn)
  l5 : lm 5 = some (.obj σ.length)
  l6 : lm 6 = some (.obj l1)
  l7 : lm 7 = some h'.pv
  hle : S.le S'
  hh : ∀ p ∈ pre, p.has S'
  hS : SymAt τ k S'
  ok : Sok S'
  hg : GVAt τ kn kf ku u (nxs u lo c')
  F : Fr (MM k kf) σ τ
  hp : τ[σ.length]? = some (.list (Tm.pvs (b.spine.map Bd.tm)))
  hgs : τ[l1]? = some (.list (Tm.pvs gs))
  hgl : ∀ S'', S'.le S'' → Sok S'' → gl S'' (φt u lo) b.spine x y c = gs ++ gl S'' (φt u lo) suf h' y c'
  hn : gs.length = pre.length
  hnv : c' + nvs suf = c + b.nv
theorem body_S (T : TabP P) (b : Bd) (hs : ∀ S, b.ok S → S0.le S → IsSpine [1] b.tm (b.spine.map Bd.tm)) (hlen : b.spine.length ≤ 1000) (hok : ∀ S, b.ok S → ∀ p ∈ b.spine, p.ok S) (IH : ∀ p ∈ b.spine, TrS P 371 p (m + 2)) (hhas : ∀ S, (∀ p ∈ b.spine, p.has S) → b.has S) : TrS P 357 b (m + 3) := by
  intro σ k S kn kf ku u lo c x y Q hS ok h0 hb hg h1 h2 h3 q
  have hbig1 : (1 : Nat) ≤ big := by decide
  have ei := hS.i
  have gi := hg.i
  refine enter T.f357 rfl ?_
  unfold b_357
  refine r_seq (r_assign (r_callP rfl ?_))
  refine right_spine_S T (F := [1]) (hs S hb h0) (by simpa using hlen) fun σ₁ F1 hl => ?_
  (refine a_asg (t_var (a_nx (r_seqN (r_seq (r_assign (r_list (r_pures rfl ?_))))))); refine a_list ?wa ?_; (case wa => trivial); refine a_asg (t_var (a_nx (r_seqN (r_seq (r_assign (r_var rfl (a_asg (t_var (a_nx ?_))))))))); refine r_seqN (r_seq (r_for (i_range (r_econs (r_primP rfl ?_))))); refine' p_lenL ?wa ?_; (case wa => (refine get_app ?_; assumption)); refine a_cons1 (r_pures rfl (a_cons2 ?_)))
  have hR : rangeOf [.int ((Tm.pvs (b.spine.map Bd.tm)).length : Int)] (rangeL 0 (b.spine.length : Int) 1) := by
    have e : ((Tm.pvs (b.spine.map Bd.tm)).length : Int) = (b.spine.length : Int) := by rw [Tm.pvs_len, List.length_map]
    rw [e]
    exact .inl ⟨_, rfl, decide_eq_true (by (first | lia | omega)), rfl⟩
  (refine' i_rangeK ?wa ?_; (case wa => with_reducible assumption); refine a_for ?_)
  have F2 : Fr (fun _ => False) σ (σ₁ ++ [.list []]) := F1.trans (Fr.new _)
  refine for_rule (fun i lm τ => ∃ pre suf gs h' c' S', BodyI S σ σ₁.length k kn kf ku u lo b x y c i lm τ pre suf gs h' c' S')
    ⟨[], b.spine, [], x, c, S, rfl, rfl, rfl, rfl, rfl, rfl, rfl, rfl, S.le_refl, fun _ h => (nomatch h), sym_no hS F2, ok, gv_no hg F2, fr_no F2, get_app hl, get_new, fun _ _ _ => rfl, rfl, by rw [nv_spine]⟩ (fun _ _ _ _ => trivial) ?_ ?_
  · rintro i y' lm τ K hy ⟨pre, suf, gs, h', c', S', e, rfl, l0, l3, l4, l5, l6, l7, hle, hhas', hS', ok', hg', F', hp, hgs, hgl, hgl2, hnv⟩ hK
    have hi := (List.getElem?_eq_some_iff.mp hy).1
    rw [rangeL_len, up_size] at hi
    have hy' := rangeL_at hy
    subst hy'
    cases suf with
    | nil => rw [e] at hi; simp at hi
    | cons p rest =>
      have ei' := hS'.i
      have gi' := hg'.i
      have hpi : pyIdx (Tm.pvs (b.spine.map Bd.tm)) (0 + 1 * (pre.length : Int)) = some p.tm.pv := by
        rw [show (0 : Int) + 1 * (pre.length : Int) = ((pre.length : Nat) : Int) by (first | lia | omega)]
        refine pyIdx_nat ?_
        rw [Tm.pvs_eq, e]; simp
      have hlg : (Tm.pvs gs).length < big := by rw [Tm.pvs_len]; unfold big; (first | lia | omega)
      have hl2 : ((Tm.pvs (b.spine.map Bd.tm)).length : Int) = (pre.length : Int) + 1 + (rest.length : Int) := by rw [Tm.pvs_len, List.length_map, e]; simp; (first | lia | omega)
      have hmem : p ∈ b.spine := by rw [e]; simp
      have pok : p.ok S' := Bd.ok_le hle (hok S hb p hmem)
      have sz1 := (List.getElem?_eq_some_iff.mp hg.f).1
      have sz2 := (List.getElem?_eq_some_iff.mp hS.fd).1
      have sz3 := (List.getElem?_eq_some_iff.mp hg.i).1
      have sz4 := (List.getElem?_eq_some_iff.mp hg.u).1
      have sz5 := F1.len
      have sz6 := (List.getElem?_eq_some_iff.mp hl).1
      have nMg : ¬ MM k kf σ₁.length := fun hm => by unfold MM symM at hm; (first | lia | omega)
      have nMp : ¬ MM k kf σ.length := fun hm => by unfold MM symM at hm; (first | lia | omega)
      have fin : ∀ (S'' : Sym) (τ' : St) (g hn : Tm) (c2 : Nat) (lm' : LM), S'.le S'' → p.has S'' → SymAt τ' k S'' → Sok S'' → GVAt τ' kn kf ku u (nxs u lo c2) → Fr (MM k kf) τ τ' → lm' 0 = some (.obj k) → lm' 3 = some y.pv → lm' 4 = some (.obj kn) → lm' 5 = some (.obj σ.length) → lm' 6 = some (.obj σ₁.length) → lm' 7 = some hn.pv →
          (∀ S3, S''.le S3 → Sok S3 → gl S3 (φt u lo) (p :: rest) h' y c' = g :: gl S3 (φt u lo) rest hn y c2) → c2 + nvs rest = c' + nvs (p :: rest) → K lm' (τ'.set σ₁.length (.list (Tm.pvs gs ++ [g.pv]))) := by
        intro S'' τ' g hn c2 lm' l hh s1 o1 g1 F3 k0 k3 k4 k5 k6 k7 hG hN
        have F4 : Fr (fun j => j = σ₁.length) τ' (τ'.set σ₁.length (.list (Tm.pvs gs ++ [g.pv]))) := Fr.set rfl
        refine hK _ _ ⟨pre ++ [p], rest, gs ++ [g], hn, c2, S'', by rw [e]; simp, by simp, k0, k3, k4, k5, k6, k7, hle.trans l, fun z hz => ?_, s1.frame F4 (fun j _ _ => by (first | lia | omega)), o1, g1.frame F4 (by (first | lia | omega)) (by (first | lia | omega)) (by (first | lia | omega)), ?_, ?_, ?_, fun S3 l3 o3 => ?_, by simp [hgl2], by (first | lia | omega)⟩
        · rcases List.mem_append.mp hz with hz | hz
          · exact Bd.has_le ok' o1 l (hhas' z hz)
          · rw [List.mem_singleton.mp hz]; exact hh
        · exact (F'.trans F3).setNew sz5
        · exact F4.at' _ _ (F3.at' _ _ hp nMp) (by (first | lia | omega))
        · rw [Tm.pvs_app]; exact get_set_eq (F3.at' _ _ hgs nMg)
        · rw [hgl S3 (l.trans l3) o3, hG S3 l3 o3]; simp
      cases rest with
      | nil =>
        have hcond : ¬ ((0 : Int) + 1 * (pre.length : Int) + 1 < ((Tm.pvs (b.spine.map Bd.tm)).length : Int)) := by rw [hl2]; simp
        (refine r_seq (r_assign ?_); refine' r_var ?wa ?_; (case wa => assumption); refine a_asg (t_var (a_nx (r_seqN (r_seq (r_site (r_te (r_prim2 (r_primP rfl (p_addI ?_))))))))); refine a_p2 (r_prim1 ?_); refine' r_var ?wa ?_; (case wa => assumption); refine a_p1 ?_; refine' p_lenL ?wa ?_; (case wa => assumption); refine a_p2b (p_lt (r_truB ?_)); refine a_siteF ?wa ?_; (case wa => (simp only [decide_eq_true_eq, decide_eq_false_iff_not, Bool.not_eq_true, Bool.not_eq_true', Bool.not_eq_false, Bool.not_eq_false', decide_not, Bool.not_not, Bool.and_false, Bool.false_and, Bool.or_false, Bool.false_or, Bool.true_and, Bool.and_true, Bool.false_eq_true, Bool.and_eq_true, Bool.or_eq_true, not_true_eq_false, not_false_eq_true]; assumption)); refine r_skip (r_seqN (r_seq (r_expr (r_bm ?_)))); refine' r_var ?wa ?_; (case wa => assumption); refine a_bm ?wa ?_; (case wa => (refine' bmOk_list ?wz (by intro e; cases e); (case wz => assumption))); refine r_econs (r_call (r_econs ?_)); refine' r_var ?wa ?_; (case wa => assumption); refine a_cons1 (r_econs (r_prim2 ?_)); refine' r_var ?wa ?_; (case wa => assumption); refine a_p2 (r_var rfl (a_p2b ?_)); refine' p_idxL ?wa ?wb ?_; (case wa => assumption); (case wb => with_reducible assumption); refine a_cons1 (r_econs ?_); refine' r_var ?wa ?_; (case wa => assumption); refine a_cons1 (r_econs (r_var rfl (a_cons1 (r_econs ?_)))); refine' r_var ?wa ?_; (case wa => assumption); refine a_cons1 (r_pures rfl (a_cons2 (a_cons2 (a_cons2 (a_cons2 (a_cons2 (a_call ?_))))))))
        refine IH p hmem hS' ok' (h0.trans hle) pok hg' h1 h2 h3 fun S'' τ' l hh s1 o1 g1 F1' => ?_
        have hgs' := F1'.at' _ _ hgs nMg
        (refine a_cons1 (r_pures rfl (a_cons2 (a_bm2 ?_))); refine' b_append ?wa ?wb ?_; (case wa => assumption); (case wb => assumption); refine a_exp (r_seqN (r_seq (r_assign (r_var rfl (a_asg (t_var (a_nx (r_seqN (r_skip ?_))))))))); refine r_forN ?_)
        exact fin S'' τ' _ y (c' + p.nv) _ l hh s1 o1 g1 F1' l0 l3 l4 l5 l6 rfl (fun S3 l3 o3 => by simp only [gl]; rw [G_le o1 o3 l3 _ hh]) (by simp [nvs])
      | cons p2 rest =>
        have hcond : (0 : Int) + 1 * (pre.length : Int) + 1 < ((Tm.pvs (b.spine.map Bd.tm)).length : Int) := by rw [hl2]; simp; (first | lia | omega)
        (refine r_seq (r_assign ?_); refine' r_var ?wa ?_; (case wa => assumption); refine a_asg (t_var (a_nx (r_seqN (r_seq (r_site (r_te (r_prim2 (r_primP rfl (p_addI ?_))))))))); refine a_p2 (r_prim1 ?_); refine' r_var ?wa ?_; (case wa => assumption); refine a_p1 ?_; refine' p_lenL ?wa ?_; (case wa => assumption); refine a_p2b (p_lt (r_truB ?_)); refine a_siteT ?wa ?_; (case wa => (simp only [decide_eq_true_eq, decide_eq_false_iff_not, Bool.not_eq_true, Bool.not_eq_true', Bool.not_eq_false, Bool.not_eq_false', decide_not, Bool.not_not, Bool.and_false, Bool.false_and, Bool.or_false, Bool.false_or, Bool.true_and, Bool.and_true, Bool.false_eq_true, Bool.and_eq_true, Bool.or_eq_true, not_true_eq_false, not_false_eq_true]; assumption)); refine r_seq (r_assign (r_meth ?_)); refine' r_var ?wa ?_; (case wa => assumption); refine' r_methK ?wa ?wb ?wc ?_; (case wa => assumption); (case wb => exact TabP.m15 (by assumption)); (case wc => rfl); refine r_pures rfl (a_meth ?_))
        refine variable_S T hg' fun τ₁ g1 F2' => ?_
        have s1 := sym_kf hS' F2' h2
        have hp1 := F2'.at' _ _ hp (by (first | lia | omega))
        have hgs1 := F2'.at' _ _ hgs (by (first | lia | omega))
        (refine a_asg (t_var (a_nx (r_seqN (r_skip (r_seqN (r_seq (r_expr (r_bm ?_)))))))); refine' r_var ?wa ?_; (case wa => assumption); refine a_bm ?wa ?_; (case wa => (refine' bmOk_list ?wz (by intro e; cases e); (case wz => assumption))); refine r_econs (r_call (r_econs ?_)); refine' r_var ?wa ?_; (case wa => assumption); refine a_cons1 (r_econs (r_prim2 ?_)); refine' r_var ?wa ?_; (case wa => assumption); refine a_p2 (r_var rfl (a_p2b ?_)); refine' p_idxL ?wa ?wb ?_; (case wa => assumption); (case wb => with_reducible assumption); refine a_cons1 (r_econs ?_); refine' r_var ?wa ?_; (case wa => assumption); refine a_cons1 (r_econs (r_var rfl (a_cons1 (r_econs ?_)))); refine' r_var ?wa ?_; (case wa => assumption); refine a_cons1 (r_pures rfl (a_cons2 (a_cons2 (a_cons2 (a_cons2 (a_cons2 (a_call ?_))))))))
        refine IH p hmem (y := .v (free u (nxs u lo c'))) (c := c' + 1) s1 ok' (h0.trans hle) pok g1 h1 h2 h3 fun S'' τ' l hh s2 o1 g2 F1' => ?_
        have hgs' := F1'.at' _ _ (F2'.at' _ _ hgs (by (first | lia | omega))) nMg
        (refine a_cons1 (r_pures rfl (a_cons2 (a_bm2 ?_))); refine' b_append ?wa ?wb ?_; (case wa => assumption); (case wb => assumption); refine a_exp (r_seqN (r_seq (r_assign (r_var rfl (a_asg (t_var (a_nx (r_seqN (r_skip ?_))))))))); refine r_forN ?_)
        exact fin S'' τ' _ (.v (free u (nxs u lo c'))) (c' + 1 + p.nv) _ l hh s2 o1 g2 ((fr_kf F2').trans F1') l0 l3 l4 l5 l6 rfl (fun S3 l3 o3 => by simp only [gl]; rw [G_le o1 o3 l3 _ hh]; rfl) (by simp [nvs]; (first | lia | omega))
  · rintro lm τ ⟨pre, suf, gs, h', c', S', e, hl', l0, l3, l4, l5, l6, l7, hle, hhas', hS', ok', hg', F', hp, hgs, hgl, hgl2, hnv⟩
    have hsuf : suf = [] := by
      rw [rangeL_len, up_size, e] at hl'
      cases suf with
      | nil => rfl
      | cons _ _ => simp at hl'
    subst hsuf
    rw [List.append_nil] at e
    (refine r_seqN (r_seq (r_ret (r_call (r_econs ?_)))); refine' r_var ?wa ?_; (case wa => assumption); refine a_cons1 (r_pures rfl (a_cons2 (a_call ?_))))
    have hG := hgl S' S'.le_refl ok'
    simp only [gl, List.append_nil] at hG
    have hne : gs ≠ [] := by
      intro q
      have := gl_len S' (φt u lo) b.spine x y c
      rw [hG, q] at this
      obtain ⟨p, r, e'⟩ := b.spine_ne
      rw [e'] at this; simp at this
    rcases List.eq_nil_or_concat gs with rfl | ⟨gs', z, rfl⟩
    · exact absurd rfl hne
    · rw [List.concat_eq_append] at *
      have he := congrArg List.length e
      have hlg : gs'.length ≤ 1000 := by simp at hgl2; (first | lia | omega)
      refine conjunction_S T hlg hgs ?_
      refine a_ret (r_seqR (r_retR ?_))
      have hb' := hhas S' (by rw [e]; exact hhas')
      have := q S' τ hle hb' hS' ok' (by simp [nvs] at hnv; rw [← hnv]; exact hg') F'
      rw [← G_spine, hG, conjL_snoc] at this
      exact this
end
open PySem

theorem spine_mem : ∀ (b : Bd) (p : Bd), p ∈ b.spine → p = b ∨ p.dp < b.dp
  | .seq f l r, p, h => by
    unfold Bd.spine at h
    split at h
    · rcases List.mem_cons.mp h with rfl | h
      · right; simp only [Bd.dp]; (first | lia | omega)
      · rcases spine_mem r p h with rfl | h
        · right; simp only [Bd.dp]; (first | lia | omega)
        · right; simp only [Bd.dp]; (first | lia | omega)
    · exact .inl (List.mem_singleton.mp h)
  | .lst _, _, h | .nil, _, h | .cut, _, h | .curly _, _, h | .atom _, _, h | .cmp _ _ _, _, h | .var _, _, h => .inl (List.mem_singleton.mp h)
theorem spine_mem1 (l r p : Bd) (h : p ∈ (Bd.seq 1 l r).spine) : p.dp < (Bd.seq 1 l r).dp := by
  unfold Bd.spine at h
  rw [if_pos rfl] at h
  rcases List.mem_cons.mp h with rfl | h
  · simp only [Bd.dp]; (first | lia | omega)
  · rcases spine_mem r p h with rfl | h <;> (simp only [Bd.dp]; (first | lia | omega))
theorem spine_len : ∀ b : Bd, b.spine.length ≤ b.dp + 1
  | .seq f l r => by
    unfold Bd.spine
    split
    · have := spine_len r; simp only [Bd.dp, List.length_cons]; (first | lia | omega)
    · simp
  | .lst _ | .nil | .cut | .curly _ | .atom _ | .cmp _ _ _ | .var _ => by simp [Bd.spine]
theorem spine_ok {S : Sym} : ∀ (b : Bd), b.ok S → ∀ p ∈ b.spine, p.ok S
  | .seq f l r, hb, p, h => by
    unfold Bd.spine at h
    split at h
    · rcases List.mem_cons.mp h with rfl | h
      · exact hb.2.1
      · exact spine_ok r hb.2.2 p h
    · rw [List.mem_singleton.mp h]; exact hb
  | .lst _, hb, _, h | .nil, hb, _, h | .cut, hb, _, h | .curly _, hb, _, h | .atom _, hb, _, h | .cmp _ _ _, hb, _, h | .var _, hb, _, h => by rw [List.mem_singleton.mp h]; exact hb
theorem spine_has {S : Sym} : ∀ (b : Bd), (∀ p ∈ b.spine, p.has S) → b.has S
  | .seq f l r, h => by
    unfold Bd.spine at h
    split at h
    · exact ⟨h l (by simp), spine_has r fun p hp => h p (List.mem_cons_of_mem _ hp)⟩
    · exact h _ (by simp)
  | .lst _, h | .nil, h | .cut, h | .curly _, h | .atom _, h | .cmp _ _ _, h | .var _, h => h _ (by simp [Bd.spine])

theorem lst_s {items : List Tm} {f : Int} {l : List Tm} {t : Tm} {r : List Tm} (h : items = t :: r) (e : (Bd.lst items).tm = .s f l) : f = 0 := by
  subst h
  have : (Bd.lst (t :: r)).tm = .s 0 [t, listT r (.a 0)] := rfl
  rw [this] at e; injection e with e _; exact e.symm
theorem spine_is {S : Sym} (h0 : S0.le S) : ∀ (b : Bd), b.ok S → IsSpine [1] b.tm (b.spine.map Bd.tm)
  | .seq f l r, hb => by
    unfold Bd.spine
    by_cases hf : f = 1
    · subst hf; rw [if_pos rfl]; exact .cons (by simp) (spine_is h0 r hb.2.2)
    · rw [if_neg hf]
      exact .one fun f' l' e => by
        have : f = f' := by injection e
        simp; (first | lia | omega)
  | .lst items, hb => .one fun f l e => by obtain ⟨_, t, r, h⟩ := hb; have := lst_s h e; simp; (first | lia | omega)
  | .nil, _ => .one fun _ _ e => by cases e
  | .cut, _ => .one fun _ _ e => by cases e
  | .atom _, _ => .one fun _ _ e => by cases e
  | .var _, _ => .one fun _ _ e => by cases e
  | .cmp f a args, hb => .one fun f' l e => by
      have : (f : Int) = f' := by injection e
      have := hb.2.2.1; simp; (first | lia | omega)
  | .curly g, _ => .one fun f' l e => by
      have : (9 : Int) = f' := by injection e
      simp; (first | lia | omega)
section
variable {P : Pg}
theorem tr_none {fa : Nat} {b : Bd} {m : Nat} (h : ∀ S, ¬ b.ok S) : TrS P fa b m := by
  intro σ k S kn kf ku u lo c x y Q hS ok h0 hb
  exact absurd hb (h S)
theorem tr_all (T : TabP P) : ∀ (n : Nat) (b : Bd), b.dp = n → b.dp ≤ 500 → (∀ m, 4 * b.dp + 8 ≤ m → TrS P 371 b m) ∧ (∀ m, 4 * b.dp + 9 ≤ m → TrS P 357 b m) := by
  intro n
  induction n using Nat.strongRecOn with
  | ind n ih =>
    intro b hn hd
    have sub : ∀ p : Bd, p.dp < b.dp → (∀ m, 4 * p.dp + 8 ≤ m → TrS P 371 p m) ∧ (∀ m, 4 * p.dp + 9 ≤ m → TrS P 357 p m) := fun p hp => ih p.dp (hn ▸ hp) p rfl (by (first | lia | omega))
    -- from the part to the body, where the spine is the term itself
    have one : b.spine = [b] → (∀ m, 4 * b.dp + 8 ≤ m → TrS P 371 b m) → (∀ m, 4 * b.dp + 8 ≤ m → TrS P 371 b m) ∧ (∀ m, 4 * b.dp + 9 ≤ m → TrS P 357 b m) := fun hs hp => by
      refine ⟨hp, fun m hm => ?_⟩
      obtain ⟨m, rfl⟩ : ∃ m', m = m' + 3 := ⟨m - 3, by (first | lia | omega)⟩
      exact body_S T b (fun S hb h0 => spine_is h0 b hb) (by have := spine_len b; (first | lia | omega)) (fun S hb => spine_ok b hb) (fun p hp' => by
        rw [hs] at hp'
        rw [List.mem_singleton.mp hp']
        exact hp _ (by (first | lia | omega))) (fun S => spine_has b)
    have m4 : ∀ m, 4 * b.dp + 8 ≤ m → ∃ m', m = m' + 4 := fun m h => ⟨m - 4, by (first | lia | omega)⟩
    cases b with
    | lst items => exact one rfl fun m hm => by obtain ⟨m, rfl⟩ := m4 m hm; exact part_lst T items
    | nil => exact one rfl fun m hm => by obtain ⟨m, rfl⟩ := m4 m hm; exact part_nil (m := m + 1) T
    | cut => exact one rfl fun m hm => by obtain ⟨m, rfl⟩ := m4 m hm; exact part_cut (m := m + 1) T
    | atom n => exact one rfl fun m hm => by obtain ⟨m, rfl⟩ := m4 m hm; exact part_atom T n
    | var n => exact one rfl fun m hm => by obtain ⟨m, rfl⟩ := m4 m hm; exact part_var (m := m + 1) T n
    | curly g => exact one rfl fun m hm => by obtain ⟨m, rfl⟩ := m4 m hm; exact part_curly T g
    | cmp f a args => exact one rfl fun m hm => by obtain ⟨m, rfl⟩ := m4 m hm; exact part_cmp T f a args
    | seq f l r =>
      by_cases hf : f = 1
      · subst hf
        have body : ∀ m, 4 * (Bd.seq 1 l r).dp + 5 ≤ m → TrS P 357 (.seq 1 l r) m := fun m hm => by
          obtain ⟨m, rfl⟩ : ∃ m', m = m' + 3 := ⟨m - 3, by (first | lia | omega)⟩
          refine body_S (m := m) T _ (fun S hb h0 => spine_is h0 _ hb) (by have := spine_len (.seq 1 l r); (first | lia | omega)) (fun S hb => spine_ok _ hb) (fun p hp => ?_) (fun S => spine_has _)
          have := spine_mem1 l r p hp
          have h := (sub p this).1
          exact @h (m + 2) (by (first | lia | omega))
        refine ⟨fun m hm => ?_, fun m hm => body m (by (first | lia | omega))⟩
        obtain ⟨m, rfl⟩ := m4 m hm
        exact part_comma T l r (body _ (by (first | lia | omega)))
      · refine one (by unfold Bd.spine; rw [if_neg hf]) fun m hm => ?_
        exact tr_none fun S (hb : (Bd.seq f l r).ok S) => hf hb.1
theorem body_all (T : TabP P) (b : Bd) (hd : b.dp ≤ 500) {m : Nat} (hm : 4 * b.dp + 9 ≤ m) : TrS P 357 b m := (tr_all T b.dp b rfl hd).2 m hm
end

noncomputable def isHead : Bd → Prop
  | .atom _ => True
  | .cmp _ _ _ => True
  | _ => False
noncomputable def headT (hb : Bd) (pushed : Option (List Tm)) : Tm := match pushed with
  | none => hb.tm
  | some items => .s 1 [hb.tm, listT items (.a 0)]
noncomputable def TGr (S : Sym) (φ : Nat → Int) (hb b : Bd) (pushed : Option (List Tm)) : Tm := match pushed with
  | none => .s 5 [G S φ hb (.v (φ 0)) (.v (φ 1)) 0, G S φ b (.v (φ 0)) (.v (φ 1)) 2]
  | some items => .s 5 [G S φ hb (.v (φ 0)) (.v (φ 1)) 0, .s 1 [G S φ b (.v (φ 0)) (.v (φ 2)) 3, .s 10 [.v (φ 1), listT items (.v (φ 2))]]]

section
variable {P : Pg} {σ σ' : St} {k m : Nat} {S : Sym} {Q : EQ} {kn kf ku : Nat} {u : List Int} {n : Int}

theorem pvs2 (g z : Tm) : Tm.pvs ([g] ++ [z]) = [g.pv, z.pv] := by simp only [List.cons_append, List.nil_append, Tm.pvs]
theorem cast_q {Q : EQ} {v v' : PV} {σ : St} (h : Q v σ) (e : v = v') : Q v' σ := e ▸ h
theorem trans_not (T : TabP P) {t : Tm} {pf : PV} (h : ∀ l, t ≠ .s 8 l) (q : Q t.pv σ) : wpCall P (m + 1) 336 [.obj k, t.pv, pf] σ Q := by
  refine enter T.f336 rfl ?_
  unfold b_336
  cases t with
  | v n => simp only [Tm.pv] at q ⊢; (refine r_seq (r_site (r_tor (r_te (r_primP rfl (p_ne rfl (r_truB (a_orT rfl (a_siteT rfl (r_seq ?_))))))))); refine r_ret (r_var rfl (a_ret (r_seqR (r_seqR (r_retR ?_)))))); exact q
  | a n => simp only [Tm.pv] at q ⊢; (refine r_seq (r_site (r_tor (r_te (r_primP rfl (p_ne rfl (r_truB (a_orT rfl (a_siteT rfl (r_seq ?_))))))))); refine r_ret (r_var rfl (a_ret (r_seqR (r_seqR (r_retR ?_)))))); exact q
  | i n => simp only [Tm.pv] at q ⊢; (refine r_seq (r_site (r_tor (r_te (r_primP rfl (p_ne rfl (r_truB (a_orT rfl (a_siteT rfl (r_seq ?_))))))))); refine r_ret (r_var rfl (a_ret (r_seqR (r_seqR (r_retR ?_)))))); exact q
  | s f l =>
    have hf : ¬ f = 8 := fun e => h l (by rw [e])
    have hf' : (!decide (f = 8)) = true := by simp [hf]
    simp only [Tm.pv] at q ⊢
    (refine r_seq (r_site (r_tor (r_te (r_primP rfl (p_ne rfl (r_truB ?_)))))); refine a_orF ?wa ?_; (case wa => decide); refine r_te (r_primP rfl (p_ne rfl (r_truB ?_))); refine a_siteT ?wa ?_; (case wa => assumption); refine r_seq (r_ret (r_var rfl (a_ret (r_seqR (r_seqR (r_retR ?_)))))))
    exact q

set_option tactic.hygienic true in
theorem nonterm_S (T : TabP P) (hb : Bd) (hh : isHead hb) {x y : Tm} (φ : Nat → Int) (c : Nat) (hS : SymAt σ k S) (ok : Sok S) (hok : hb.ok S) (q : ∀ S' σ', S.le S' → hb.has S' → SymAt σ' k S' → Sok S' → Fr (symM k) σ σ' → Q (G S' φ hb x y c).pv σ') : wpCall P (m + 3) 343 [.obj k, hb.tm.pv, x.pv, y.pv] σ Q := by
  cases hb <;> try exact hh.elim
  · rename_i n
    refine nonterminal_a T hS ok hok.2.2 fun S' i σ₁ l e s1 o1 F1 => ?_
    have := q S' σ₁ l (List.mem_of_getElem? e) s1 o1 F1
    simp only [G] at this
    rw [Sym.fn_eq o1 e] at this
    exact this
  · rename_i f a args
    refine nonterminal_s T hS ok hok.1 hok.2.1 fun S' j σ₂ l e s2 o2 F2 => ?_
    have := q S' σ₂ l (List.mem_of_getElem? e) s2 o2 F2
    simp only [G] at this
    rw [Sym.fn_eq o2 e] at this
    exact this

theorem head_tag {hb : Bd} (h : isHead hb) : hb.tm.tag = "a" ∨ hb.tm.tag = "s" := by
  cases hb <;> first | exact h.elim | exact .inl rfl | exact .inr rfl

set_option tactic.hygienic true in
theorem trans_S (T : TabP P) {hb b : Bd} {pushed : Option (List Tm)} {lo : Int} (hS : SymAt σ k S) (ok : Sok S) (h0 : S0.le S) (hh : isHead hb) (hbo : hb.ok S) (bo : b.ok S) (hp : ∀ l, pushed = some l → l.length ≤ 1000) (hd : b.dp ≤ 500) (hsz : (Tm.s 8 [headT hb pushed, b.tm]).size ≤ 800)
    (hf : σ[kf]? = some (.inst 290 [(4, .int lo)])) (hkf : k + 4 < kf) (hm : 4 * b.dp + 9 ≤ m)
    (q : ∀ S' U σ', S.le S' → hb.has S' → b.has S' → SymAt σ' k S' → Sok S' → Fr (MM k kf) σ σ' → (∀ n ∈ (Tm.s 8 [headT hb pushed, b.tm]).vars, n ∈ U) → Q (TGr S' (φt U lo) hb b pushed).pv σ') : wpCall P (m + 1) 336 [.obj k, (Tm.s 8 [headT hb pushed, b.tm]).pv, .obj kf] σ Q := by
  have hbig1 : (1 : Nat) ≤ big := by decide
  have hbig2 : (2 : Nat) ≤ big := by decide
  have hbig3 : (3 : Nat) ≤ big := by decide
  obtain ⟨m, rfl⟩ : ∃ m', m = m' + 4 := ⟨m - 4, by (first | lia | omega)⟩
  refine enter T.f336 rfl ?_
  unfold b_336
  have e : (Tm.s 8 [headT hb pushed, b.tm]).pv = .tup [.str "s", .int 8, .tup [(headT hb pushed).pv, b.tm.pv]] := by simp only [Tm.pv, Tm.pvs]
  have sz1 := (List.getElem?_eq_some_iff.mp hf).1
  have sz2 := (List.getElem?_eq_some_iff.mp hS.fd).1
  rw [e]
  (refine r_seq (r_site (r_tor (r_te (r_primP rfl (p_ne rfl (r_truB ?_)))))); refine a_orF ?wa ?_; (case wa => decide); refine r_te (r_primP rfl (p_ne rfl (r_truB ?_))); refine a_siteF ?wa ?_; (case wa => decide); refine r_skip (r_seqN (r_seq (r_assign (r_new (r_econs (r_var rfl (a_cons1 (r_econs (r_callP rfl ?_))))))))))
  rw [← e]
  refine variables_S (m := m + 2) T hsz fun σ₁ U ku F1 hk hU hv => ?_
  rw [e]
  have sz3 := F1.len
  have sz4 := (List.getElem?_eq_some_iff.mp hU).1
  (refine a_cons1 (r_pures rfl (a_cons2 (a_cons2 ?_))); refine' r_newK ?wa ?_; (case wa => exact TabP.i325 (by assumption)))
  refine gvInit_S T get_new ?_
  have hkn : σ₁.length ≠ kf := by (first | lia | omega)
  have hku : ku ≠ kf := by (first | lia | omega)
  obtain ⟨τ, hτ⟩ : ∃ s : St, s = ((σ₁ ++ [AObj.inst 325 []]).set σ₁.length (.inst 325 [(5, .obj kf)])).set σ₁.length (.inst 325 [(5, .obj kf), (6, .obj ku)]) := ⟨_, rfl⟩
  have F2 : Fr (fun _ => False) σ τ := by rw [hτ]; exact ((F1.trans (Fr.new _)).setNew sz3).setNew sz3
  have g2 : GVAt τ σ₁.length kf ku U lo := by rw [hτ]; exact ⟨get_set_eq (get_set_eq get_new), get_set_ne (by (first | lia | omega)) (get_set_ne (by (first | lia | omega)) (get_app (F1.at' _ _ hf id))), get_set_ne (by (first | lia | omega)) (get_set_ne (by (first | lia | omega)) (get_app hU)), hkn, hku⟩
  have s2 := sym_no hS F2
  rw [← hτ]
  clear hτ
  refine ⟨rfl, ?_⟩
  have gi := g2.i
  have go : ∀ {y : Tm} {c : Nat} {Q' : EQ} {S₁ : Sym} {σ₃ : St} {h' : Tm}, SymAt σ₃ k S₁ → Sok S₁ → S.le S₁ → GVAt σ₃ σ₁.length kf ku U (nxs U lo c) → (∀ S' σ', S₁.le S' → b.has S' → SymAt σ' k S' → Sok S' → GVAt σ' σ₁.length kf ku U (nxs U lo (c + b.nv)) → Fr (MM k kf) σ₃ σ' → Q' (G S' (φt U lo) b h' y c).pv σ') → wpCall P (m + 4) 357 [.obj k, b.tm.pv, h'.pv, y.pv, .obj σ₁.length] σ₃ Q' :=
    fun a1 a2 a3 a4 a5 => body_all T b hd hm a1 a2 (h0.trans a3) (Bd.ok_le a3 bo) a4 (by (first | lia | omega)) hkf (by (first | lia | omega)) a5
  have first : ∀ {Q' : EQ}, (∀ σ₃, SymAt σ₃ k S → GVAt σ₃ σ₁.length kf ku U (nxs U lo 1) → Fr (MM k kf) σ σ₃ → Q' (Tm.v (φt U lo 0)).pv σ₃) → wpCall P (m + 4) 322 [.obj σ₁.length] τ Q' := fun q' =>
    variable_S (m := m + 2) T g2 fun σ₃ g3 F3 => q' σ₃ (sym_kf s2 F3 hkf) g3 ((fr_no F2).trans (fr_kf F3))
  have next : ∀ {Q' : EQ} {S : Sym} {σ₃ : St} {c : Nat}, SymAt σ₃ k S → GVAt σ₃ σ₁.length kf ku U (nxs U lo c) → Fr (MM k kf) σ σ₃ → (∀ σ₄, SymAt σ₄ k S → GVAt σ₄ σ₁.length kf ku U (nxs U lo (c + 1)) → Fr (MM k kf) σ σ₄ → Q' (Tm.v (φt U lo c)).pv σ₄) → wpCall P (m + 4) 322 [.obj σ₁.length] σ₃ Q' := fun a b c q' =>
    variable_S (m := m + 2) T b fun σ₃ g3 F3 => q' σ₃ (sym_kf a F3 hkf) g3 (c.trans (fr_kf F3))
  have ht := head_tag hh
  have nont : ∀ {Q' : EQ} {σ₃ : St} {x y : Tm}, SymAt σ₃ k S → (∀ S' σ', S.le S' → hb.has S' → SymAt σ' k S' → Sok S' → Fr (symM k) σ₃ σ' → Q' (G S' (φt U lo) hb x y 0).pv σ') → wpCall P (m + 4) 343 [.obj k, hb.tm.pv, x.pv, y.pv] σ₃ Q' := fun a q' => nonterm_S (m := m + 1) T hb hh (φt U lo) 0 a ok hbo q'
  cases hb <;> try exact hh.elim
  case' cmp f a args => have hf1 : ¬ ((f : Int) = 1) := by have := hbo.2.2.1; (first | lia | omega)
  all_goals
    cases pushed with
    | none =>
      simp only [headT, Bd.tm] at *
      (first | (refine a_asg (t_var (a_nx (r_seqN (r_seq (r_assign (r_pure rfl (a_asg (t_tup rfl rfl (a_nx ?_))))))))); refine r_seqN (r_seq (r_assign (r_none (a_asg (t_var (a_nx (r_seqN (r_seq (r_site ?_))))))))); refine r_tand (r_te (r_primP rfl (p_eq rfl (r_truB (a_andT rfl (r_te (r_primP rfl (p_eq rfl (r_truB ?_))))))))); refine a_siteF ?wa ?_; (case wa => (simp only [decide_eq_true_eq, decide_eq_false_iff_not, Bool.not_eq_true, Bool.not_eq_true', Bool.not_eq_false, Bool.not_eq_false', decide_not, Bool.not_not, Bool.and_false, Bool.false_and, Bool.or_false, Bool.false_or, Bool.true_and, Bool.and_true, Bool.false_eq_true, Bool.and_eq_true, Bool.or_eq_true, not_true_eq_false, not_false_eq_true]; assumption)); refine r_skip (r_seqN (r_seq (r_site (r_te (r_primP rfl (p_eq rfl (r_truB ?_))))))); refine a_siteF ?wa ?_; (case wa => decide); refine r_skip (r_seqN (r_seq (r_site (r_tnot (r_te (r_callP rfl ?_))))))) | (refine a_asg (t_var (a_nx (r_seqN (r_seq (r_assign (r_pure rfl (a_asg (t_tup rfl rfl (a_nx ?_))))))))); refine r_seqN (r_seq (r_assign (r_none (a_asg (t_var (a_nx (r_seqN (r_seq (r_site ?_))))))))); refine r_tand (r_te (r_primP rfl (p_eq rfl (r_truB ?_)))); refine a_andF ?wa ?_; (case wa => decide); refine a_siteF ?wa ?_; (case wa => decide); refine r_skip (r_seqN (r_seq (r_site (r_te (r_primP rfl (p_eq rfl (r_truB ?_))))))); refine a_siteF ?wa ?_; (case wa => decide); refine r_skip (r_seqN (r_seq (r_site (r_tnot (r_te (r_callP rfl ?_))))))))
      refine is_callable_S T ht ?_
      (refine r_truB (a_not ?_); refine a_siteF ?wa ?_; (case wa => decide); refine r_skip (r_seqN (r_seq (r_assign (r_meth (r_var rfl ?_))))); refine' r_methK ?wa ?wb ?wc ?_; (case wa => assumption); (case wb => exact TabP.m15 (by assumption)); (case wc => rfl); refine r_pures rfl (a_meth ?_))
      refine first fun σ₃ s3 g3 F3 => ?_
      have gi3 := g3.i
      (refine a_asg (t_var (a_nx (r_seqN (r_seq (r_assign (r_meth (r_var rfl ?_))))))); refine' r_methK ?wa ?wb ?wc ?_; (case wa => assumption); (case wb => exact TabP.m15 (by assumption)); (case wc => rfl); refine r_pures rfl (a_meth ?_))
      refine next s3 g3 F3 fun σ₄ s4 g4 F4 => ?_
      refine a_asg (t_var (a_nx (r_seqN (r_seq (r_assign (r_callP rfl ?_))))))
      refine nont (x := .v (φt U lo 0)) (y := .v (φt U lo 1)) s4 fun S₅ σ₅ l5 h5 s5 o5 F5 => ?_
      (refine a_asg (t_var (a_nx (r_seqN (r_seq (r_site (r_te (r_primP rfl (p_is (r_truB ?_))))))))); refine a_siteT ?wa ?_; (case wa => (simp only [decide_eq_true_eq, decide_eq_false_iff_not, Bool.not_eq_true, Bool.not_eq_true', Bool.not_eq_false, Bool.not_eq_false', decide_not, Bool.not_not, Bool.and_false, Bool.false_and, Bool.or_false, Bool.false_or, Bool.true_and, Bool.and_true, Bool.false_eq_true, Bool.and_eq_true, Bool.or_eq_true, not_true_eq_false, not_false_eq_true]; done)); refine r_seq (r_ret (r_call (r_econs (r_int (a_cons1 (r_econs (r_tup (r_econs (r_var rfl ?_))))))))); refine a_cons1 (r_econs (r_callP rfl ?_)))
      refine go (h' := .v (φt U lo 0)) (y := .v (φt U lo 1)) (c := 2) s5 o5 l5 (gv_sym g4 F5 (by (first | lia | omega)) hkf (by (first | lia | omega))) fun S₆ σ₆ l6 h6 s6 o6 g6 F6 => ?_
      (refine a_cons1 (r_pures rfl (a_cons2 (a_cons2 ?_))); refine a_tup ?wa ?_; (case wa => assumption); refine a_cons1 (r_pures rfl (a_cons2 (a_cons2 (a_call ?_)))))
      refine struct_S T ?_
      refine a_ret (r_seqR (r_seqR (r_retR ?_)))
      have := q S₆ U σ₆ (l5.trans l6) (Bd.has_le o5 o6 l6 h5) h6 s6 o6 ((F4.trans (fr_sym F5)).trans F6) hv
      simp only [TGr] at this
      rw [G_le o5 o6 l6 _ h5] at this
      exact this
    | some items =>
      have hpi := hp items rfl
      have hE : ∀ x y : Tm, (Tm.s 1 [x, y]).pv = .tup [.str "s", .int 1, .tup [x.pv, y.pv]] := fun x y => by simp only [Tm.pv, Tm.pvs]
      have hnn : ¬ ((listT items (Tm.a 0)).pv = PV.none) := by cases items <;> (intro h; cases h)
      simp only [headT, Bd.tm] at *
      rw [hE]
      (refine a_asg (t_var (a_nx (r_seqN (r_seq (r_assign (r_pure rfl (a_asg (t_tup rfl rfl (a_nx ?_))))))))); refine r_seqN (r_seq (r_assign (r_none (a_asg (t_var (a_nx (r_seqN (r_seq (r_site ?_))))))))); refine r_tand (r_te (r_primP rfl (p_eq rfl (r_truB (a_andT rfl (r_te (r_primP rfl (p_eq rfl (r_truB ?_))))))))); refine a_siteT rfl (r_seq (r_assign (r_pure rfl (a_asg (t_tup rfl rfl (a_nx (r_seqN (r_skip (r_seqN ?_))))))))); refine r_seq (r_site (r_te (r_primP rfl (p_eq rfl (r_truB ?_))))); refine a_siteF ?wa ?_; (case wa => decide); refine r_skip (r_seqN (r_seq (r_site (r_tnot (r_te (r_callP rfl ?_)))))))
      refine is_callable_S T ht ?_
      (refine r_truB (a_not ?_); refine a_siteF ?wa ?_; (case wa => decide); refine r_skip (r_seqN (r_seq (r_assign (r_meth (r_var rfl ?_))))); refine' r_methK ?wa ?wb ?wc ?_; (case wa => assumption); (case wb => exact TabP.m15 (by assumption)); (case wc => rfl); refine r_pures rfl (a_meth ?_))
      refine first fun σ₃ s3 g3 F3 => ?_
      have gi3 := g3.i
      (refine a_asg (t_var (a_nx (r_seqN (r_seq (r_assign (r_meth (r_var rfl ?_))))))); refine' r_methK ?wa ?wb ?wc ?_; (case wa => assumption); (case wb => exact TabP.m15 (by assumption)); (case wc => rfl); refine r_pures rfl (a_meth ?_))
      refine next s3 g3 F3 fun σ₄ s4 g4 F4 => ?_
      refine a_asg (t_var (a_nx (r_seqN (r_seq (r_assign (r_callP rfl ?_))))))
      refine nont (x := .v (φt U lo 0)) (y := .v (φt U lo 1)) s4 fun S₅ σ₅ l5 h5 s5 o5 F5 => ?_
      have g5 := gv_sym g4 F5 (by (first | lia | omega)) hkf (by (first | lia | omega))
      have gi5 := g5.i
      (refine a_asg (t_var (a_nx (r_seqN (r_seq (r_site (r_te (r_primP rfl (p_is (r_truB ?_))))))))); refine a_siteF ?wa ?_; (case wa => (simp only [decide_eq_true_eq, decide_eq_false_iff_not, Bool.not_eq_true, Bool.not_eq_true', Bool.not_eq_false, Bool.not_eq_false', decide_not, Bool.not_not, Bool.and_false, Bool.false_and, Bool.or_false, Bool.false_or, Bool.true_and, Bool.and_true, Bool.false_eq_true, Bool.and_eq_true, Bool.or_eq_true, not_true_eq_false, not_false_eq_true]; assumption)); refine r_skip (r_seqN (r_seq (r_assign (r_meth (r_var rfl ?_))))); refine' r_methK ?wa ?wb ?wc ?_; (case wa => assumption); (case wb => exact TabP.m15 (by assumption)); (case wc => rfl); refine r_pures rfl (a_meth ?_))
      refine next s5 g5 (F4.trans (fr_sym F5)) fun σ₆ s6 g6 F6 => ?_
      refine a_asg (t_var (a_nx (r_seqN (r_seq (r_assign (r_callP rfl ?_))))))
      refine go (h' := .v (φt U lo 0)) (y := .v (φt U lo 2)) (c := 3) s6 o5 l5 g6 fun S₇ σ₇ l7 h7 s7 o7 g7 F7 => ?_
      refine a_asg (t_var (a_nx (r_seqN (r_seq (r_assign (r_callP rfl ?_))))))
      refine terminals_S T (items := items) (x := .v (φt U lo 1)) (y := .v (φt U lo 2)) hpi fun σ₈ F8 => ?_
      (refine a_asg (t_var (a_nx (r_seqN (r_seq (r_ret (r_call (r_econs (r_int (a_cons1 ?_))))))))); refine r_econs (r_tup (r_econs (r_var rfl (a_cons1 (r_econs (r_call (r_econs (r_list (r_pures rfl ?_))))))))); refine a_list ?wa ?_; (case wa => assumption); refine a_cons1 (r_pures rfl (a_cons2 (a_call ?_))))
      refine conjunction_S T (pre := [G S₇ (φt U lo) b (.v (φt U lo 0)) (.v (φt U lo 2)) 3]) (z := .s 10 [.v (φt U lo 1), listT items (.v (φt U lo 2))]) (by simp) (by rw [pvs2]; exact get_new) ?_
      (refine a_cons1 (r_pures rfl (a_cons2 (a_cons2 ?_))); refine a_tup ?wa ?_; (case wa => assumption); refine a_cons1 (r_pures rfl (a_cons2 (a_cons2 (a_call ?_)))))
      refine struct_S T ?_
      refine a_ret (r_seqR (r_retR ?_))
      refine cast_q (q S₇ U _ (l5.trans l7) (Bd.has_le o5 o7 l7 h5) h7 (sym_no (sym_no s7 F8) (Fr.new _)) o7 (((F6.trans F7).trans (fr_no F8)).trans (Fr.new _)) hv) ?_
      simp only [TGr]
      rw [G_le o5 o7 l7 _ h5]
      simp only [Tm.pv, Tm.pvs, conjT, List.foldr_cons, List.foldr_nil]
end
theorem fm_map {α β : Type} {f : α → Option β} {g : α → β} : ∀ {l : List α}, (∀ k ∈ l, f k = some (g k)) → l.filterMap f = l.map g
  | [], _ => rfl
  | x :: l, h => by rw [List.filterMap_cons, h x List.mem_cons_self, List.map_cons, fm_map fun k hk => h k (List.mem_cons_of_mem _ hk)]
theorem slice_map {α : Type} (f : α → PV) (l : List α) (lo hi st : Option Int) : ∃ l' : List α, sliceP (l.map f) lo hi st = l'.map f := by
  unfold sliceP
  rw [List.length_map]
  generalize sliceRange _ _ _ = r
  refine ⟨r.filterMap (l[·]?), ?_⟩
  rw [List.map_filterMap]
  refine congrArg (fun g => List.filterMap g r) ?_
  funext i
  rw [List.getElem?_map]
theorem pick_ext {xs ys : List PV} {c : Nat} {g : Nat → Nat} (hc : c = ys.length) (hg : ∀ i, i < c → g i < xs.length ∧ ys[i]? = xs[g i]?) : ((List.range c).map g).filterMap (xs[·]?) = ys := by
  rw [fm_map (g := fun k => (xs[k]?).getD .none) (fun k hk => by
    obtain ⟨a, ha, rfl⟩ := List.mem_map.mp hk
    have := (hg a (List.mem_range.mp ha)).1
    rw [List.getElem?_eq_getElem this]; rfl)]
  apply List.ext_getElem?
  intro i
  rw [List.getElem?_map, List.getElem?_map]
  by_cases hi : i < c
  · rw [List.getElem?_range hi, (hg i hi).2]
    have := (hg i hi).1
    simp [List.getElem?_eq_getElem this]
  · rw [List.getElem?_eq_none (by simp; (first | lia | omega)), List.getElem?_eq_none (by (first | lia | omega))]; rfl
theorem range_up (a b : Nat) : sliceRange (a : Int) (b : Int) 1 = (List.range (b - a)).map fun k => a + k := by
  unfold sliceRange
  have hc : (if (1 : Int) > 0 then (if (a : Int) < b then ((b : Int) - a + 1 - 1) / 1 else 0) else (if (a : Int) > b then ((a : Int) - b - 1 - 1) / (-1) else 0)).toNat = b - a := by
    rw [if_pos (by decide)]
    by_cases h : (a : Int) < b
    · rw [if_pos h, Int.ediv_one]; (first | lia | omega)
    · rw [if_neg h]; (first | lia | omega)
  dsimp only
  rw [hc]
  refine List.map_congr_left fun k _ => ?_
  (first | lia | omega)
theorem slice_take (xs : List PV) (c : Nat) : sliceP xs none (some (c : Int)) none = xs.take c := by
  unfold sliceP
  have hb : sliceBounds none (some (c : Int)) none xs.length = (((0 : Nat) : Int), ((min c xs.length : Nat) : Int), 1) := by
    unfold sliceBounds; simp; (first | lia | omega)
  rw [hb]
  dsimp only
  rw [range_up]
  refine pick_ext (by simp) fun i hi => ⟨by (first | lia | omega), ?_⟩
  rw [List.getElem?_take_of_lt (by (first | lia | omega)), Nat.zero_add]
theorem slice_drop (xs : List PV) (c : Nat) (h : c ≤ xs.length) : sliceP xs (some (c : Int)) none none = xs.drop c := by
  unfold sliceP
  have hb : sliceBounds (some (c : Int)) none none xs.length = ((c : Int), (xs.length : Int), 1) := by
    unfold sliceBounds; simp; (first | lia | omega)
  rw [hb]
  dsimp only
  rw [range_up]
  refine pick_ext (by simp) fun i hi => ⟨by (first | lia | omega), ?_⟩
  rw [List.getElem?_drop]
theorem range_down (n : Nat) : sliceRange ((n : Int) - 1) (-1) (-1) = (List.range n).map fun k => n - 1 - k := by
  unfold sliceRange
  rw [if_neg (by decide)]
  have hc : (if (n : Int) - 1 > -1 then ((n : Int) - 1 - -1 - -1 - 1) / (- -1) else 0).toNat = n := by
    split
    · rw [show -(-1 : Int) = 1 by decide, Int.ediv_one]; (first | lia | omega)
    · (first | lia | omega)
  dsimp only
  rw [hc]
  refine List.map_congr_left fun k hk => ?_
  have := List.mem_range.mp hk
  (first | lia | omega)
theorem slice_rev (xs : List PV) : sliceP xs none none (some (-1)) = xs.reverse := by
  unfold sliceP
  have hb : sliceBounds none none (some (-1)) xs.length = ((xs.length : Int) - 1, -1, -1) := by
    unfold sliceBounds; simp
  rw [hb]
  dsimp only
  rw [range_down]
  refine pick_ext (by simp) fun i hi => ⟨by (first | lia | omega), ?_⟩
  rw [List.getElem?_reverse hi]
theorem slice_last (xs : List PV) (h : xs ≠ []) : sliceP xs (some (-2)) none (some (-1)) = xs.dropLast.reverse := by
  have hp := List.length_pos_iff.mpr h
  unfold sliceP
  have hb : sliceBounds (some (-2)) none (some (-1)) xs.length = (((xs.length - 1 : Nat) : Int) - 1, -1, -1) := by
    unfold sliceBounds; simp; (first | lia | omega)
  rw [hb]
  dsimp only
  rw [range_down]
  refine pick_ext (by simp) fun i hi => ⟨by (first | lia | omega), ?_⟩
  rw [List.getElem?_reverse (by simp; (first | lia | omega)), List.length_dropLast, List.getElem?_dropLast, if_pos (by (first | lia | omega))]
theorem up_range (n : Nat) (h : n ≤ 1000000) : rangeOf [.int (n : Int)] (rangeL 0 (n : Int) 1) := .inl ⟨_, rfl, decide_eq_true (by (first | lia | omega)), rfl⟩
mutual
noncomputable def Tm.dep : Tm → Nat
  | .v _ => 0 | .a _ => 0 | .i _ => 0 | .s _ args => 1 + Tm.depL args
noncomputable def Tm.depL : List Tm → Nat
  | [] => 0 | t :: r => max t.dep (Tm.depL r)
end
theorem Tm.depL_mem : ∀ {l : List Tm} {p : Tm}, p ∈ l → p.dep ≤ Tm.depL l
  | t :: r, p, h => by
    rw [Tm.depL]
    rcases List.mem_cons.mp h with rfl | h
    · (first | lia | omega)
    · have := Tm.depL_mem h; (first | lia | omega)
theorem Tm.varsL_mem : ∀ {l : List Tm} {p : Tm}, p ∈ l → ∀ n ∈ p.vars, n ∈ Tm.varsL l
  | t :: r, p, h, n, hn => by
    rw [Tm.varsL, List.mem_append]
    rcases List.mem_cons.mp h with rfl | h
    · exact .inl hn
    · exact .inr (Tm.varsL_mem h n hn)
theorem eqL_cons {f : PV → PV → Option Bool} {x y : PV} {xs ys : List PV} (h : f x y = some true) (h2 : eqL f xs ys = some true) : eqL f (x :: xs) (y :: ys) = some true := by
  unfold eqL; rw [h, h2]; rfl
mutual
theorem eqv_refl : ∀ (t : Tm) (n : Nat), 2 * t.dep + 2 ≤ n → eqv n t.pv t.pv = some true
  | .v i, n, h => by obtain ⟨n, rfl⟩ : ∃ m, n = m + 2 := ⟨n - 2, by (first | lia | omega)⟩; simp [Tm.pv, eqv, eqL]
  | .a i, n, h => by obtain ⟨n, rfl⟩ : ∃ m, n = m + 2 := ⟨n - 2, by (first | lia | omega)⟩; simp [Tm.pv, eqv, eqL]
  | .i i, n, h => by obtain ⟨n, rfl⟩ : ∃ m, n = m + 2 := ⟨n - 2, by (first | lia | omega)⟩; simp [Tm.pv, eqv, eqL]
  | .s f args, n, h => by
    obtain ⟨n, rfl⟩ : ∃ m, n = m + 2 := ⟨n - 2, by (first | lia | omega)⟩
    rw [Tm.dep] at h
    have ih := eqL_refl args n (by (first | lia | omega))
    simp only [Tm.pv]
    unfold eqv
    refine eqL_cons (by simp [eqv]) (eqL_cons (by simp [eqv]) (eqL_cons ?_ rfl))
    unfold eqv
    exact ih
theorem eqL_refl : ∀ (l : List Tm) (n : Nat), 2 * Tm.depL l + 2 ≤ n → eqL (eqv n) (Tm.pvs l) (Tm.pvs l) = some true
  | [], _, _ => rfl
  | t :: r, n, h => by
    rw [Tm.depL] at h
    rw [Tm.pvs]
    exact eqL_cons (eqv_refl t n (by (first | lia | omega))) (eqL_refl r n (by (first | lia | omega)))
end
theorem eqS_refl (σ : St) (t : Tm) (h : t.dep ≤ 29) : eqS σ t.pv t.pv = some true := by
  have := eqv_refl t eqDepth (by unfold eqDepth; (first | lia | omega))
  cases t <;> exact this

theorem listT_vars (z : Tm) : ∀ its : List Tm, (listT its z).vars = Tm.varsL its ++ z.vars
  | [] => rfl
  | t :: r => by
    have := listT_vars z r
    unfold listT at this ⊢
    rw [List.foldr_cons]
    simp only [Tm.vars, Tm.varsL]
    rw [this]; simp
theorem listT_size (z : Tm) : ∀ its : List Tm, (listT its z).size = its.length + Tm.sizeL its + z.size
  | [] => by simp [listT, Tm.sizeL]
  | t :: r => by
    have := listT_size z r
    unfold listT at this ⊢
    rw [List.foldr_cons]
    simp only [Tm.size, Tm.sizeL, List.length_cons]
    rw [this]; (first | lia | omega)
theorem listT_dep (z : Tm) : ∀ its : List Tm, Tm.depL its = 0 → (listT its z).dep ≤ its.length + z.dep
  | [], _ => by simp [listT]
  | t :: r, h => by
    rw [Tm.depL] at h
    have := listT_dep z r (by (first | lia | omega))
    unfold listT at this ⊢
    rw [List.foldr_cons]
    simp only [Tm.dep, Tm.depL, List.length_cons]
    (first | lia | omega)
theorem nxs_mono (U : List Int) (lo : Int) (c : Nat) : ∀ d, nxs U lo c ≤ nxs U lo (c + d)
  | 0 => Int.le_refl _
  | d + 1 => by
    have := nxs_mono U lo c d
    have h := free_le U (nxs U lo (c + d))
    show nxs U lo c ≤ free U (nxs U lo (c + d)) + 1
    (first | lia | omega)
theorem phi_ge (U : List Int) (lo : Int) (c : Nat) : lo ≤ φt U lo c := by
  have := nxs_mono U lo 0 c
  have h := free_le U (nxs U lo c)
  rw [Nat.zero_add] at this
  unfold φt
  have : nxs U lo 0 = lo := rfl
  (first | lia | omega)
theorem phi_lt (U : List Int) (lo : Int) {c d : Nat} (h : c < d) : φt U lo c < φt U lo d := by
  have h1 : nxs U lo (c + 1) = free U (nxs U lo c) + 1 := rfl
  have h2 := nxs_mono U lo (c + 1) (d - (c + 1))
  rw [show c + 1 + (d - (c + 1)) = d by (first | lia | omega)] at h2
  have h3 := free_le U (nxs U lo d)
  unfold φt
  (first | lia | omega)
theorem comp_rule' {T : LM → St → (Bool → St → Prop) → Prop} {V : LM → St → EQ → Prop} {x : Nat} {chk : St → Prop} {lm : LM} {Q : List PV → St → Prop} (Inv : Nat → List PV → St → Prop) : ∀ (ys zs acc : List PV) (σ : St) (_ : Inv zs.length acc σ) (_ : ∀ i acc σ, Inv i acc σ → chk σ)
    (_ : ∀ i y acc σ (K : List PV → St → Prop), (zs ++ ys)[i]? = some y → Inv i acc σ → (∀ acc' σ', Inv (i + 1) acc' σ' → K acc' σ') → T (upd lm x y) σ fun b σ₁ => if b then V (upd lm x y) σ₁ fun v σ₂ => acc.length < big ∧ K (acc ++ [v]) σ₂ else K acc σ₁)
    (_ : ∀ acc σ, Inv (zs ++ ys).length acc σ → Q acc σ), compW T V x chk lm ys acc σ Q
  | [], zs, acc, σ, h0, hc, _, hq => ⟨hc _ _ _ h0, hq acc σ (by rw [List.append_nil]; exact h0)⟩
  | y :: ys, zs, acc, σ, h0, hc, hs, hq => by
    have e : (zs ++ [y]) ++ ys = zs ++ y :: ys := by simp
    have el : (zs ++ [y]).length = zs.length + 1 := by simp
    refine ⟨hc _ _ _ h0, hs zs.length y acc σ (fun acc' σ' => compW T V x chk lm ys acc' σ' Q) (by simp) h0 fun acc' σ' h => ?_⟩
    exact comp_rule' Inv ys (zs ++ [y]) acc' σ' (by rw [el]; exact h) hc (by rw [e]; exact hs) (by rw [e]; exact hq)
theorem comp_rule {T : LM → St → (Bool → St → Prop) → Prop} {V : LM → St → EQ → Prop} {x : Nat} {chk : St → Prop} {lm : LM} {Q : List PV → St → Prop} {ys acc : List PV} {σ : St} (Inv : Nat → List PV → St → Prop) (h0 : Inv 0 acc σ) (hc : ∀ i acc σ, Inv i acc σ → chk σ)
    (hs : ∀ i y acc σ (K : List PV → St → Prop), ys[i]? = some y → Inv i acc σ → (∀ acc' σ', Inv (i + 1) acc' σ' → K acc' σ') → T (upd lm x y) σ fun b σ₁ => if b then V (upd lm x y) σ₁ fun v σ₂ => acc.length < big ∧ K (acc ++ [v]) σ₂ else K acc σ₁)
    (hq : ∀ acc σ, Inv ys.length acc σ → Q acc σ) : compW T V x chk lm ys acc σ Q := comp_rule' Inv ys [] acc σ h0 hc hs hq
noncomputable def PileAt (σ : St) (kp : Nat) : Prop := ∃ L : List Int, σ[kp]? = some (.list (L.map .int))
structure W2 (σ : St) (k kp : Nat) (S : Sym) : Prop where
  s : SymAt σ k S
  o : Sok S
  z : S0.le S
  p : PileAt σ kp
  h : kp < k
section
variable {P : Pg} {σ σ' : St} {k m kp : Nat} {S : Sym} {Q : EQ}
theorem PileAt.frame {M : Nat → Prop} (h : PileAt σ kp) (F : Fr M σ σ') (hm : ¬ M kp) : PileAt σ' kp := h.imp fun _ e => F.at' _ _ e hm
theorem W2.pull (h : W2 σ k kp S) (F : Fr (fun j => j = kp) σ σ') (p : PileAt σ' kp) : W2 σ' k kp S :=
  ⟨h.s.frame F (fun j _ _ => by have := h.h; (first | lia | omega)), h.o, h.z, p, h.h⟩
theorem W2.sym {S' : Sym} (h : W2 σ k kp S) (F : Fr (symM k) σ σ') (s : SymAt σ' k S') (o : Sok S') (l : S.le S') : W2 σ' k kp S' :=
  ⟨s, o, h.z.trans l, h.p.frame F (by have := h.h; unfold symM; (first | lia | omega)), h.h⟩
theorem W2.no (h : W2 σ k kp S) (F : Fr (fun _ => False) σ σ') : W2 σ' k kp S := ⟨sym_no h.s F, h.o, h.z, h.p.frame F id, h.h⟩
theorem W2.fr (h : W2 σ k kp S) {j : Nat} (F : Fr (fun i => i = j) σ σ') (hj : k + 4 < j) : W2 σ' k kp S :=
  ⟨h.s.frame F (fun i _ _ => by (first | lia | omega)), h.o, h.z, h.p.frame F (by have := h.h; (first | lia | omega)), h.h⟩
theorem W2.len (h : W2 σ k kp S) : k + 4 < σ.length := (List.getElem?_eq_some_iff.mp h.s.fd).1
theorem eqLs_nil (l : List Int) : eqLs (l.map PV.int) [] = some l.isEmpty := by cases l <;> rfl
theorem eqS_objs {i j : Nat} {xs ys : List PV} (h : σ[i]? = some (.list xs)) (h2 : σ[j]? = some (.list ys)) : eqS σ (.obj i) (.obj j) = eqLs xs ys := by
  show (lst? σ i).bind _ = _
  rw [lst_of h]
  show (lst? σ j).bind _ = _
  rw [lst_of h2]; rfl
theorem choose_S (T : Tab2 P) {many : Int} (h : PileAt σ kp) (hm : 0 < many) (q : ∀ (r : Int) σ', 0 ≤ r → r < many → PileAt σ' kp → Fr (fun j => j = kp) σ σ' → Q (.int r) σ') : wpCall P (m + 1) 385 [.obj kp, .int many] σ Q := by
  obtain ⟨L, hL⟩ := h
  have hbig0 : (0 : Nat) ≤ big := by decide
  have e := eqS_objs (σ := σ ++ [.list []]) (get_app hL) get_new
  rw [eqLs_nil] at e
  refine enter T.f385 rfl ?_
  unfold b_385
  rcases List.eq_nil_or_concat L with rfl | ⟨a, b, rfl⟩
  · have e : eqS (σ ++ [.list []]) (.obj kp) (.obj σ.length) = some true := e
    (refine r_seq (r_ret (r_ite (r_te (r_prim2 (r_var rfl (a_p2 (r_list (r_pures rfl ?_)))))))); refine a_list ?wa ?_; (case wa => assumption); refine a_p2b ?_; refine' p_ne ?wa ?_; (case wa => with_reducible assumption); refine r_truB ?_; refine a_iteF ?wa ?_; (case wa => decide); refine r_int (a_ret (r_seqR (r_retR ?_))))
    exact q 0 _ (Int.le_refl _) hm ⟨[], get_app hL⟩ (Fr.new _)
  · have e : eqS (σ ++ [.list []]) (.obj kp) (.obj σ.length) = some false := by rw [e]; simp
    have hla : ((a.concat b).map PV.int).getLast? = some (.int b) := by simp
    have hdl : ((a.concat b).map PV.int).dropLast = a.map PV.int := by simp
    (refine r_seq (r_ret (r_ite (r_te (r_prim2 (r_var rfl (a_p2 (r_list (r_pures rfl ?_)))))))); refine a_list ?wa ?_; (case wa => assumption); refine a_p2b ?_; refine' p_ne ?wa ?_; (case wa => with_reducible assumption); refine r_truB (a_iteT rfl (r_prim2 (r_bm (r_var rfl ?_)))); refine a_bm ?wa ?_; (case wa => (refine' bmOk_list ?wz (by intro e; cases e); (case wz => (refine get_app ?_; assumption)))); refine r_pures rfl (a_bm2 ?_); refine' b_pop ?wa ?wb ?_; (case wa => (refine get_app ?_; assumption)); (case wb => with_reducible assumption); refine a_p2 (r_var rfl (a_p2b ?_)); refine' p_mod ?wa ?_; (case wa => assumption); refine a_ret (r_seqR (r_retR ?_)))
    rw [hdl]
    exact q _ _ (Int.emod_nonneg _ (by (first | lia | omega))) (Int.emod_lt_of_pos _ hm) ⟨a, get_set_eq (get_app hL)⟩ ((Fr.new _).trans (Fr.set rfl))
noncomputable def dIn : MS := match b_378 with
  | .seq _ (.seq (.for _ _ (.seq _ (.seq s _))) _) => s
  | s => s
set_option tactic.hygienic true in
theorem dig_in {M : List Int} {c kq : Nat} {lm : LM} {n : Int} {Q : SQ} (h1 : lm 1 = some (.obj kq)) (h3 : lm 3 = some (.int n)) (hq : σ[kq]? = some (.list (M.map .int))) (hM : M.length ≤ c) (hc : c ≤ 1000)
    (q : ∀ (lm' : LM) (M' : List Int) (σ' : St), lm' 1 = some (.obj kq) → M'.length ≤ c + 12 → σ'[kq]? = some (.list (M'.map .int)) → Fr (fun j => j = kq) σ σ' → Q .next lm' σ') : wps (wpCall P m) P dIn lm σ Q := by
  have hR : rangeOf [.int 12] (rangeL 0 ((12 : Nat) : Int) 1) := up_range 12 (by (first | lia | omega))
  unfold dIn b_378
  dsimp only
  (refine r_for (i_range (r_pures rfl ?_)); refine' i_rangeK ?wa ?_; (case wa => with_reducible assumption); refine a_for ?_)
  refine for_rule (fun i lm τ => ∃ (M : List Int) (n : Int), M.length ≤ c + i ∧ lm 1 = some (.obj kq) ∧ lm 3 = some (.int n) ∧ τ[kq]? = some (.list (M.map .int)) ∧ Fr (fun j => j = kq) σ τ) ⟨M, n, hM, h1, h3, hq, Fr.refl⟩ (fun _ _ _ _ => trivial) ?_ ?_
  · rintro i y lm τ K hy ⟨M, n, hM, h1, h3, hq, F⟩ hK
    have hi := (List.getElem?_eq_some_iff.mp hy).1
    rw [rangeL_len, up_size] at hi
    have hlen : (M.map PV.int).length < big := by rw [List.length_map]; unfold big; (first | lia | omega)
    have ap : M.map PV.int ++ [.int (n % 900)] = (M ++ [n % 900]).map PV.int := by simp
    have F' : Fr (fun j => j = kq) σ (τ.set kq (.list ((M ++ [n % 900]).map PV.int))) := F.trans (Fr.set rfl)
    (refine r_seq (r_expr (r_bm ?_)); refine' r_var ?wa ?_; (case wa => assumption); refine a_bm ?wa ?_; (case wa => (refine' bmOk_list ?wz (by intro e; cases e); (case wz => assumption))); refine r_econs (r_prim2 ?_); refine' r_var ?wa ?_; (case wa => assumption); refine a_p2 (r_int (a_p2b ?_)); refine' p_mod ?wa ?_; (case wa => trivial); refine a_cons1 (r_pures rfl (a_cons2 (a_bm2 ?_))); refine' b_append ?wa ?wb ?_; (case wa => assumption); (case wb => assumption); refine a_exp (r_seqN (r_seq (r_assign (r_prim2 ?_)))); refine' r_var ?wa ?_; (case wa => assumption); refine a_p2 (r_int (a_p2b ?_)); refine' p_fdiv ?wa ?_; (case wa => decide); refine a_asg (t_var (a_nx (r_seqN (r_seq (r_site (r_te (r_primP rfl (p_eq rfl (r_truB ?_))))))))))
    rw [ap]
    by_cases hz : n / 900 = 0
    · (refine a_siteT ?wa ?_; (case wa => (simp only [decide_eq_true_eq, decide_eq_false_iff_not, Bool.not_eq_true, Bool.not_eq_true', Bool.not_eq_false, Bool.not_eq_false', decide_not, Bool.not_not, Bool.and_false, Bool.false_and, Bool.or_false, Bool.false_or, Bool.true_and, Bool.and_true, Bool.false_eq_true, Bool.and_eq_true, Bool.or_eq_true, not_true_eq_false, not_false_eq_true]; assumption)); refine r_seq (r_brk (r_seqB (r_seqB (r_forB ?_)))))
      exact q _ _ _ h1 (by simp; (first | lia | omega)) (get_set_eq hq) F'
    · (refine a_siteF ?wa ?_; (case wa => (simp only [decide_eq_true_eq, decide_eq_false_iff_not, Bool.not_eq_true, Bool.not_eq_true', Bool.not_eq_false, Bool.not_eq_false', decide_not, Bool.not_not, Bool.and_false, Bool.false_and, Bool.or_false, Bool.false_or, Bool.true_and, Bool.and_true, Bool.false_eq_true, Bool.and_eq_true, Bool.or_eq_true, not_true_eq_false, not_false_eq_true]; assumption)); refine r_skip (r_seqN (r_skip (r_forN ?_))))
      exact hK _ _ ⟨M ++ [n % 900], n / 900, by simp; (first | lia | omega), h1, rfl, get_set_eq hq, F'⟩
  · rintro lm τ ⟨M, n, hM, h1, h3, hq, F⟩
    rw [rangeL_len, up_size] at hM
    exact q _ _ _ h1 hM hq F
theorem digits_S (T : Tab2 P) {script : List Int} (h : σ[k]? = some (.ro (script.map .int))) (hs : script.length ≤ 63) (q : ∀ σ' kp, PileAt σ' kp → Fr (fun _ => False) σ σ' → Q (.obj kp) σ') : wpCall P (m + 1) 378 [.obj k] σ Q := by
  have hbig0 : (0 : Nat) ≤ big := by decide
  have hL : sliceP (script.map PV.int) none (some 60) none = (script.take 60).map PV.int := by
    rw [List.map_take]; exact slice_take _ 60
  have hl : (script.take 60).length ≤ 60 := by simp; (first | lia | omega)
  refine enter T.f378 rfl ?_
  unfold b_378
  (refine r_seq (r_assign (r_list (r_pures rfl ?_))); refine a_list ?wa ?_; (case wa => assumption); refine a_asg (t_var (a_nx (r_seqN (r_seq (r_for (i_val (r_primP rfl ?_))))))); refine' p_sliceR ?wa ?wb ?wc ?wd ?we ?_; (case wa => rfl); (case wb => rfl); (case wc => rfl); (case wd => (refine get_app ?_; assumption)); (case we => decide); refine' i_valL ?wa ?_; (case wa => exact get_new); refine a_for ?_)
  rw [hL]
  generalize script.take 60 = L at *
  have F0 : Fr (fun _ => False) σ ((σ ++ [AObj.list []]) ++ [AObj.list (L.map .int)]) := (Fr.new _).trans (Fr.new _)
  refine for_rule (fun i lm τ => ∃ M : List Int, M.length ≤ 12 * i ∧ lm 1 = some (.obj σ.length) ∧ τ[σ.length]? = some (.list (M.map .int)) ∧ Fr (fun _ => False) σ τ ∧ τ[(σ ++ [AObj.list []]).length]? = some (.list (L.map .int))) ⟨[], by simp, rfl, get_app get_new, F0, get_new⟩ (fun i lm τ h => by obtain ⟨_, _, _, _, _, h⟩ := h; exact h) ?_ ?_
  · rintro i y lm τ K hy ⟨M, hM, l1, e1, F, e2⟩ hK
    have hi := (List.getElem?_eq_some_iff.mp hy).1
    rw [List.length_map] at hi
    rw [List.getElem?_map] at hy
    obtain ⟨d, hd, rfl⟩ := Option.map_eq_some_iff.mp hy
    have fin : ∀ (lm' : LM) (M' : List Int) (σ' : St), lm' 1 = some (.obj σ.length) → M'.length ≤ 12 * i + 12 → σ'[σ.length]? = some (.list (M'.map .int)) → Fr (fun j => j = σ.length) τ σ' → K lm' σ' := fun lm' M' σ' a b c F1 =>
      hK _ _ ⟨M', by (first | lia | omega), a, c, ⟨Nat.le_trans F.len F1.len, fun j o e n => F1.at' j o (F.at' j o e n) (by have := (List.getElem?_eq_some_iff.mp e).1; (first | lia | omega))⟩, F1.at' _ _ e2 (by simp)⟩
    by_cases h0 : 0 ≤ d
    · refine r_seq ?_; refine r_assign ?_; (refine r_ite (r_te (r_primP rfl (p_ge (r_truB ?_)))); refine a_iteT ?wa ?_; (case wa => (simp only [decide_eq_true_eq, decide_eq_false_iff_not, Bool.not_eq_true, Bool.not_eq_true', Bool.not_eq_false, Bool.not_eq_false', decide_not, Bool.not_not, Bool.and_false, Bool.false_and, Bool.or_false, Bool.false_or, Bool.true_and, Bool.and_true, Bool.false_eq_true, Bool.and_eq_true, Bool.or_eq_true, not_true_eq_false, not_false_eq_true]; assumption)); refine r_var rfl (a_asg (t_var (a_nx (r_seqN (r_seq (r_for (i_range (r_pures rfl ?_)))))))))
      refine dig_in (c := 12 * i) (M := M) l1 rfl e1 hM (by (first | lia | omega)) fun lm' M' σ' a b c F1 => ?_
      refine r_seqN (r_skip (r_forN ?_))
      exact fin _ _ _ a b c F1
    · (refine r_seq (r_assign (r_ite (r_te (r_primP rfl (p_ge (r_truB ?_)))))); refine a_iteF ?wa ?_; (case wa => (simp only [decide_eq_true_eq, decide_eq_false_iff_not, Bool.not_eq_true, Bool.not_eq_true', Bool.not_eq_false, Bool.not_eq_false', decide_not, Bool.not_not, Bool.and_false, Bool.false_and, Bool.or_false, Bool.false_or, Bool.true_and, Bool.and_true, Bool.false_eq_true, Bool.and_eq_true, Bool.or_eq_true, not_true_eq_false, not_false_eq_true]; assumption)); refine r_primP rfl (p_sub (a_asg (t_var (a_nx (r_seqN (r_seq (r_for (i_range (r_pures rfl ?_))))))))))
      refine dig_in (c := 12 * i) (M := M) l1 rfl e1 hM (by (first | lia | omega)) fun lm' M' σ' a b c F1 => ?_
      refine r_seqN (r_skip (r_forN ?_))
      exact fin _ _ _ a b c F1
  · rintro lm τ ⟨M, hM, l1, e1, F, e2⟩
    obtain ⟨L2, hL2⟩ := slice_map PV.int M none (some 150) none
    have ne : τ.length ≠ σ.length := by have := F.len; have := (List.getElem?_eq_some_iff.mp e2).1; simp at this; (first | lia | omega)
    (refine r_seqN (r_seq (r_assign (r_prim (r_econs ?_)))); refine' r_var ?wa ?_; (case wa => assumption); refine a_cons1 (r_pures rfl (a_cons2 (a_pn ?_))); refine' p_slice ?wa ?wb ?wc ?wd ?we ?_; (case wa => rfl); (case wb => rfl); (case wc => rfl); (case wd => assumption); (case we => decide); refine a_asg (t_var (a_nx (r_seqN (r_seq (r_expr (r_bm (r_var rfl ?_))))))); refine a_bm ?wa ?_; (case wa => (refine' bmOk_list ?wz (by intro e; cases e); (case wz => exact get_new))); refine r_pures rfl (a_bm2 ?_); refine' b_reverse ?wa ?_; (case wa => exact get_new); refine a_exp (r_seqN (r_seq (r_ret (r_var rfl (a_ret (r_seqR (r_retR ?_))))))))
    rw [hL2, ← List.map_reverse]
    exact q _ _ ⟨L2.reverse, get_set_eq get_new⟩ ((F.trans (Fr.new _)).setNew F.len)
theorem law_list_S (T : Tab2 P) {k : Nat} {items : List Tm} {e : Tm} (h : σ[k]? = some (.list (Tm.pvs items))) (q : ∀ σ', Fr (fun _ => False) σ σ' → Q (listT items e).pv σ') : wpCall P (m + 1) 399 [.obj k, e.pv] σ Q := by
  have hbig2 : (2 : Nat) ≤ big := by decide
  have hbig3 : (3 : Nat) ≤ big := by decide
  refine enter T.f399 rfl ?_
  unfold b_399
  (refine r_seq (r_assign (r_var rfl (a_asg (t_var (a_nx (r_seqN (r_seq (r_for (i_val ?_))))))))); refine r_primP rfl ?_; refine' p_slice ?wa ?wb ?wc ?wd ?we ?_; (case wa => rfl); (case wb => rfl); (case wc => rfl); (case wd => assumption); (case we => decide); refine' i_valL ?wa ?_; (case wa => exact get_new); refine a_for ?_)
  rw [slice_rev (Tm.pvs items)]
  refine for_rule (fun i lm σ' => σ' = σ ++ [.list (Tm.pvs items).reverse] ∧ ∃ a b, items = a ++ b ∧ b.length = i ∧ lm 2 = some (listT b e).pv) ⟨rfl, items, [], by simp, rfl, rfl⟩ (fun i lm σ' h' => h'.1 ▸ get_new) ?_ ?_
  · rintro i y lm σ' K hy ⟨rfl, a, b, rfl, rfl, h2⟩ hK
    rw [Tm.pvs_eq] at hy
    obtain ⟨a', t, rfl, rfl⟩ := rev_at hy
    (refine r_seq (r_assign (r_tup (r_econs (r_str (a_cons1 (r_econs (r_int (a_cons1 (r_econs ?_))))))))); refine r_tup (r_econs (r_var rfl (a_cons1 (r_econs ?_)))); refine' r_var ?wa ?_; (case wa => assumption); refine a_cons1 (r_pures rfl (a_cons2 (a_cons2 ?_))); refine a_tup ?wa ?_; (case wa => assumption); refine a_cons1 (r_pures rfl (a_cons2 (a_cons2 (a_cons2 ?_)))); refine a_tup ?wa ?_; (case wa => assumption); refine a_asg (t_var (a_nx (r_seqN (r_skip (r_forN ?_))))))
    exact hK _ _ ⟨rfl, a', t :: b, by simp, by simp, rfl⟩
  · rintro lm σ' ⟨rfl, a, b, rfl, hl, h2⟩
    have : a = [] := by
      simp [Tm.pvs_len] at hl
      cases a with
      | nil => rfl
      | cons _ _ => simp at hl
    subst this
    (refine r_seqN (r_seq (r_ret ?_)); refine' r_var ?wa ?_; (case wa => assumption); refine a_ret (r_seqR (r_retR ?_)))
    exact q _ (Fr.new _)
theorem chooseW (T : Tab2 P) {many : Int} (h : W2 σ k kp S) (hm : 0 < many) (q : ∀ (r : Int) σ', 0 ≤ r → r < many → W2 σ' k kp S → Fr (MM k kp) σ σ' → Q (.int r) σ') : wpCall P (m + 1) 385 [.obj kp, .int many] σ Q :=
  choose_S T h.p hm fun r σ' h0 h1 p F => q r σ' h0 h1 (h.pull F p) (fr_kf F)
theorem atomW (T : Tab2 P) {x : Str} (h : W2 σ k kp S) (hx : x ∈ AL) (q : ∀ (i : Nat) S' σ', S.le S' → S'.texts[i]? = some x → W2 σ' k kp S' → Fr (MM k kp) σ σ' → Q (.int (i : Int)) σ') : wpCall P (m + 1) 88 [.obj k, .str x] σ Q :=
  atomS T.toTabP h.s h.o hx fun i σ' e s o F => q i _ σ' (S.le_addA x) e (h.sym F s o (S.le_addA x)) (fr_sym F)
theorem funcW (T : Tab2 P) {x : Str} {r : Int} (h : W2 σ k kp S) (hx : x ∈ AL) (hr : 0 ≤ r ∧ r ≤ 8) (q : ∀ (a i : Nat) S' σ', S.le S' → S'.texts[a]? = some x → S'.funs[i]? = some ((a : Int), r) → W2 σ' k kp S' → Fr (MM k kp) σ σ' → Q (.int (i : Int)) σ') : wpCall P (m + 2) 109 [.obj k, .str x, .int r] σ Q :=
  funcS T.toTabP h.s h.o hx hr fun a i σ' e1 e2 s o F => q a i _ σ' ((S.le_addA x).trans (Sym.le_addF _ _ _)) (le_text (Sym.le_addF _ _ _) e1) e2 (h.sym F s o ((S.le_addA x).trans (Sym.le_addF _ _ _))) (fr_sym F)
theorem text_ge (h : S0.le S) {i : Nat} {x : Str} (e : S.texts[i]? = some x) (hx : x ∉ fixedT) : 29 ≤ i := by
  rcases Nat.lt_or_ge i 29 with hi | hi
  · obtain ⟨⟨l, e'⟩, _⟩ := h
    rw [e', List.getElem?_append_left (by exact hi)] at e
    exact absurd (List.mem_of_getElem? e) hx
  · exact hi
theorem func_ge (h : S0.le S) {i : Nat} {a r : Int} (e : S.funs[i]? = some (a, r)) (ha : 29 ≤ a) : 32 ≤ i := by
  rcases Nat.lt_or_ge i 32 with hi | hi
  · obtain ⟨_, ⟨l, e'⟩⟩ := h
    rw [e', List.getElem?_append_left (by exact hi)] at e
    have hm : (a, r) ∈ S0.funs := List.mem_of_getElem? e
    have : ∀ p ∈ S0.funs, p.1 < 29 := by decide +kernel
    have := this _ hm
    simp at this
    (first | lia | omega)
  · exact hi
theorem leaf_S (T : Tab2 P) (h : W2 σ k kp S) (q : ∀ S' σ' (t : Tm), S.le S' → W2 σ' k kp S' → Fr (MM k kp) σ σ' → t.size = 1 → t.dep = 0 → Q t.pv σ') : wpCall P (m + 2) 392 [.obj kp, .obj k] σ Q := by
  have T' : TabP P := T.toTabP
  have hbig2 : (2 : Nat) ≤ big := by decide
  refine enter T.f392 rfl ?_
  unfold b_392
  refine r_seq (r_assign (r_callP rfl ?_))
  refine chooseW T h (by (first | lia | omega)) fun r σ₁ r0 r1 h1 F1 => ?_
  by_cases e3 : r = 3
  · (refine a_asg (t_var (a_nx (r_seqN (r_seq (r_site (r_te (r_primP rfl (p_eq rfl (r_truB ?_))))))))); refine a_siteT ?wa ?_; (case wa => (simp only [decide_eq_true_eq, decide_eq_false_iff_not, Bool.not_eq_true, Bool.not_eq_true', Bool.not_eq_false, Bool.not_eq_false', decide_not, Bool.not_not, Bool.and_false, Bool.false_and, Bool.or_false, Bool.false_or, Bool.true_and, Bool.and_true, Bool.false_eq_true, Bool.and_eq_true, Bool.or_eq_true, not_true_eq_false, not_false_eq_true]; assumption)); refine r_seq (r_ret (r_tup (r_econs (r_str (a_cons1 (r_econs (r_callP rfl ?_))))))))
    refine chooseW T h1 (by (first | lia | omega)) fun r σ₂ r0 r1 h2 F2 => ?_
    (refine a_cons1 (r_pures rfl (a_cons2 (a_cons2 ?_))); refine a_tup ?wa ?_; (case wa => assumption); refine a_ret (r_seqR (r_seqR (r_retR ?_))))
    exact q S σ₂ (.i r) S.le_refl h2 (F1.trans F2) rfl rfl
  by_cases e2 : r = 2
  · have ei := h1.s.i
    (refine a_asg (t_var (a_nx (r_seqN (r_seq (r_site (r_te (r_primP rfl (p_eq rfl (r_truB ?_))))))))); refine a_siteF ?wa ?_; (case wa => (simp only [decide_eq_true_eq, decide_eq_false_iff_not, Bool.not_eq_true, Bool.not_eq_true', Bool.not_eq_false, Bool.not_eq_false', decide_not, Bool.not_not, Bool.and_false, Bool.false_and, Bool.or_false, Bool.false_or, Bool.true_and, Bool.and_true, Bool.false_eq_true, Bool.and_eq_true, Bool.or_eq_true, not_true_eq_false, not_false_eq_true]; assumption)); refine r_skip (r_seqN (r_seq (r_site (r_te (r_primP rfl (p_eq rfl (r_truB ?_))))))); refine a_siteT ?wa ?_; (case wa => (simp only [decide_eq_true_eq, decide_eq_false_iff_not, Bool.not_eq_true, Bool.not_eq_true', Bool.not_eq_false, Bool.not_eq_false', decide_not, Bool.not_not, Bool.and_false, Bool.false_and, Bool.or_false, Bool.false_or, Bool.true_and, Bool.and_true, Bool.false_eq_true, Bool.and_eq_true, Bool.or_eq_true, not_true_eq_false, not_false_eq_true]; assumption)); refine r_seq (r_ret (r_tup (r_econs (r_str (a_cons1 (r_econs (r_meth (r_var rfl ?_)))))))); refine' r_methK ?wa ?wb ?wc ?_; (case wa => assumption); (case wb => exact TabP.m8 (by assumption)); (case wc => rfl); refine r_pures rfl (a_meth ?_))
    refine atomW T h1 (by decide +kernel) fun a S₂ σ₂ l2 e2 h2 F2 => ?_
    (refine a_cons1 (r_pures rfl (a_cons2 (a_cons2 ?_))); refine a_tup ?wa ?_; (case wa => assumption); refine a_ret (r_seqR (r_seqR (r_retR ?_))))
    exact q S₂ σ₂ (.a a) l2 h2 (F1.trans F2) rfl rfl
  (refine a_asg (t_var (a_nx (r_seqN (r_seq (r_site (r_te (r_primP rfl (p_eq rfl (r_truB ?_))))))))); refine a_siteF ?wa ?_; (case wa => (simp only [decide_eq_true_eq, decide_eq_false_iff_not, Bool.not_eq_true, Bool.not_eq_true', Bool.not_eq_false, Bool.not_eq_false', decide_not, Bool.not_not, Bool.and_false, Bool.false_and, Bool.or_false, Bool.false_or, Bool.true_and, Bool.and_true, Bool.false_eq_true, Bool.and_eq_true, Bool.or_eq_true, not_true_eq_false, not_false_eq_true]; assumption)); refine r_skip (r_seqN (r_seq (r_site (r_te (r_primP rfl (p_eq rfl (r_truB ?_))))))); refine a_siteF ?wa ?_; (case wa => (simp only [decide_eq_true_eq, decide_eq_false_iff_not, Bool.not_eq_true, Bool.not_eq_true', Bool.not_eq_false, Bool.not_eq_false', decide_not, Bool.not_not, Bool.and_false, Bool.false_and, Bool.or_false, Bool.false_or, Bool.true_and, Bool.and_true, Bool.false_eq_true, Bool.and_eq_true, Bool.or_eq_true, not_true_eq_false, not_false_eq_true]; assumption)); refine r_skip (r_seqN (r_seq (r_ret (r_tup (r_econs (r_str (a_cons1 (r_econs (r_callP rfl ?_))))))))))
  refine chooseW T h1 (by (first | lia | omega)) fun r σ₂ r0 r1 h2 F2 => ?_
  (refine a_cons1 (r_pures rfl (a_cons2 (a_cons2 ?_))); refine a_tup ?wa ?_; (case wa => assumption); refine a_ret (r_seqR (r_retR ?_)))
  exact q S σ₂ (.v r) S.le_refl h2 (F1.trans F2) rfl rfl
noncomputable def ItOk (its : List Tm) : Prop := Tm.sizeL its = its.length ∧ Tm.depL its = 0
theorem ItOk.snoc {its : List Tm} {t : Tm} (h : ItOk its) (h2 : t.size = 1) (h3 : t.dep = 0) : ItOk (its ++ [t]) := by
  refine ⟨?_, ?_⟩
  · rw [Tm.sizeL_app, h.1, Tm.sizeL, h2]; simp [Tm.sizeL]
  · have depL_app : ∀ l m : List Tm, Tm.depL l = 0 → Tm.depL m = 0 → Tm.depL (l ++ m) = 0 := by
      intro l m hl hm
      induction l with
      | nil => exact hm
      | cons x r ih =>
        rw [Tm.depL] at hl
        rw [List.cons_append, Tm.depL, ih (by (first | lia | omega))]; (first | lia | omega)
    exact depL_app _ _ h.2 (by simp [Tm.depL, h3])
theorem leaves_S (T : Tab2 P) {a b : Nat} {lm : LM} (ha : a ≠ 50) (hb : b ≠ 50) (la : lm a = some (.obj kp)) (lb : lm b = some (.obj k)) {c : Nat} (hc : c ≤ 3) (h : W2 σ k kp S) {Q : List PV → St → Prop} (q : ∀ S' σ' its, S.le S' → W2 σ' k kp S' → Fr (MM k kp) σ σ' → its.length = c → ItOk its → Q (Tm.pvs its) σ') :
    compW (wpt (wpCall P (m + 2)) P .tt) (wpe (wpCall P (m + 2)) P (.call 392 (.cons (.var a) (.cons (.var b) .nil)))) 50 (fun _ => True) lm (rangeL 0 (c : Int) 1) [] σ Q := by
  refine comp_rule (fun i acc τ => ∃ its S', its.length = i ∧ acc = Tm.pvs its ∧ S.le S' ∧ W2 τ k kp S' ∧ Fr (MM k kp) σ τ ∧ ItOk its) ⟨[], S, rfl, rfl, S.le_refl, h, Fr.refl, rfl, rfl⟩ (fun _ _ _ _ => trivial) ?_ ?_
  · rintro i y acc τ K hy ⟨its, S', rfl, rfl, l, hW, F, ok⟩ hK
    have hi := (List.getElem?_eq_some_iff.mp hy).1
    rw [rangeL_len, up_size] at hi
    have la' : upd lm 50 y a = some (.obj kp) := by rw [upd_ne _ _ ha]; exact la
    have lb' : upd lm 50 y b = some (.obj k) := by rw [upd_ne _ _ hb]; exact lb
    have hlen : (Tm.pvs its).length < big := by rw [Tm.pvs_len]; unfold big; (first | lia | omega)
    generalize upd lm 50 y = lm' at la' lb'
    (refine r_tt (of_ite_pos rfl (r_call (r_econs ?_))); refine' r_var ?wa ?_; (case wa => assumption); refine a_cons1 (r_econs ?_); refine' r_var ?wa ?_; (case wa => assumption); refine a_cons1 (r_pures rfl (a_cons2 (a_cons2 (a_call ?_)))))
    refine leaf_S T hW fun S₂ σ₂ t l2 h2 F2 t1 t2 => ?_
    refine ⟨hlen, hK _ _ ⟨its ++ [t], S₂, by simp, ?_, l.trans l2, h2, F.trans F2, ok.snoc t1 t2⟩⟩
    rw [Tm.pvs_app]; rfl
  · rintro acc τ ⟨its, S', hl, rfl, l, hW, F, ok⟩
    rw [rangeL_len, up_size] at hl
    exact q S' τ its l hW F hl ok
end
noncomputable def isLeaf : Bd → Prop
  | .seq _ _ _ => False
  | .curly g => ∀ l, g ≠ .s 1 l
  | .atom n => 29 ≤ n
  | .cmp _ a _ => 29 ≤ a
  | _ => True
structure NmOk (S : Sym) (b : Bd) : Prop where
  head : isHead b
  lf : isLeaf b
  ok : b.ok S
  dp : b.dp = 0
  size : b.tm.size ≤ 3
  dep : b.tm.dep ≤ 1
theorem nmOk_atom {S : Sym} {i : Nat} (h : 29 ≤ i) (h2 : i < 40) : NmOk S (.atom i) :=
  ⟨trivial, h, ⟨by (first | lia | omega), by (first | lia | omega), h2⟩, rfl, by simp [Bd.tm, Tm.size], by simp [Bd.tm, Tm.dep]⟩
theorem nmOk_cmp {S : Sym} {f a : Nat} {args : List Tm} (hf : S.funs[f]? = some ((a : Int), (args.length : Int))) (h29 : 29 ≤ a) (h32 : 32 ≤ f) (hl : args.length ≤ 2) (h : ItOk args) : NmOk S (.cmp f a args) :=
  ⟨trivial, h29, ⟨hf, by (first | lia | omega), h32, by (first | lia | omega)⟩, rfl, by have := h.1; simp only [Bd.tm, Tm.size]; (first | lia | omega), by have := h.2; simp only [Bd.tm, Tm.dep]; (first | lia | omega)⟩
theorem NmOk.le {S S' : Sym} {b : Bd} (h : NmOk S b) (l : S.le S') : NmOk S' b := ⟨h.head, h.lf, Bd.ok_le l h.ok, h.dp, h.size, h.dep⟩
inductive Wt where
  | more (b : Bd) | text (l : List Tm) | plain (t : Tm) | phr (n : Int)
noncomputable def Bd.ws : Bd → List Wt
  | .lst l => [.text l] | .nil => [.text []] | .cut => [.plain (.a 15), .text []] | .atom n => [.more (.atom n)] | .cmp f a args => [.more (.cmp f a args)]
  | .curly g => [.plain g, .text []] | .var n => [.phr n] | .seq _ l r => l.ws ++ r.ws
noncomputable def WtAt (σ : St) (lo : Nat) (w : Wt) (v : PV) : Prop := match w with
  | .more b => v = .tup [.str "more", b.tm.pv]
  | .text l => ∃ kw, lo ≤ kw ∧ v = .tup [.str "text", .obj kw] ∧ σ[kw]? = some (.list (Tm.pvs l))
  | .plain t => v = .tup [.str "plain", t.pv]
  | .phr n => v = .tup [.str "phrase", (Tm.v n).pv]
theorem WtAt.frame {σ σ' : St} {lo : Nat} {w : Wt} {v : PV} {M : Nat → Prop} (h : WtAt σ lo w v) (F : Fr M σ σ') (hm : ∀ j, lo ≤ j → j < σ.length → ¬ M j) : WtAt σ' lo w v := by
  cases w with
  | text l =>
    obtain ⟨kw, a, b, c⟩ := h
    exact ⟨kw, a, b, F.at' _ _ c (hm _ a (List.getElem?_eq_some_iff.mp c).1)⟩
  | more b => exact h
  | plain t => exact h
  | phr n => exact h
theorem WtAt.low {σ : St} {lo lo' : Nat} {w : Wt} {v : PV} (h : WtAt σ lo w v) (l : lo' ≤ lo) : WtAt σ lo' w v := by
  cases w with
  | text l =>
    obtain ⟨kw, a, b, c⟩ := h
    exact ⟨kw, by (first | lia | omega), b, c⟩
  | more b => exact h
  | plain t => exact h
  | phr n => exact h
noncomputable def WtsAt (σ : St) (lo : Nat) : List Wt → List PV → Prop
  | [], vs => vs = []
  | w :: ws, vs => ∃ v r, vs = v :: r ∧ WtAt σ lo w v ∧ WtsAt σ lo ws r
theorem WtsAt.frame {σ σ' : St} {lo : Nat} {M : Nat → Prop} (F : Fr M σ σ') (hm : ∀ j, lo ≤ j → j < σ.length → ¬ M j) : ∀ {ws : List Wt} {vs : List PV}, WtsAt σ lo ws vs → WtsAt σ' lo ws vs
  | [], _, h => h
  | _ :: _, _, ⟨v, r, e, a, b⟩ => ⟨v, r, e, a.frame F hm, WtsAt.frame F hm b⟩
theorem WtsAt.low {σ : St} {lo lo' : Nat} (l : lo' ≤ lo) : ∀ {ws : List Wt} {vs : List PV}, WtsAt σ lo ws vs → WtsAt σ lo' ws vs
  | [], _, h => h
  | _ :: _, _, ⟨v, r, e, a, b⟩ => ⟨v, r, e, a.low l, WtsAt.low l b⟩
theorem WtsAt.app {σ : St} {lo : Nat} : ∀ {ws ws' : List Wt} {vs vs' : List PV}, WtsAt σ lo ws vs → WtsAt σ lo ws' vs' → WtsAt σ lo (ws ++ ws') (vs ++ vs')
  | [], _, _, _, h, h' => by cases h; exact h'
  | _ :: _, _, _, _, ⟨v, r, e, a, b⟩, h' => ⟨v, r ++ _, by rw [e]; rfl, a, WtsAt.app b h'⟩
theorem WtsAt.len {σ : St} {lo : Nat} : ∀ {ws : List Wt} {vs : List PV}, WtsAt σ lo ws vs → vs.length = ws.length
  | [], _, h => by cases h; rfl
  | _ :: _, _, ⟨v, r, e, a, b⟩ => by rw [e, List.length_cons, List.length_cons, WtsAt.len b]
theorem WtsAt.at' {σ : St} {lo : Nat} : ∀ {ws : List Wt} {vs : List PV} {i : Nat} {w : Wt}, WtsAt σ lo ws vs → ws[i]? = some w → ∃ v, vs[i]? = some v ∧ WtAt σ lo w v
  | [], _, _, _, _, h => nomatch h
  | _ :: _, _, 0, _, ⟨v, r, e, a, b⟩, h => by cases h; exact ⟨v, by rw [e]; rfl, a⟩
  | _ :: ws, _, i + 1, _, ⟨v, r, e, a, b⟩, h => by
    obtain ⟨v', h1, h2⟩ := WtsAt.at' (ws := ws) (i := i) b h
    exact ⟨v', by rw [e]; exact h1, h2⟩
structure LfOk (S : Sym) (b : Bd) : Prop where
  leaf : isLeaf b
  ok : b.ok S
  dp : b.dp = 0
  size : b.tm.size ≤ 5
  dep : b.tm.dep ≤ 2
theorem LfOk.le {S S' : Sym} {b : Bd} (h : LfOk S b) (l : S.le S') : LfOk S' b := ⟨h.leaf, Bd.ok_le l h.ok, h.dp, h.size, h.dep⟩
theorem NmOk.lfk {S : Sym} {b : Bd} (h : NmOk S b) : LfOk S b := ⟨h.lf, h.ok, h.dp, by have := h.size; (first | lia | omega), by have := h.dep; (first | lia | omega)⟩
theorem NmOk.ws {S : Sym} {b : Bd} (h : NmOk S b) : b.ws = [.more b] := by have := h.head; cases b <;> first | exact this.elim | rfl
theorem NmOk.curly {S : Sym} {b : Bd} (h : NmOk S b) : LfOk S (.curly b.tm) := by
  refine ⟨fun l e => ?_, trivial, rfl, by have := h.size; simp only [Bd.tm, Tm.size, Tm.sizeL]; (first | lia | omega), by have := h.dep; simp only [Bd.tm, Tm.dep, Tm.depL]; (first | lia | omega)⟩
  have h1 := h.head
  have h2 := h.ok
  cases b <;> try exact h1.elim
  · simp only [Bd.tm] at e; cases e
  · simp only [Bd.tm] at e
    have : (32 : Nat) ≤ _ := h2.2.2.1
    injection e with e _
    (first | lia | omega)
section
variable {P : Pg} {σ σ' : St} {k m kp : Nat} {S : Sym} {Q : EQ}
theorem named_S (T : Tab2 P) {x : Str} (hx : x ∈ AL) (hf : x ∉ fixedT) (h : W2 σ k kp S) (q : ∀ S' σ' b, S.le S' → W2 σ' k kp S' → Fr (MM k kp) σ σ' → NmOk S' b → Q b.tm.pv σ') : wpCall P (m + 3) 404 [.obj kp, .obj k, .str x] σ Q := by
  have T' : TabP P := T.toTabP
  have hbig2 : (2 : Nat) ≤ big := by decide
  have hbig3 : (3 : Nat) ≤ big := by decide
  refine enter T.f404 rfl ?_
  unfold b_404
  refine r_seq (r_assign (r_callP rfl ?_))
  refine chooseW T h (by (first | lia | omega)) fun r σ₁ r0 r1 h1 F1 => ?_
  have ei := h1.s.i
  obtain ⟨n, rfl⟩ : ∃ n : Nat, r = n := ⟨r.toNat, by (first | lia | omega)⟩
  by_cases hz : (n : Int) = 0
  · (refine a_asg (t_var (a_nx (r_seqN (r_seq (r_site (r_te (r_primP rfl (p_eq rfl (r_truB ?_))))))))); refine a_siteT ?wa ?_; (case wa => (simp only [decide_eq_true_eq, decide_eq_false_iff_not, Bool.not_eq_true, Bool.not_eq_true', Bool.not_eq_false, Bool.not_eq_false', decide_not, Bool.not_not, Bool.and_false, Bool.false_and, Bool.or_false, Bool.false_or, Bool.true_and, Bool.and_true, Bool.false_eq_true, Bool.and_eq_true, Bool.or_eq_true, not_true_eq_false, not_false_eq_true]; assumption)); refine r_seq (r_ret (r_tup (r_econs (r_str (a_cons1 (r_econs (r_meth (r_var rfl ?_)))))))); refine' r_methK ?wa ?wb ?wc ?_; (case wa => assumption); (case wb => exact TabP.m8 (by assumption)); (case wc => rfl); refine r_pures rfl (a_meth ?_))
    refine atomW T h1 hx fun a S₂ σ₂ hle2 e2 h2 F2 => ?_
    (refine a_cons1 (r_pures rfl (a_cons2 (a_cons2 ?_))); refine a_tup ?wa ?_; (case wa => assumption); refine a_ret (r_seqR (r_seqR (r_retR ?_))))
    have hb := h2.o.bt
    have := (List.getElem?_eq_some_iff.mp e2).1
    exact q S₂ σ₂ (.atom a) hle2 h2 (F1.trans F2) (nmOk_atom (text_ge h2.z e2 hf) (by (first | lia | omega)))
  · have hR : rangeOf [.int (n : Int)] (rangeL 0 (n : Int) 1) := up_range n (by (first | lia | omega))
    (refine a_asg (t_var (a_nx (r_seqN (r_seq (r_site (r_te (r_primP rfl (p_eq rfl (r_truB ?_))))))))); refine a_siteF ?wa ?_; (case wa => (simp only [decide_eq_true_eq, decide_eq_false_iff_not, Bool.not_eq_true, Bool.not_eq_true', Bool.not_eq_false, Bool.not_eq_false', decide_not, Bool.not_not, Bool.and_false, Bool.false_and, Bool.or_false, Bool.false_or, Bool.true_and, Bool.and_true, Bool.false_eq_true, Bool.and_eq_true, Bool.or_eq_true, not_true_eq_false, not_false_eq_true]; assumption)); refine r_skip (r_seqN (r_seq (r_ret (r_tup (r_econs (r_str (a_cons1 (r_econs (r_meth ?_))))))))); refine r_var rfl ?_; refine' r_methK ?wa ?wb ?wc ?_; (case wa => assumption); (case wb => exact TabP.m11 (by assumption)); (case wc => rfl); refine r_pures rfl (a_meth ?_))
    refine funcW T h1 hx (by (first | lia | omega)) fun a i S₂ σ₂ hle2 e2 e3 h2 F2 => ?_
    (refine a_cons1 (r_econs (r_prim1 (r_comp (i_range (r_pures rfl ?_))))); refine' i_rangeK ?wa ?_; (case wa => with_reducible assumption))
    refine leaves_S T (by decide) (by decide) rfl rfl (by (first | lia | omega)) h2 fun S₃ σ₃ its hle3 h3 F3 hl hit => ?_
    (refine a_p1 ?_; refine' p_tupL ?wa ?_; (case wa => exact get_new); refine a_cons1 (r_pures rfl (a_cons2 (a_cons2 (a_cons2 ?_)))); refine a_tup ?wa ?_; (case wa => assumption); refine a_ret (r_seqR (r_retR ?_)))
    have h29 := text_ge h2.z e2 hf
    have e3' := le_fun hle3 e3
    rw [← hl] at e3'
    refine cast_q (q S₃ _ (.cmp i a its) (hle2.trans hle3) (h3.no (Fr.new _)) (((F1.trans F2).trans F3).trans (Fr.new _)) (nmOk_cmp e3' h29 (func_ge h2.z e3 (by (first | lia | omega))) (by (first | lia | omega)) hit)) ?_
    simp only [Bd.tm, Tm.pv]
theorem part_S (T : Tab2 P) (h : W2 σ k kp S) (q : ∀ S' σ' b kw vs, S.le S' → W2 σ' k kp S' → Fr (MM k kp) σ σ' → LfOk S' b → σ.length ≤ kw → σ'[kw]? = some (.list vs) → WtsAt σ' σ.length b.ws vs → Q (.tup [b.tm.pv, .obj kw]) σ') : wpCall P (m + 4) 409 [.obj kp, .obj k] σ Q := by
  have T' : TabP P := T.toTabP
  have hbig0 : (0 : Nat) ≤ big := by decide
  have hbig1 : (1 : Nat) ≤ big := by decide
  have hbig2 : (2 : Nat) ≤ big := by decide
  have hbig3 : (3 : Nat) ≤ big := by decide
  refine enter T.f409 rfl ?_
  unfold b_409
  refine r_seq (r_assign (r_callP rfl ?_))
  refine chooseW T h (by (first | lia | omega)) fun r σ₁ r0 r1 h1 F1 => ?_
  have sz1 := F1.len
  have more : ∀ {Q' : EQ} {x : Str}, x ∈ AL → x ∉ fixedT → (∀ S' σ' b, S.le S' → W2 σ' k kp S' → Fr (MM k kp) σ σ' → NmOk S' b → Q' b.tm.pv σ') → wpCall P (m + 3) 404 [.obj kp, .obj k, .str x] σ₁ Q' := fun hx hf q' => named_S T hx hf h1 fun S' σ' b l h' F' hb => q' S' σ' b l h' (F1.trans F') hb
  have fin : ∀ S' σ' b, S.le S' → W2 σ' k kp S' → Fr (MM k kp) σ σ' → NmOk S' b → Q (.tup [b.tm.pv, .obj σ'.length]) (σ' ++ [.list [.tup [.str "more", b.tm.pv]]]) := fun S' σ' b l h' F' hb =>
    q S' _ b _ _ l (h'.no (Fr.new _)) (F'.trans (Fr.new _)) hb.lfk F'.len get_new (by rw [hb.ws]; exact ⟨_, _, rfl, rfl, rfl⟩)
  by_cases e0 : r = 0
  · subst e0
    (refine a_asg (t_var (a_nx (r_seqN (r_seq (r_site (r_te (r_primP rfl (p_lt (r_truB ?_))))))))); refine a_siteT rfl (r_seq (r_assign (r_call (r_econs (r_var rfl (a_cons1 (r_econs (r_var rfl (a_cons1 ?_))))))))); refine r_econs (r_primP rfl ?_); refine' p_idxS ?wa ?wb ?_; (case wa => rfl); (case wb => assumption); refine a_cons1 (r_pures rfl (a_cons2 (a_cons2 (a_cons2 (a_call ?_))))))
    refine more (by decide +kernel) (by decide +kernel) fun S' σ' b l h' F' hb => ?_
    (refine a_asg (t_var (a_nx (r_seqN (r_seq (r_ret (r_tup (r_econs (r_var rfl (a_cons1 ?_))))))))); refine r_econs (r_list (r_pures rfl ?_)); refine a_list ?wa ?_; (case wa => assumption); refine a_cons1 (r_pures rfl (a_cons2 (a_cons2 ?_))); refine a_tup ?wa ?_; (case wa => assumption); refine a_ret (r_seqR (r_seqR (r_retR ?_))))
    exact fin S' σ' b l h' F' hb
  by_cases e1 : r = 1
  · subst e1
    (refine a_asg (t_var (a_nx (r_seqN (r_seq (r_site (r_te (r_primP rfl (p_lt (r_truB ?_))))))))); refine a_siteT rfl (r_seq (r_assign (r_call (r_econs (r_var rfl (a_cons1 (r_econs (r_var rfl (a_cons1 ?_))))))))); refine r_econs (r_primP rfl ?_); refine' p_idxS ?wa ?wb ?_; (case wa => rfl); (case wb => assumption); refine a_cons1 (r_pures rfl (a_cons2 (a_cons2 (a_cons2 (a_call ?_))))))
    refine more (by decide +kernel) (by decide +kernel) fun S' σ' b l h' F' hb => ?_
    (refine a_asg (t_var (a_nx (r_seqN (r_seq (r_ret (r_tup (r_econs (r_var rfl (a_cons1 ?_))))))))); refine r_econs (r_list (r_pures rfl ?_)); refine a_list ?wa ?_; (case wa => assumption); refine a_cons1 (r_pures rfl (a_cons2 (a_cons2 ?_))); refine a_tup ?wa ?_; (case wa => assumption); refine a_ret (r_seqR (r_seqR (r_retR ?_))))
    exact fin S' σ' b l h' F' hb
  by_cases e2 : r = 2
  · (refine a_asg (t_var (a_nx (r_seqN (r_seq (r_site (r_te (r_primP rfl (p_lt (r_truB ?_))))))))); refine a_siteF ?wa ?_; (case wa => (simp only [decide_eq_true_eq, decide_eq_false_iff_not, Bool.not_eq_true, Bool.not_eq_true', Bool.not_eq_false, Bool.not_eq_false', decide_not, Bool.not_not, Bool.and_false, Bool.false_and, Bool.or_false, Bool.false_or, Bool.true_and, Bool.and_true, Bool.false_eq_true, Bool.and_eq_true, Bool.or_eq_true, not_true_eq_false, not_false_eq_true]; (first | lia | omega))); refine r_skip (r_seqN (r_seq (r_site (r_te (r_primP rfl (p_eq rfl (r_truB ?_))))))); refine a_siteT ?wa ?_; (case wa => (simp only [decide_eq_true_eq, decide_eq_false_iff_not, Bool.not_eq_true, Bool.not_eq_true', Bool.not_eq_false, Bool.not_eq_false', decide_not, Bool.not_not, Bool.and_false, Bool.false_and, Bool.or_false, Bool.false_or, Bool.true_and, Bool.and_true, Bool.false_eq_true, Bool.and_eq_true, Bool.or_eq_true, not_true_eq_false, not_false_eq_true]; assumption)); refine r_seq (r_assign (r_comp (i_range (r_econs (r_callP rfl ?_))))))
    refine chooseW T h1 (by (first | lia | omega)) fun r σ₂ r0 r1 h2 F2 => ?_
    obtain ⟨n, rfl⟩ : ∃ n : Nat, r = n := ⟨r.toNat, by (first | lia | omega)⟩
    have hR : rangeOf [.int (n : Int)] (rangeL 0 (n : Int) 1) := up_range n (by (first | lia | omega))
    (refine a_cons1 (r_pures rfl (a_cons2 ?_)); refine' i_rangeK ?wa ?_; (case wa => with_reducible assumption))
    refine leaves_S T (by decide) (by decide) rfl rfl (by (first | lia | omega)) h2 fun S₃ σ₃ its hle3 h3 F3 hl hit => ?_
    refine a_asg (t_var (a_nx (r_seqN (r_seq (r_ret (r_tup (r_econs (r_callP rfl ?_))))))))
    refine law_list_S (m := m + 2) (e := .a 0) T get_new fun σ₄ F4 => ?_
    have sz3 := F3.len
    have sz2 := F2.len
    have F5 : Fr (MM k kp) σ σ₄ := ((F1.trans F2).trans F3).trans (fr_no ((Fr.new _).trans F4))
    have e4 := F4.at' _ _ get_new id
    (refine a_cons1 (r_econs (r_list (r_pures rfl ?_))); refine a_list ?wa ?_; (case wa => assumption); refine a_cons1 (r_pures rfl (a_cons2 (a_cons2 ?_))); refine a_tup ?wa ?_; (case wa => assumption); refine a_ret (r_seqR (r_seqR (r_retR ?_))))
    have hw : ∀ b : Bd, b.ws = [.text its] → WtsAt (σ₄ ++ [.list [.tup [.str "text", .obj σ₃.length]]]) σ.length b.ws [.tup [.str "text", .obj σ₃.length]] := fun b hb => by
      rw [hb]; exact ⟨_, _, rfl, ⟨_, by (first | lia | omega), rfl, get_app e4⟩, rfl⟩
    have h5 := (h3.no ((Fr.new (.list (Tm.pvs its))).trans F4)).no (Fr.new (.list [.tup [.str "text", .obj σ₃.length]]))
    cases its with
    | nil => exact q S₃ _ .nil _ _ hle3 h5 (F5.trans (Fr.new _)) ⟨trivial, trivial, rfl, by simp [Bd.tm, Tm.size], by simp [Bd.tm, Tm.dep]⟩ F5.len get_new (hw _ rfl)
    | cons t r =>
      refine q S₃ _ (.lst (t :: r)) _ _ hle3 h5 (F5.trans (Fr.new _)) ⟨trivial, ⟨by (first | lia | omega), t, r, rfl⟩, rfl, ?_, ?_⟩ F5.len get_new (hw _ rfl)
      · simp only [Bd.tm]; rw [listT_size, hit.1, Tm.size]; (first | lia | omega)
      · have := listT_dep (.a 0) (t :: r) hit.2
        simp only [Bd.tm]
        simp only [Tm.dep] at this
        (first | lia | omega)
  by_cases e3 : r = 3
  · (refine a_asg (t_var (a_nx (r_seqN (r_seq (r_site (r_te (r_primP rfl (p_lt (r_truB ?_))))))))); refine a_siteF ?wa ?_; (case wa => (simp only [decide_eq_true_eq, decide_eq_false_iff_not, Bool.not_eq_true, Bool.not_eq_true', Bool.not_eq_false, Bool.not_eq_false', decide_not, Bool.not_not, Bool.and_false, Bool.false_and, Bool.or_false, Bool.false_or, Bool.true_and, Bool.and_true, Bool.false_eq_true, Bool.and_eq_true, Bool.or_eq_true, not_true_eq_false, not_false_eq_true]; (first | lia | omega))); refine r_skip (r_seqN (r_seq (r_site (r_te (r_primP rfl (p_eq rfl (r_truB ?_))))))); refine a_siteF ?wa ?_; (case wa => (simp only [decide_eq_true_eq, decide_eq_false_iff_not, Bool.not_eq_true, Bool.not_eq_true', Bool.not_eq_false, Bool.not_eq_false', decide_not, Bool.not_not, Bool.and_false, Bool.false_and, Bool.or_false, Bool.false_or, Bool.true_and, Bool.and_true, Bool.false_eq_true, Bool.and_eq_true, Bool.or_eq_true, not_true_eq_false, not_false_eq_true]; assumption)); refine r_skip (r_seqN (r_seq (r_site (r_te (r_primP rfl (p_eq rfl (r_truB ?_))))))); refine a_siteT ?wa ?_; (case wa => (simp only [decide_eq_true_eq, decide_eq_false_iff_not, Bool.not_eq_true, Bool.not_eq_true', Bool.not_eq_false, Bool.not_eq_false', decide_not, Bool.not_not, Bool.and_false, Bool.false_and, Bool.or_false, Bool.false_or, Bool.true_and, Bool.and_true, Bool.false_eq_true, Bool.and_eq_true, Bool.or_eq_true, not_true_eq_false, not_false_eq_true]; assumption)); refine r_seq (r_ret (r_tup (r_econs (r_tupP rfl (a_cons1 (r_econs (r_list (r_econs (r_tupP rfl ?_))))))))); refine a_cons1 (r_econs (r_tup (r_econs (r_str (a_cons1 (r_econs (r_list (r_pures rfl ?_)))))))); refine a_list ?wa ?_; (case wa => assumption); refine a_cons1 (r_pures rfl (a_cons2 (a_cons2 ?_))); refine a_tup ?wa ?_; (case wa => assumption); refine a_cons1 (r_pures rfl (a_cons2 (a_cons2 ?_))); refine a_list ?wa ?_; (case wa => assumption); refine a_cons1 (r_pures rfl (a_cons2 (a_cons2 ?_))); refine a_tup ?wa ?_; (case wa => assumption); refine a_ret (r_seqR (r_seqR (r_retR ?_))))
    refine q S _ .cut _ _ S.le_refl ((h1.no (Fr.new _)).no (Fr.new _)) (F1.trans ((Fr.new _).trans (Fr.new _))) ⟨trivial, trivial, rfl, by simp [Bd.tm, Tm.size], by simp [Bd.tm, Tm.dep]⟩ (by simp; (first | lia | omega)) get_new ⟨_, _, rfl, rfl, _, _, rfl, ⟨_, ?_, rfl, get_app get_new⟩, rfl⟩
    (first | lia | omega)
  by_cases e4 : r = 4
  · (refine a_asg (t_var (a_nx (r_seqN (r_seq (r_site (r_te (r_primP rfl (p_lt (r_truB ?_))))))))); refine a_siteF ?wa ?_; (case wa => (simp only [decide_eq_true_eq, decide_eq_false_iff_not, Bool.not_eq_true, Bool.not_eq_true', Bool.not_eq_false, Bool.not_eq_false', decide_not, Bool.not_not, Bool.and_false, Bool.false_and, Bool.or_false, Bool.false_or, Bool.true_and, Bool.and_true, Bool.false_eq_true, Bool.and_eq_true, Bool.or_eq_true, not_true_eq_false, not_false_eq_true]; (first | lia | omega))); refine r_skip (r_seqN (r_seq (r_site (r_te (r_primP rfl (p_eq rfl (r_truB ?_))))))); refine a_siteF ?wa ?_; (case wa => (simp only [decide_eq_true_eq, decide_eq_false_iff_not, Bool.not_eq_true, Bool.not_eq_true', Bool.not_eq_false, Bool.not_eq_false', decide_not, Bool.not_not, Bool.and_false, Bool.false_and, Bool.or_false, Bool.false_or, Bool.true_and, Bool.and_true, Bool.false_eq_true, Bool.and_eq_true, Bool.or_eq_true, not_true_eq_false, not_false_eq_true]; assumption)); refine r_skip (r_seqN (r_seq (r_site (r_te (r_primP rfl (p_eq rfl (r_truB ?_))))))); refine a_siteF ?wa ?_; (case wa => (simp only [decide_eq_true_eq, decide_eq_false_iff_not, Bool.not_eq_true, Bool.not_eq_true', Bool.not_eq_false, Bool.not_eq_false', decide_not, Bool.not_not, Bool.and_false, Bool.false_and, Bool.or_false, Bool.false_or, Bool.true_and, Bool.and_true, Bool.false_eq_true, Bool.and_eq_true, Bool.or_eq_true, not_true_eq_false, not_false_eq_true]; assumption)); refine r_skip (r_seqN (r_seq (r_site (r_te (r_primP rfl (p_eq rfl (r_truB ?_))))))); refine a_siteT ?wa ?_; (case wa => (simp only [decide_eq_true_eq, decide_eq_false_iff_not, Bool.not_eq_true, Bool.not_eq_true', Bool.not_eq_false, Bool.not_eq_false', decide_not, Bool.not_not, Bool.and_false, Bool.false_and, Bool.or_false, Bool.false_or, Bool.true_and, Bool.and_true, Bool.false_eq_true, Bool.and_eq_true, Bool.or_eq_true, not_true_eq_false, not_false_eq_true]; assumption)); refine r_seq (r_assign (r_callP rfl ?_)))
    refine more (by decide +kernel) (by decide +kernel) fun S₂ σ₂ b l h2 F2 hb => ?_
    have sz2 := F2.len
    (refine a_asg (t_var (a_nx (r_seqN (r_seq (r_ret (r_tup (r_econs (r_tupP rfl (a_cons1 ?_))))))))); refine r_econs (r_list (r_econs (r_tupP rfl (a_cons1 (r_econs (r_tup (r_econs (r_str (a_cons1 ?_))))))))); refine r_econs (r_list (r_pures rfl ?_)); refine a_list ?wa ?_; (case wa => assumption); refine a_cons1 (r_pures rfl (a_cons2 (a_cons2 ?_))); refine a_tup ?wa ?_; (case wa => assumption); refine a_cons1 (r_pures rfl (a_cons2 (a_cons2 ?_))); refine a_list ?wa ?_; (case wa => assumption); refine a_cons1 (r_pures rfl (a_cons2 (a_cons2 ?_))); refine a_tup ?wa ?_; (case wa => assumption); refine a_ret (r_seqR (r_seqR (r_retR ?_))))
    refine q S₂ _ (.curly b.tm) _ _ l ((h2.no (Fr.new _)).no (Fr.new _)) (F2.trans ((Fr.new _).trans (Fr.new _))) hb.curly (by simp; (first | lia | omega)) get_new ⟨_, _, rfl, rfl, _, _, rfl, ⟨_, ?_, rfl, get_app get_new⟩, rfl⟩
    (first | lia | omega)
  (refine a_asg (t_var (a_nx (r_seqN (r_seq (r_site (r_te (r_primP rfl (p_lt (r_truB ?_))))))))); refine a_siteF ?wa ?_; (case wa => (simp only [decide_eq_true_eq, decide_eq_false_iff_not, Bool.not_eq_true, Bool.not_eq_true', Bool.not_eq_false, Bool.not_eq_false', decide_not, Bool.not_not, Bool.and_false, Bool.false_and, Bool.or_false, Bool.false_or, Bool.true_and, Bool.and_true, Bool.false_eq_true, Bool.and_eq_true, Bool.or_eq_true, not_true_eq_false, not_false_eq_true]; (first | lia | omega))); refine r_skip (r_seqN (r_seq (r_site (r_te (r_primP rfl (p_eq rfl (r_truB ?_))))))); refine a_siteF ?wa ?_; (case wa => (simp only [decide_eq_true_eq, decide_eq_false_iff_not, Bool.not_eq_true, Bool.not_eq_true', Bool.not_eq_false, Bool.not_eq_false', decide_not, Bool.not_not, Bool.and_false, Bool.false_and, Bool.or_false, Bool.false_or, Bool.true_and, Bool.and_true, Bool.false_eq_true, Bool.and_eq_true, Bool.or_eq_true, not_true_eq_false, not_false_eq_true]; assumption)); refine r_skip (r_seqN (r_seq (r_site (r_te (r_primP rfl (p_eq rfl (r_truB ?_))))))); refine a_siteF ?wa ?_; (case wa => (simp only [decide_eq_true_eq, decide_eq_false_iff_not, Bool.not_eq_true, Bool.not_eq_true', Bool.not_eq_false, Bool.not_eq_false', decide_not, Bool.not_not, Bool.and_false, Bool.false_and, Bool.or_false, Bool.false_or, Bool.true_and, Bool.and_true, Bool.false_eq_true, Bool.and_eq_true, Bool.or_eq_true, not_true_eq_false, not_false_eq_true]; assumption)); refine r_skip (r_seqN (r_seq (r_site (r_te (r_primP rfl (p_eq rfl (r_truB ?_))))))); refine a_siteF ?wa ?_; (case wa => (simp only [decide_eq_true_eq, decide_eq_false_iff_not, Bool.not_eq_true, Bool.not_eq_true', Bool.not_eq_false, Bool.not_eq_false', decide_not, Bool.not_not, Bool.and_false, Bool.false_and, Bool.or_false, Bool.false_or, Bool.true_and, Bool.and_true, Bool.false_eq_true, Bool.and_eq_true, Bool.or_eq_true, not_true_eq_false, not_false_eq_true]; assumption)); refine r_skip (r_seqN (r_seq (r_assign (r_tup (r_econs (r_str (a_cons1 (r_econs (r_callP rfl ?_))))))))))
  refine chooseW T h1 (by (first | lia | omega)) fun r σ₂ r0 r1 h2 F2 => ?_
  (refine a_cons1 (r_pures rfl (a_cons2 (a_cons2 ?_))); refine a_tup ?wa ?_; (case wa => assumption); refine a_asg (t_var (a_nx (r_seqN (r_seq (r_ret (r_tup (r_econs (r_var rfl (a_cons1 ?_))))))))); refine r_econs (r_list (r_pures rfl ?_)); refine a_list ?wa ?_; (case wa => assumption); refine a_cons1 (r_pures rfl (a_cons2 (a_cons2 ?_))); refine a_tup ?wa ?_; (case wa => assumption); refine a_ret (r_seqR (r_retR ?_)))
  exact q S _ (.var r) _ _ S.le_refl (h2.no (Fr.new _)) ((F1.trans F2).trans (Fr.new _)) ⟨trivial, trivial, rfl, by simp [Bd.tm, Tm.size], by simp [Bd.tm, Tm.dep]⟩ (F1.trans F2).len get_new ⟨_, _, rfl, rfl, rfl⟩
end
noncomputable def sqB : List Bd → Bd
  | [] => .nil
  | [b] => b
  | b :: c :: r => .seq 1 b (sqB (c :: r))
theorem sqB_cons (b : Bd) {r : List Bd} (h : r ≠ []) : sqB (b :: r) = .seq 1 b (sqB r) := by
  cases r with
  | nil => exact absurd rfl h
  | cons c r => rfl
theorem pyIdx_last {α : Type} (l : List α) (x : α) : pyIdx (l ++ [x]) (-1) = some x := by
  unfold pyIdx
  rw [if_neg (by decide), if_pos (by simp; (first | lia | omega))]
  have : (-1 + (((l ++ [x]).length : Nat) : Int)).toNat = l.length := by simp; (first | lia | omega)
  rw [this]; simp
theorem pyIdx_last2 {α : Type} (l : List α) (x y : α) : pyIdx (l ++ [x, y]) (-2) = some x := by
  unfold pyIdx
  rw [if_neg (by decide), if_pos (by simp; (first | lia | omega))]
  have : (-2 + (((l ++ [x, y]).length : Nat) : Int)).toNat = l.length := by simp; (first | lia | omega)
  rw [this]; simp
theorem pyIdx_last1 {α : Type} (l : List α) (x y : α) : pyIdx (l ++ [x, y]) (-1) = some y := by
  have := pyIdx_last (l ++ [x]) y
  simpa using this
noncomputable def bpv (b : Bd) : PV := b.tm.pv
noncomputable def gls (S : Sym) (φ : Nat → Int) : Bd → Tm → Tm → Nat → List Tm
  | .cut, h, t, _ => [.a 15, .s 10 [h, t]]
  | .curly g, h, t, _ => [g, .s 10 [h, t]]
  | .seq _ l r, h, t, c => gls S φ l h (.v (φ c)) (c + 1) ++ gls S φ r (.v (φ c)) t (c + 1 + l.nv)
  | b, h, t, c => [G S φ b h t c]
noncomputable def isTree : Bd → Prop
  | .seq f l r => f = 1 ∧ isTree l ∧ isTree r
  | b => isLeaf b
noncomputable def GoS (P : Pg) (m : Nat) (t : Tm) (gs : List Tm) : Prop := ∀ (σ : St) (Q : EQ), (∀ σ' ko, Fr (fun _ => False) σ σ' → σ.length ≤ ko → σ'[ko]? = some (.list (Tm.pvs gs)) → Q (.obj ko) σ') → wpCall P m 423 [t.pv] σ Q
section
variable {P : Pg} {σ σ' : St} {k m kp : Nat} {S : Sym} {Q : EQ}
theorem side_S (T : Tab2 P) {bs : List Bd} (hne : bs ≠ []) (h : σ[k]? = some (.list (bs.map bpv))) (q : ∀ σ', Fr (fun _ => False) σ σ' → Q (sqB bs).tm.pv σ') : wpCall P (m + 1) 416 [.obj k] σ Q := by
  have hbig2 : (2 : Nat) ≤ big := by decide
  have hbig3 : (3 : Nat) ≤ big := by decide
  rcases List.eq_nil_or_concat bs with rfl | ⟨a, z, rfl⟩
  · exact absurd rfl hne
  rw [List.concat_eq_append] at *
  rw [List.map_append] at h
  have hi : pyIdx (a.map bpv ++ [z].map bpv) (-1) = some z.tm.pv := pyIdx_last _ _
  have hs : sliceP (a.map bpv ++ [z].map bpv) (some (-2)) none (some (-1)) = (a.map bpv).reverse := by
    rw [slice_last _ (by simp)]; simp
  refine enter T.f416 rfl ?_
  unfold b_416
  (refine r_seq (r_assign (r_primP rfl ?_)); refine' p_idxL ?wa ?wb ?_; (case wa => assumption); (case wb => with_reducible assumption); refine a_asg (t_var (a_nx (r_seqN (r_seq (r_for (i_val (r_primP rfl ?_))))))); refine' p_slice ?wa ?wb ?wc ?wd ?we ?_; (case wa => rfl); (case wb => rfl); (case wc => rfl); (case wd => assumption); (case we => decide); refine' i_valL ?wa ?_; (case wa => exact get_new); refine a_for ?_)
  rw [hs]
  refine for_rule (fun i lm σ' => σ' = σ ++ [.list (a.map bpv).reverse] ∧ ∃ c d, a = c ++ d ∧ d.length = i ∧ lm 1 = some (sqB (d ++ [z])).tm.pv) ⟨rfl, a, [], by simp, rfl, rfl⟩ (fun i lm σ' h' => h'.1 ▸ get_new) ?_ ?_
  · rintro i y lm σ' K hy ⟨rfl, c, d, rfl, rfl, h2⟩ hK
    obtain ⟨a', t, rfl, rfl⟩ := rev_at hy
    (refine r_seq (r_assign (r_tup (r_econs (r_str (a_cons1 (r_econs (r_int (a_cons1 (r_econs ?_))))))))); refine r_tup (r_econs (r_var rfl (a_cons1 (r_econs ?_)))); refine' r_var ?wa ?_; (case wa => assumption); refine a_cons1 (r_pures rfl (a_cons2 (a_cons2 ?_))); refine a_tup ?wa ?_; (case wa => assumption); refine a_cons1 (r_pures rfl (a_cons2 (a_cons2 (a_cons2 ?_)))); refine a_tup ?wa ?_; (case wa => assumption); refine a_asg (t_var (a_nx (r_seqN (r_skip (r_forN ?_))))))
    exact hK _ _ ⟨rfl, a', t :: d, by simp, by simp, by rw [List.cons_append, sqB_cons t (by simp)]; rfl⟩
  · rintro lm σ' ⟨rfl, c, d, rfl, hl, h2⟩
    have : c = [] := by
      simp at hl
      cases c with
      | nil => rfl
      | cons _ _ => simp at hl
    subst this
    (refine r_seqN (r_seq (r_ret ?_)); refine' r_var ?wa ?_; (case wa => assumption); refine a_ret (r_seqR (r_retR ?_)))
    exact q _ (Fr.new _)
theorem go_one (T : Tab2 P) {t : Tm} (h : ∀ l, t ≠ .s 1 l) : GoS P (m + 1) t [t] := by
  intro σ Q q
  have hbig1 : (1 : Nat) ≤ big := by decide
  have q := q _ _ (Fr.new _) (Nat.le_refl _) get_new
  refine enter T.f423 rfl ?_
  unfold b_423
  cases t with
  | v n => simp only [Tm.pv, Tm.pvs] at q ⊢; (refine r_seq (r_site (r_tand (r_te (r_primP rfl (p_eq rfl (r_truB ?_)))))); refine a_andF ?wa ?_; (case wa => decide); refine a_siteF ?wa ?_; (case wa => decide); refine r_skip (r_seqN (r_seq (r_ret (r_list (r_pures rfl ?_))))); refine a_list ?wa ?_; (case wa => assumption); refine a_ret (r_seqR (r_retR ?_))); exact q
  | a n => simp only [Tm.pv, Tm.pvs] at q ⊢; (refine r_seq (r_site (r_tand (r_te (r_primP rfl (p_eq rfl (r_truB ?_)))))); refine a_andF ?wa ?_; (case wa => decide); refine a_siteF ?wa ?_; (case wa => decide); refine r_skip (r_seqN (r_seq (r_ret (r_list (r_pures rfl ?_))))); refine a_list ?wa ?_; (case wa => assumption); refine a_ret (r_seqR (r_retR ?_))); exact q
  | i n => simp only [Tm.pv, Tm.pvs] at q ⊢; (refine r_seq (r_site (r_tand (r_te (r_primP rfl (p_eq rfl (r_truB ?_)))))); refine a_andF ?wa ?_; (case wa => decide); refine a_siteF ?wa ?_; (case wa => decide); refine r_skip (r_seqN (r_seq (r_ret (r_list (r_pures rfl ?_))))); refine a_list ?wa ?_; (case wa => assumption); refine a_ret (r_seqR (r_retR ?_))); exact q
  | s f l =>
    have hf : ¬ f = 1 := fun e => h l (by rw [e])
    simp only [Tm.pv, Tm.pvs] at q ⊢
    (refine r_seq (r_site (r_tand (r_te (r_primP rfl (p_eq rfl (r_truB (a_andT rfl (r_te (r_primP rfl ?_))))))))); refine p_eq rfl (r_truB ?_); refine a_siteF ?wa ?_; (case wa => (simp only [decide_eq_true_eq, decide_eq_false_iff_not, Bool.not_eq_true, Bool.not_eq_true', Bool.not_eq_false, Bool.not_eq_false', decide_not, Bool.not_not, Bool.and_false, Bool.false_and, Bool.or_false, Bool.false_or, Bool.true_and, Bool.and_true, Bool.false_eq_true, Bool.and_eq_true, Bool.or_eq_true, not_true_eq_false, not_false_eq_true]; assumption)); refine r_skip (r_seqN (r_seq (r_ret (r_list (r_pures rfl ?_))))); refine a_list ?wa ?_; (case wa => assumption); refine a_ret (r_seqR (r_retR ?_)))
    exact q
theorem go_two (T : Tab2 P) {x y : Tm} {gx gy : List Tm} (hx : GoS P m x gx) (hy : GoS P m y gy) (hl : gx.length + gy.length ≤ big) : GoS P (m + 1) (.s 1 [x, y]) (gx ++ gy) := by
  intro σ Q q
  refine enter T.f423 rfl ?_
  unfold b_423
  simp only [Tm.pv, Tm.pvs]
  (refine r_seq (r_site (r_tand (r_te (r_primP rfl (p_eq rfl (r_truB (a_andT rfl (r_te (r_primP rfl ?_))))))))); refine p_eq rfl (r_truB (a_siteT rfl (r_seq (r_ret (r_prim2 (r_callP rfl ?_)))))))
  refine hx _ _ fun σ₁ k1 F1 h1 e1 => ?_
  refine a_p2 (r_callP rfl ?_)
  refine hy _ _ fun σ₂ k2 F2 h2 e2 => ?_
  have e1' := F2.at' _ _ e1 id
  have hl' : (Tm.pvs gx).length + (Tm.pvs gy).length ≤ big := by rw [Tm.pvs_len, Tm.pvs_len]; exact hl
  (refine a_p2b ?_; refine' p_addL ?wa ?wb ?wc ?_; (case wa => assumption); (case wb => assumption); (case wc => assumption); refine a_ret (r_seqR (r_seqR (r_retR ?_))))
  refine q _ _ ((F1.trans F2).trans (Fr.new _)) (Nat.le_trans F1.len F2.len) ?_
  rw [Tm.pvs_app]; exact get_new
theorem fn_ge (ok : Sok S) (z : S0.le S) {a r : Int} (h : (a, r) ∈ S.funs) (ha : 29 ≤ a) : 32 ≤ S.fn (a, r) := by
  obtain ⟨i, hi, e⟩ := List.mem_iff_getElem.mp h
  have e' : S.funs[i]? = some (a, r) := by rw [List.getElem?_eq_getElem hi, e]
  rw [Sym.fn_eq ok e']
  have := func_ge z e' ha
  (first | lia | omega)
theorem tn_ge (ok : Sok S) (z : S0.le S) {x : Str} (h : x ∈ S.texts) (hx : x ∉ fixedT) : 29 ≤ S.tn x := by
  obtain ⟨i, hi, e⟩ := List.mem_iff_getElem.mp h
  have e' : S.texts[i]? = some x := by rw [List.getElem?_eq_getElem hi, e]
  rw [Sym.tn_eq ok e']
  have := text_ge z e' hx
  (first | lia | omega)
theorem s_ne {f : Int} {l : List Tm} (h : 32 ≤ f) : ∀ l', Tm.s f l ≠ .s 1 l' := fun l' e => by
  injection e with e _; (first | lia | omega)
theorem gls_len {φ : Nat → Int} : ∀ (b : Bd) {x y : Tm} {c : Nat}, (gls S φ b x y c).length ≤ 2 * b.tm.size
  | .lst _, _, _, _ => by have := Tm.size_pos (Bd.lst ‹_›).tm; simp only [gls, List.length_cons, List.length_nil]; (first | lia | omega)
  | .nil, _, _, _ => by simp [gls, Bd.tm, Tm.size]
  | .cut, _, _, _ => by simp [gls, Bd.tm, Tm.size]
  | .atom _, _, _, _ => by simp [gls, Bd.tm, Tm.size]
  | .cmp _ _ _, _, _, _ => by simp [gls, Bd.tm, Tm.size]; (first | lia | omega)
  | .curly _, _, _, _ => by simp [gls, Bd.tm, Tm.size]; (first | lia | omega)
  | .var _, _, _, _ => by simp [gls, Bd.tm, Tm.size]
  | .seq _ l r, _, _, _ => by
    have h1 := @gls_len φ l
    have h2 := @gls_len φ r
    simp only [gls, Bd.tm, Tm.size, Tm.sizeL, List.length_append]
    have h1 := @h1
    refine Nat.le_trans (Nat.add_le_add h1 h2) ?_
    (first | lia | omega)
theorem goals_S (T : Tab2 P) {φ : Nat → Int} (ok : Sok S) (z : S0.le S) : ∀ (b : Bd), isTree b → b.has S → b.tm.size ≤ 800 → ∀ (m : Nat), b.dp + 2 ≤ m → ∀ (x y : Tm) (c : Nat), GoS P m (G S φ b x y c) (gls S φ b x y c) := by
  intro b
  induction b with
  | seq f l r il ir =>
    intro ht hh hs m hm x y c
    obtain ⟨rfl, tl, tr⟩ := ht
    obtain ⟨m, rfl⟩ : ∃ m', m = m' + 1 := ⟨m - 1, by (first | lia | omega)⟩
    simp only [Bd.dp] at hm
    simp only [Bd.tm, Tm.size, Tm.sizeL] at hs
    have l1 := @gls_len S φ l x (.v (φ c)) (c + 1)
    have l2 := @gls_len S φ r (.v (φ c)) y (c + 1 + l.nv)
    exact go_two T (il tl hh.1 (by (first | lia | omega)) m (by (first | lia | omega)) _ _ _) (ir tr hh.2 (by (first | lia | omega)) m (by (first | lia | omega)) _ _ _) (by unfold big; (first | lia | omega))
  | lst its => intro ht hh hs m hm x y c; obtain ⟨m, rfl⟩ : ∃ m', m = m' + 1 := ⟨m - 1, by (first | lia | omega)⟩; exact go_one T fun l e => by simp only [G] at e; injection e with e _; exact absurd e (by decide)
  | nil => intro ht hh hs m hm x y c; obtain ⟨m, rfl⟩ : ∃ m', m = m' + 1 := ⟨m - 1, by (first | lia | omega)⟩; exact go_one T fun l e => by simp only [G] at e; injection e with e _; exact absurd e (by decide)
  | cut =>
    intro ht hh hs m hm x y c
    obtain ⟨m, rfl⟩ : ∃ m', m = m' + 2 := ⟨m - 2, by simp only [Bd.dp] at hm; (first | lia | omega)⟩
    exact go_two (gx := [.a 15]) (gy := [.s 10 [x, y]]) T (go_one T fun l e => nomatch e) (go_one T fun l e => by injection e with e _; exact absurd e (by decide)) (by simp [big])
  | curly g =>
    intro ht hh hs m hm x y c
    obtain ⟨m, rfl⟩ : ∃ m', m = m' + 2 := ⟨m - 2, by simp only [Bd.dp] at hm; (first | lia | omega)⟩
    exact go_two (gx := [g]) (gy := [.s 10 [x, y]]) T (go_one T ht) (go_one T fun l e => by injection e with e _; exact absurd e (by decide)) (by simp [big])
  | atom n =>
    intro ht hh hs m hm x y c; obtain ⟨m, rfl⟩ : ∃ m', m = m' + 1 := ⟨m - 1, by (first | lia | omega)⟩
    have h29 : (29 : Nat) ≤ n := ht
    exact go_one T (s_ne (fn_ge ok z hh (by (first | lia | omega))))
  | cmp f a args =>
    intro ht hh hs m hm x y c; obtain ⟨m, rfl⟩ : ∃ m', m = m' + 1 := ⟨m - 1, by (first | lia | omega)⟩
    have h29 : (29 : Nat) ≤ a := ht
    exact go_one T (s_ne (fn_ge ok z hh (by (first | lia | omega))))
  | var n =>
    intro ht hh hs m hm x y c; obtain ⟨m, rfl⟩ : ∃ m', m = m' + 1 := ⟨m - 1, by (first | lia | omega)⟩
    exact go_one T (s_ne (fn_ge ok z hh.2 (tn_ge ok z hh.1 (by decide +kernel))))
end
theorem Sym.addA_mem {S : Sym} {x : Str} (h : x ∈ S.texts) : S.addA x = S := by unfold Sym.addA; rw [if_pos h]
theorem Sym.addF_mem {S : Sym} {a r : Int} (h : (a, r) ∈ S.funs) : S.addF a r = S := by unfold Sym.addF; rw [if_pos h]
noncomputable def dueT (S : Sym) (w : Wt) (h t : Tm) : Tm := match w with
  | .more b => G S (fun _ => 0) b h t 0
  | .text l => .s 10 [h, listT l t]
  | .plain g => g
  | .phr n => .s (S.fn (S.tn "phrase", 3)) [.v n, h, t]
noncomputable def Wt.has (S : Sym) : Wt → Prop
  | .more b => isHead b ∧ b.ok S ∧ b.has S
  | .phr _ => ("phrase" : Str) ∈ S.texts ∧ (S.tn "phrase", 3) ∈ S.funs
  | .text _ => True
  | .plain _ => True
mutual
theorem vars_len : ∀ p : Tm, p.vars.length ≤ p.size
  | .v _ => by simp [Tm.vars, Tm.size]
  | .a _ => by simp [Tm.vars, Tm.size]
  | .i _ => by simp [Tm.vars, Tm.size]
  | .s _ args => by simp only [Tm.vars, Tm.size]; have := varsL_len args; (first | lia | omega)
theorem varsL_len : ∀ l : List Tm, (Tm.varsL l).length ≤ Tm.sizeL l
  | [] => by simp [Tm.varsL, Tm.sizeL]
  | t :: r => by simp only [Tm.varsL, Tm.sizeL, List.length_append]; have := vars_len t; have := varsL_len r; (first | lia | omega)
end
section
variable {P : Pg} {σ σ' : St} {k m kp : Nat} {S : Sym} {Q : EQ}
theorem numbers_S (T : Tab2 P) : ∀ (N : Nat) (t : Tm), t.size ≤ N → t.size ≤ 1000 → ∀ (σ : St) (Q : EQ), (∀ σ' ko, Fr (fun _ => False) σ σ' → σ.length ≤ ko → σ'[ko]? = some (.list (List.map PV.int t.vars)) → Q (.obj ko) σ') → wpCall P (N + 1) 430 [t.pv] σ Q
  | 0, t, h => fun _ _ _ => by have := t.size_pos; (first | lia | omega)
  | N + 1, t, h => by
    intro hn σ Q q
    have hbig0 : (0 : Nat) ≤ big := by decide
    have hbig1 : (1 : Nat) ≤ big := by decide
    refine enter T.f430 rfl ?_
    unfold b_430
    cases t with
    | v n =>
      simp only [Tm.pv]
      (refine r_seq (r_site (r_te (r_primP rfl (p_eq rfl (r_truB (a_siteT rfl (r_seq (r_ret (r_list ?_))))))))); refine r_pures rfl ?_; refine a_list ?wa ?_; (case wa => assumption); refine a_ret (r_seqR (r_seqR (r_retR ?_))))
      exact q _ _ (Fr.new _) (Nat.le_refl _) get_new
    | a n =>
      simp only [Tm.pv]
      (refine r_seq (r_site (r_te (r_primP rfl (p_eq rfl (r_truB ?_))))); refine a_siteF ?wa ?_; (case wa => decide); refine r_skip (r_seqN (r_seq (r_site (r_te (r_primP rfl (p_ne rfl (r_truB (a_siteT rfl (r_seq ?_))))))))); refine r_ret (r_list (r_pures rfl ?_)); refine a_list ?wa ?_; (case wa => assumption); refine a_ret (r_seqR (r_seqR (r_retR ?_))))
      exact q _ _ (Fr.new _) (Nat.le_refl _) get_new
    | i n =>
      simp only [Tm.pv]
      (refine r_seq (r_site (r_te (r_primP rfl (p_eq rfl (r_truB ?_))))); refine a_siteF ?wa ?_; (case wa => decide); refine r_skip (r_seqN (r_seq (r_site (r_te (r_primP rfl (p_ne rfl (r_truB (a_siteT rfl (r_seq ?_))))))))); refine r_ret (r_list (r_pures rfl ?_)); refine a_list ?wa ?_; (case wa => assumption); refine a_ret (r_seqR (r_seqR (r_retR ?_))))
      exact q _ _ (Fr.new _) (Nat.le_refl _) get_new
    | s f args =>
      simp only [Tm.pv]
      have hsz : (Tm.s f args).size = 1 + Tm.sizeL args := rfl
      (refine r_seq (r_site (r_te (r_primP rfl (p_eq rfl (r_truB ?_))))); refine a_siteF ?wa ?_; (case wa => decide); refine r_skip (r_seqN (r_seq (r_site (r_te (r_primP rfl (p_ne rfl (r_truB ?_))))))); refine a_siteF ?wa ?_; (case wa => decide); refine r_skip (r_seqN (r_seq (r_assign (r_list (r_pures rfl ?_))))); refine a_list ?wa ?_; (case wa => assumption); refine a_asg (t_var (a_nx (r_seqN (r_seq (r_for (i_val (r_pure rfl (i_valT rfl (a_for ?_))))))))))
      refine for_rule (fun i lm τ => ∃ pre suf, args = pre ++ suf ∧ pre.length = i ∧ lm 1 = some (.obj σ.length) ∧ τ[σ.length]? = some (.list (List.map PV.int (Tm.varsL pre))) ∧ Fr (fun _ => False) σ τ)
        ⟨[], args, rfl, rfl, rfl, get_new, Fr.new _⟩ (fun _ _ _ _ => trivial) ?_ ?_
      · rintro i y lm τ K hy ⟨pre, suf, e, rfl, l1, hτ, F⟩ hK
        cases suf with
        | nil =>
          have hi := (List.getElem?_eq_some_iff.mp hy).1
          rw [Tm.pvs_len, e] at hi; simp at hi
        | cons p suf =>
          have hy' : y = p.pv := by rw [Tm.pvs_eq, e] at hy; simpa using hy.symm
          subst hy'
          have hpp : Tm.sizeL args = Tm.sizeL pre + (p.size + Tm.sizeL suf) := by rw [e, Tm.sizeL_app, Tm.sizeL]
          have v1 := varsL_len pre
          have v2 := vars_len p
          (refine r_seq ?_; refine' r_augVar ?wa ?_; (case wa => assumption); refine r_callP rfl ?_)
          refine numbers_S T N p (by (first | lia | omega)) (by (first | lia | omega)) _ _ fun τ' ko F1 hko h1 => ?_
          have h0 := F1.at' _ _ hτ id
          have hl : (List.map PV.int (Tm.varsL pre)).length + (List.map PV.int p.vars).length ≤ big := by rw [List.length_map, List.length_map]; unfold big; (first | lia | omega)
          (refine' r_augL ?wa ?wb ?wc ?_; (case wa => assumption); (case wb => assumption); (case wc => assumption); refine r_seqN (r_skip (r_forN ?_)))
          refine hK _ _ ⟨pre ++ [p], suf, by rw [e]; simp, by simp, rfl, ?_, (F.trans F1).setNew (Nat.le_refl _)⟩
          rw [Tm.varsL_app, Tm.varsL, Tm.varsL, List.append_nil, List.map_append]
          exact get_set_eq h0
      · rintro lm τ ⟨pre, suf, e, hl', l1, hτ, F⟩
        have : suf = [] := by
          rw [Tm.pvs_len, e] at hl'
          cases suf with
          | nil => rfl
          | cons _ _ => simp at hl'
        subst this
        rw [List.append_nil] at e
        (refine r_seqN (r_seq (r_ret ?_)); refine' r_var ?wa ?_; (case wa => assumption); refine a_ret (r_seqR (r_retR ?_)))
        refine q τ _ F (Nat.le_refl _) ?_
        rw [Tm.vars, e]; exact hτ
theorem functorK (T : TabP P) (hS : SymAt σ k S) (ok : Sok S) {a r : Int} (hm : (a, r) ∈ S.funs) (q : ∀ σ', SymAt σ' k S → Fr (symM k) σ σ' → Q (.int (S.fn (a, r))) σ') : wpCall P (m + 1) 102 [.obj k, .int a, .int r] σ Q := by
  refine functorS T hS ok (ok.f _ hm) fun i σ' e s o F => ?_
  rw [Sym.addF_mem hm] at e s
  have := q σ' s F
  rw [Sym.fn_eq ok e] at this
  exact this
theorem funcK (T : TabP P) (hS : SymAt σ k S) (ok : Sok S) {x : Str} {r : Int} (hm : x ∈ S.texts) (hm2 : (S.tn x, r) ∈ S.funs) (q : ∀ σ', SymAt σ' k S → Fr (symM k) σ σ' → Q (.int (S.fn (S.tn x, r))) σ') : wpCall P (m + 2) 109 [.obj k, .str x, .int r] σ Q := by
  refine funcS T hS ok (ok.t _ hm) ⟨(ok.f _ hm2).2.2.1, (ok.f _ hm2).2.2.2⟩ fun a i σ' e1 e s o F => ?_
  rw [Sym.addA_mem hm] at e1 e s
  have ea := Sym.tn_eq ok e1
  rw [← ea, Sym.addF_mem hm2] at e s
  have := q σ' s F
  rw [Sym.fn_eq ok e] at this
  exact this
set_option tactic.hygienic true in
theorem due_S (T : Tab2 P) (hS : SymAt σ k S) (ok : Sok S) {w : Wt} {v : PV} {lo : Nat} {x y : Tm} (hp : ∀ g, w ≠ .plain g) (hw : WtAt σ lo w v) (hh : w.has S) (q : ∀ σ', SymAt σ' k S → Fr (symM k) σ σ' → Q (dueT S w x y).pv σ') : wpCall P (m + 3) 437 [.obj k, v, x.pv, y.pv] σ Q := by
  have T' : TabP P := T.toTabP
  have hbig0 : (0 : Nat) ≤ big := by decide
  have hbig1 : (1 : Nat) ≤ big := by decide
  have hbig2 : (2 : Nat) ≤ big := by decide
  have hbig3 : (3 : Nat) ≤ big := by decide
  have ei := hS.i
  refine enter T.f437 rfl ?_
  unfold b_437
  cases w with
  | plain g => exact absurd rfl (hp g)
  | phr n =>
    have e : v = .tup [.str "phrase", (Tm.v n).pv] := hw
    rw [e]
    (refine r_seq (r_site (r_te (r_primP rfl (p_eq rfl (r_truB ?_))))); refine a_siteF ?wa ?_; (case wa => decide); refine r_skip (r_seqN (r_seq (r_site (r_te (r_primP rfl (p_eq rfl (r_truB (a_siteT rfl (r_seq ?_))))))))); refine r_ret (r_tup (r_econs (r_str (a_cons1 (r_econs (r_meth (r_var rfl ?_))))))); refine' r_methK ?wa ?wb ?wc ?_; (case wa => assumption); (case wb => exact TabP.m11 (by assumption)); (case wc => rfl); refine r_pures rfl (a_meth ?_))
    refine funcK T' hS ok hh.1 hh.2 fun σ₁ s1 F1 => ?_
    (refine a_cons1 (r_pures rfl (a_cons2 (a_cons2 ?_))); refine a_tup ?wa ?_; (case wa => assumption); refine a_ret (r_seqR (r_seqR (r_retR ?_))))
    exact q σ₁ s1 F1
  | text l =>
    obtain ⟨kw, _, e, ek⟩ := hw
    rw [e]
    (refine r_seq (r_site (r_te (r_primP rfl (p_eq rfl (r_truB ?_))))); refine a_siteF ?wa ?_; (case wa => decide); refine r_skip (r_seqN (r_seq (r_site (r_te (r_primP rfl (p_eq rfl (r_truB ?_))))))); refine a_siteF ?wa ?_; (case wa => decide); refine r_skip (r_seqN (r_seq (r_ret (r_tup (r_econs (r_str (a_cons1 (r_econs (r_int ?_))))))))); refine a_cons1 (r_econs (r_tup (r_econs (r_var rfl (a_cons1 (r_econs (r_callP rfl ?_))))))))
    refine law_list_S (m := m + 1) T ek fun σ₁ F1 => ?_
    (refine a_cons1 (r_pures rfl (a_cons2 (a_cons2 ?_))); refine a_tup ?wa ?_; (case wa => assumption); refine a_cons1 (r_pures rfl (a_cons2 (a_cons2 (a_cons2 ?_)))); refine a_tup ?wa ?_; (case wa => assumption); refine a_ret (r_seqR (r_retR ?_)))
    exact q σ₁ (sym_no hS F1) (fr_no F1)
  | more b =>
    have e : v = .tup [.str "more", b.tm.pv] := hw
    rw [e]
    obtain ⟨h1, nm, hb⟩ := hh
    cases b <;> try exact h1.elim
    · rename_i n
      simp only [Bd.tm, Tm.pv]
      have hz : (([] : List PV).length : Int) + 2 = 2 := rfl
      have hl0 : ([] : List PV).length + [x.pv, y.pv].length ≤ big := by show 0 + 2 ≤ big; decide
      (refine r_seq (r_site (r_te (r_primP rfl (p_eq rfl (r_truB (a_siteT rfl (r_seq (r_assign (r_ite ?_))))))))); refine r_te (r_primP rfl (p_eq rfl (r_truB ?_))); refine a_iteF ?wa ?_; (case wa => decide); refine r_tupP rfl (a_asg (t_var (a_nx (r_seqN (r_seq (r_assign (r_ite (r_te (r_primP rfl ?_))))))))); refine p_eq rfl (r_truB ?_); refine a_iteF ?wa ?_; (case wa => decide); refine r_pure rfl (a_asg (t_var (a_nx (r_seqN (r_seq (r_ret (r_tup (r_econs (r_str ?_))))))))); refine a_cons1 (r_econs (r_meth (r_var rfl ?_))); refine' r_methK ?wa ?wb ?wc ?_; (case wa => assumption); (case wb => exact TabP.m10 (by assumption)); (case wc => rfl); refine r_econs (r_var rfl (a_cons1 (r_econs (r_prim2 (r_primP rfl (p_lenT rfl (a_p2 (r_int (a_p2b ?_))))))))); refine p_addI (a_cons1 (r_pures rfl (a_cons2 (a_cons2 (a_meth ?_))))))
      refine functorK (a := (n : Int)) (r := 2) T' hS ok hb fun σ₁ s1 F1 => ?_
      (refine a_cons1 (r_econs (r_primP rfl ?_)); refine' p_addT ?wa ?wb ?wc ?_; (case wa => rfl); (case wb => rfl); (case wc => assumption); refine a_cons1 (r_pures rfl (a_cons2 (a_cons2 (a_cons2 ?_)))); refine a_tup ?wa ?_; (case wa => assumption); refine a_ret (r_seqR (r_seqR (r_retR ?_))))
      exact q σ₁ s1 F1
    · rename_i f a args
      have hl := nm.2.1
      simp only [Bd.tm, Tm.pv]
      have hz : ((Tm.pvs args).length : Int) + 2 = ((args.length + 2 : Nat) : Int) := by rw [Tm.pvs_len]; (first | lia | omega)
      have hl0 : (Tm.pvs args).length + [x.pv, y.pv].length ≤ big := by rw [Tm.pvs_len]; show args.length + 2 ≤ big; unfold big; (first | lia | omega)
      (refine r_seq (r_site (r_te (r_primP rfl (p_eq rfl (r_truB (a_siteT rfl (r_seq (r_assign (r_ite ?_))))))))); refine r_te (r_primP rfl (p_eq rfl (r_truB (a_iteT rfl (r_pure rfl (a_asg (t_var (a_nx (r_seqN ?_))))))))); refine r_seq (r_assign (r_ite (r_te (r_primP rfl (p_eq rfl (r_truB (a_iteT rfl (r_meth (r_var rfl ?_))))))))); refine' r_methK ?wa ?wb ?wc ?_; (case wa => assumption); (case wb => exact TabP.m12 (by assumption)); (case wc => rfl); refine r_pures rfl (a_meth ?_))
      refine name_S T' hS nm.1 ?_
      (refine a_asg (t_var (a_nx (r_seqN (r_seq (r_ret (r_tup (r_econs (r_str (a_cons1 ?_))))))))); refine r_econs (r_meth (r_var rfl ?_)); refine' r_methK ?wa ?wb ?wc ?_; (case wa => assumption); (case wb => exact TabP.m10 (by assumption)); (case wc => rfl); refine r_econs (r_var rfl (a_cons1 (r_econs (r_prim2 (r_primP rfl (p_lenT rfl (a_p2 (r_int (a_p2b ?_))))))))); refine p_addI (a_cons1 (r_pures rfl (a_cons2 (a_cons2 (a_meth ?_))))))
      rw [hz]
      refine functorK (a := (a : Int)) T' hS ok hb fun σ₁ s1 F1 => ?_
      (refine a_cons1 (r_econs (r_primP rfl ?_)); refine' p_addT ?wa ?wb ?wc ?_; (case wa => rfl); (case wb => rfl); (case wc => assumption); refine a_cons1 (r_pures rfl (a_cons2 (a_cons2 (a_cons2 ?_)))); refine a_tup ?wa ?_; (case wa => assumption); refine a_ret (r_seqR (r_seqR (r_retR ?_))))
      refine cast_q (q σ₁ s1 F1) ?_
      simp only [dueT, G, Tm.pv, Tm.pvs_app, Tm.pvs]
set_option tactic.hygienic true in
theorem ends_S (T : Tab2 P) {w : Wt} {v : PV} {lo : Nat} {x y : Tm} (hp : ∀ g, w ≠ .plain g) (hw : WtAt σ lo w v) (hh : w.has S) (q : Q (.tup [x.pv, y.pv]) σ) : wpCall P (m + 1) 444 [(dueT S w x y).pv, v] σ Q := by
  have hbig2 : (2 : Nat) ≤ big := by decide
  refine enter T.f444 rfl ?_
  unfold b_444
  cases w with
  | plain g => exact absurd rfl (hp g)
  | phr n =>
    have e : v = .tup [.str "phrase", (Tm.v n).pv] := hw
    rw [e]
    simp only [dueT, Tm.pv, Tm.pvs] at q ⊢
    (refine r_seq (r_site (r_te (r_primP rfl (p_ne rfl (r_truB (a_siteT rfl (r_seq (r_ret (r_tupP rfl ?_))))))))); refine a_ret (r_seqR (r_seqR (r_retR ?_))))
    exact q
  | more b =>
    have e : v = .tup [.str "more", b.tm.pv] := hw
    rw [e]
    obtain ⟨h1, nm, hb⟩ := hh
    cases b <;> try exact h1.elim
    · rename_i n
      simp only [dueT, G, Tm.pv, Tm.pvs] at q ⊢
      (refine r_seq (r_site (r_te (r_primP rfl (p_ne rfl (r_truB (a_siteT rfl (r_seq (r_ret (r_tupP rfl ?_))))))))); refine a_ret (r_seqR (r_seqR (r_retR ?_))))
      exact q
    · rename_i f a args
      have i1 := pyIdx_last1 (Tm.pvs args) x.pv y.pv
      have i2 := pyIdx_last2 (Tm.pvs args) x.pv y.pv
      simp only [dueT, G, Tm.pv, Tm.pvs_app, Tm.pvs]
      (refine r_seq (r_site (r_te (r_primP rfl (p_ne rfl (r_truB (a_siteT rfl (r_seq (r_ret (r_tup ?_))))))))); refine r_econs (r_primP rfl ?_); refine' p_idxT ?wa ?wb ?_; (case wa => rfl); (case wb => with_reducible assumption); refine a_cons1 (r_econs (r_primP rfl ?_)); refine' p_idxT ?wa ?wb ?_; (case wa => rfl); (case wb => with_reducible assumption); refine a_cons1 (r_pures rfl (a_cons2 (a_cons2 ?_))); refine a_tup ?wa ?_; (case wa => assumption); refine a_ret (r_seqR (r_seqR (r_retR ?_))))
      exact q
  | text l =>
    obtain ⟨kw, _, e, ek⟩ := hw
    rw [e]
    simp only [dueT, Tm.pv, Tm.pvs]
    (refine r_seq (r_site (r_te (r_primP rfl (p_ne rfl (r_truB ?_))))); refine a_siteF ?wa ?_; (case wa => decide); refine r_skip (r_seqN (r_seq (r_assign (r_pure rfl (a_asg (t_var (a_nx (r_seqN (r_seq ?_))))))))); refine r_for (i_val (r_pure rfl ?_)); refine' i_valL ?wa ?_; (case wa => assumption); refine a_for ?_)
    refine for_rule (fun i lm τ => τ = σ ∧ lm 0 = some (.tup [.str "s", .int 10, .tup [x.pv, (listT l y).pv]]) ∧ ∃ a b, l = a ++ b ∧ a.length = i ∧ lm 2 = some (listT b y).pv) ⟨rfl, rfl, [], l, rfl, rfl, rfl⟩ (fun i lm τ h' => h'.1 ▸ ek) ?_ ?_
    · rintro i z lm τ K hy ⟨rfl, l0, a, b, rfl, rfl, l2⟩ hK
      cases b with
      | nil =>
        have hi := (List.getElem?_eq_some_iff.mp hy).1
        rw [Tm.pvs_len] at hi; simp at hi
      | cons t b =>
        have l2 : lm 2 = some (.tup [.str "s", .int 0, .tup [t.pv, (listT b y).pv]]) := l2
        (refine r_seq (r_site (r_tor (r_te (r_prim2 (r_prim2 ?_))))); refine' r_var ?wa ?_; (case wa => assumption); refine a_p2 (r_int (a_p2b (p_idxT rfl rfl (a_p2 (r_str (a_p2b (p_ne rfl (r_truB ?_)))))))); refine a_orF ?wa ?_; (case wa => decide); refine r_te (r_prim2 (r_prim2 ?_)); refine' r_var ?wa ?_; (case wa => assumption); refine a_p2 (r_int (a_p2b (p_idxT rfl rfl (a_p2 (r_int (a_p2b (p_ne rfl (r_truB ?_)))))))); refine a_siteF ?wa ?_; (case wa => decide); refine r_skip (r_seqN (r_seq (r_assign (r_prim2 (r_prim2 ?_))))); refine' r_var ?wa ?_; (case wa => assumption); refine a_p2 (r_int (a_p2b (p_idxT rfl rfl (a_p2 (r_int (a_p2b (p_idxT rfl rfl (a_asg (t_var ?_))))))))); refine a_nx (r_seqN (r_skip (r_forN ?_))))
        exact hK _ _ ⟨rfl, l0, a ++ [t], b, by simp, by simp, rfl⟩
    · rintro lm τ ⟨rfl, l0, a, b, rfl, hl', l2⟩
      have : b = [] := by
        rw [Tm.pvs_len] at hl'
        cases b with
        | nil => rfl
        | cons _ _ => simp at hl'
      subst this
      have l2 : lm 2 = some y.pv := l2
      (refine r_seqN (r_seq (r_ret (r_tup (r_econs (r_prim2 (r_prim2 ?_)))))); refine' r_var ?wa ?_; (case wa => assumption); refine a_p2 (r_int (a_p2b (p_idxT rfl rfl (a_p2 (r_int (a_p2b (p_idxT rfl rfl (a_cons1 (r_econs ?_))))))))); refine' r_var ?wa ?_; (case wa => assumption); refine a_cons1 (r_pures rfl (a_cons2 (a_cons2 ?_))); refine a_tup ?wa ?_; (case wa => assumption); refine a_ret (r_seqR (r_retR ?_)))
      exact q
end
theorem ints_map : ∀ l : List Int, ints? (l.map PV.int) = some l
  | [] => rfl
  | x :: l => by rw [List.map_cons, ints?, ints_map l]; rfl
theorem eqL_int : ∀ l : List Int, eqL (eqv eqDepth) (l.map PV.int) (l.map PV.int) = some true
  | [] => rfl
  | x :: l => eqL_cons (by show some (decide (x = x)) = some true; simp) (eqL_int l)
theorem eqLs_int (l : List Int) : eqLs (l.map PV.int) (l.map PV.int) = some true := by unfold eqLs; rw [if_pos rfl]; exact eqL_int l
theorem uniq_go : ∀ ns acc : List Int, (acc ++ ns).Nodup → ns.foldl (fun acc n => if n ∈ acc then acc else acc ++ [n]) acc = acc ++ ns
  | [], acc, _ => by simp
  | n :: ns, acc, h => by
    have hn : n ∉ acc := fun hm => by
      rw [List.nodup_append] at h
      exact h.2.2 n hm n List.mem_cons_self rfl
    rw [List.foldl_cons, if_neg hn, uniq_go ns (acc ++ [n]) (by simpa using h)]
    simp
theorem uniqI_nodup {ns : List Int} (h : ns.Nodup) : uniqI ns = ns := by
  have := uniq_go ns [] (by simpa using h)
  simpa [uniqI] using this
theorem sorted_eq : ∀ {a b : List Int}, a.Perm b → a.Pairwise (· ≤ ·) → b.Pairwise (· ≤ ·) → a = b
  | [], b, p, _, _ => by rw [List.nil_perm.mp p]
  | x :: a, [], p, _, _ => by have := p.length_eq; simp at this
  | x :: a, y :: b, p, h1, h2 => by
    rw [List.pairwise_cons] at h1 h2
    have hxy : x = y := by
      have hx : x ∈ y :: b := p.subset List.mem_cons_self
      have hy : y ∈ x :: a := p.symm.subset List.mem_cons_self
      rcases List.mem_cons.mp hx with e | hx
      · exact e
      · rcases List.mem_cons.mp hy with e | hy
        · exact e.symm
        · have := h1.1 y hy; have := h2.1 x hx; (first | lia | omega)
    subst hxy
    rw [sorted_eq ((List.perm_cons x).mp p) h1.2 h2.2]
theorem nodup_map {φ : Nat → Int} (h : ∀ i j, φ i = φ j → i = j) : ∀ {l : List Nat}, l.Nodup → (l.map φ).Nodup
  | [], _ => List.nodup_nil
  | x :: l, hn => by
    rw [List.nodup_cons] at hn
    rw [List.map_cons, List.nodup_cons]
    refine ⟨fun hm => ?_, nodup_map h hn.2⟩
    obtain ⟨j, hj, e⟩ := List.mem_map.mp hm
    exact hn.1 (h _ _ e ▸ hj)
noncomputable def MS.tl : Nat → MS → MS
  | 0, s => s
  | n + 1, s => match s with
    | .seq _ r => MS.tl n r
    | s => s
noncomputable def vpv (n : Int) : PV := (Tm.v n).pv
section
variable {P : Pg} {σ σ' : St} {k m kp : Nat} {S : Sym} {Q : EQ}
theorem law_fin (T : Tab2 P) {lm : LM} {ns : List Int} {kt : Nat} {rule : Tm} (l20 : lm 20 = some (.obj kt)) (l13 : lm 13 = some rule.pv) (ht : σ[kt]? = some (.list (ns.map vpv))) (hn : ns.Nodup) (hl : ns.length < 64) (hv : ∀ n ∈ ns, n ∉ rule.vars) (hs : rule.size ≤ 100)
    (q : ∀ σ', Fr (fun _ => False) σ σ' → Q (.bool true) σ') : wps (wpCall P (m + 101)) P (MS.tl 26 b_449) lm σ (retK Q) := by
  have hbig0 : (0 : Nat) ≤ big := by decide
  dsimp only [b_449, MS.tl]
  (refine r_seq (r_assign (r_comp (i_val ?_))); refine' r_var ?wa ?_; (case wa => assumption); refine' i_valL ?wa ?_; (case wa => assumption))
  refine comp_rule (fun i acc τ => τ = σ ∧ acc = (ns.take i).map .int) ⟨rfl, by simp⟩ (fun i acc τ h => h.1 ▸ ht) ?_ ?_
  · rintro i y acc τ K hy ⟨rfl, rfl⟩ hK
    have hi := (List.getElem?_eq_some_iff.mp hy).1
    rw [List.length_map] at hi
    have hy' : y = .tup [.str "v", .int ns[i]] := by
      rw [List.getElem?_map, List.getElem?_eq_getElem hi] at hy
      injection hy with hy; exact hy.symm
    have hlen : ((ns.take i).map PV.int).length < big := by simp [big]; (first | lia | omega)
    have hK := hK ((ns.take (i + 1)).map .int) τ ⟨rfl, rfl⟩
    have e : (ns.take i).map PV.int ++ [.int ns[i]] = (ns.take (i + 1)).map .int := by
      rw [show ns.take (i + 1) = ns.take i ++ [ns[i]] by rw [List.take_add_one, List.getElem?_eq_getElem hi]; rfl, List.map_append]; rfl
    subst hy'
    (refine r_te (r_primP rfl (p_eq rfl (r_truB (of_ite_pos rfl (r_pure rfl ?_))))); refine And.intro ?wa ?_; (case wa => assumption))
    rw [e]
    exact hK
  · rintro acc τ ⟨rfl, rfl⟩
    rw [List.length_map, List.take_length]
    have hll : ¬ (!decide ((((ns.map PV.int).length : Nat) : Int) = (((ns.map vpv).length : Nat) : Int))) = true := by simp
    have hin := ints_map ns
    have hu := uniqI_nodup hn
    (refine a_asg (t_var (a_nx (r_seqN (r_seq (r_site (r_tor (r_te (r_prim2 (r_primP rfl ?_))))))))); refine' p_lenL ?wa ?_; (case wa => exact get_new); refine a_p2 (r_prim1 ?_); refine' r_var ?wa ?_; (case wa => assumption); refine a_p1 ?_; refine' p_lenL ?wa ?_; (case wa => (refine get_app ?_; assumption)); refine a_p2b (p_ne rfl (r_truB ?_)); refine a_orF ?wa ?_; (case wa => assumption); refine r_te (r_prim2 (r_primP rfl ?_)))
    refine p_sorted get_new hin hl fun ms p1 s1 => ?_
    (refine a_p2 (r_prim1 (r_uniq (r_var rfl ?_))); refine' r_uniqK ?wa ?wb ?wc ?_; (case wa => (refine get_app ?_; exact get_new)); (case wb => with_reducible assumption); (case wc => (first | lia | omega)); refine a_p1 ?_)
    rw [hu]
    refine p_sorted get_new hin hl fun ms2 p2 s2 => ?_
    have em := sorted_eq (p1.trans p2.symm) s1 s2
    subst em
    refine a_p2b ?_
    refine p_ne ((eqS_objs (get_app (get_app get_new)) get_new).trans (eqLs_int _)) ?_
    (refine r_truB ?_; refine a_siteF ?wa ?_; (case wa => decide); refine r_skip (r_seqN (r_seq (r_ret (r_prim2 (r_comp (i_val (r_var rfl ?_))))))); refine' i_valL ?wa ?_; (case wa => (refine get_app (get_app (get_app ?_)); exact get_new)))
    have F0 : Fr (fun _ => False) τ ((((τ ++ [.list (ns.map .int)]) ++ [.list (ms.map .int)]) ++ [.list (ns.map .int)]) ++ [.list (ms.map .int)]) := ((((Fr.new _).trans (Fr.new _)).trans (Fr.new _)).trans (Fr.new _))
    have e0 : ((((τ ++ [AObj.list (ns.map .int)]) ++ [.list (ms.map .int)]) ++ [.list (ns.map .int)]) ++ [.list (ms.map .int)])[τ.length]? = some (AObj.list (ns.map .int)) := get_app (get_app (get_app get_new))
    generalize ((((τ ++ [AObj.list (ns.map .int)]) ++ [.list (ms.map .int)]) ++ [.list (ns.map .int)]) ++ [.list (ms.map .int)]) = τ₁ at *
    skip
    refine comp_rule (fun i acc τ' => acc = [] ∧ Fr (fun _ => False) τ₁ τ') ⟨rfl, Fr.refl⟩ (fun i acc τ' h => h.2.at' _ _ e0 id) ?_ ?_
    · rintro i y acc τ' K hy ⟨rfl, F⟩ hK
      have hi := (List.getElem?_eq_some_iff.mp hy).1
      rw [List.length_map] at hi
      have hy' : y = .int ns[i] := by
        rw [List.getElem?_map, List.getElem?_eq_getElem hi] at hy
        injection hy with hy; exact hy.symm
      subst hy'
      (refine r_te (r_prim2 (r_var rfl (a_p2 (r_call (r_econs ?_))))); refine' r_var ?wa ?_; (case wa => assumption); refine a_cons1 (r_pures rfl (a_cons2 (a_call ?_))))
      refine numbers_S T (m + 100) rule (by (first | lia | omega)) (by (first | lia | omega)) _ _ fun τ2 ko F2 _ e2 => ?_
      have hin := (inS_list e2).trans (anyL_ints ns[i] rule.vars)
      rw [decide_eq_false (hv _ (List.getElem_mem hi))] at hin
      (refine a_p2b ?_; refine' p_inn ?wa ?_; (case wa => with_reducible assumption); refine r_truB ?_; refine of_ite_neg ?wa ?_; (case wa => decide))
      exact hK _ _ ⟨rfl, F.trans F2⟩
    · rintro acc τ' ⟨rfl, F⟩
      have e2 : eqS ((τ' ++ [.list []]) ++ [.list []]) (.obj τ'.length) (.obj (τ' ++ [AObj.list []]).length) = some true := eqS_objs (get_app get_new) get_new
      (refine a_p2 (r_list (r_pures rfl ?_)); refine a_list ?wa ?_; (case wa => assumption); refine a_p2b ?_; refine' p_eq ?wa ?_; (case wa => with_reducible assumption); refine a_ret (r_seqR (r_retR ?_)))
      exact q _ ((F0.trans F).trans ((Fr.new _).trans (Fr.new _)))
end
abbrev Trl := List (Wt × Int × Int)
noncomputable def isPl : Wt → Bool
  | .plain _ => true
  | _ => false
noncomputable def Ch : Int → Trl → Int → Prop
  | cur, [], fin => cur = fin
  | cur, p :: r, fin => if isPl p.1 = true then Ch cur r fin else p.2.1 = cur ∧ Ch p.2.2 r fin
noncomputable def txs : Trl → List Int
  | [] => []
  | p :: r => if isPl p.1 = true then txs r else p.2.2 :: txs r
theorem txs_app : ∀ a b : Trl, txs (a ++ b) = txs a ++ txs b
  | [], b => rfl
  | p :: a, b => by
    rw [List.cons_append, txs, txs, txs_app a b]
    split <;> rfl
noncomputable def dueP (S : Sym) (p : Wt × Int × Int) : Tm := dueT S p.1 (.v p.2.1) (.v p.2.2)
theorem due_s {S : Sym} {w : Wt} (h : isPl w ≠ true) (hh : w.has S) (x y : Tm) : ∃ f l, dueT S w x y = .s f l ∧ 2 ≤ l.length := by
  cases w with
  | plain g => exact absurd rfl h
  | phr n => exact ⟨_, _, rfl, by simp⟩
  | text l => exact ⟨_, _, rfl, by simp⟩
  | more b =>
    have h1 := hh.1
    cases b <;> try exact h1.elim
    · exact ⟨_, _, rfl, by simp⟩
    · exact ⟨_, _, rfl, by simp⟩
theorem wt_shape {σ : St} {lo : Nat} {w : Wt} {v : PV} (h : isPl w ≠ true) (hw : WtAt σ lo w v) : ∃ x z, v = .tup [.str x, z] ∧ ¬ x = "plain" := by
  cases w with
  | plain g => exact absurd rfl h
  | phr n => exact ⟨_, _, hw, by decide +kernel⟩
  | text l => obtain ⟨kw, _, e, _⟩ := hw; exact ⟨_, _, e, by decide +kernel⟩
  | more b => exact ⟨_, _, hw, by decide +kernel⟩
noncomputable def lFor : MS := match MS.tl 23 b_449 with
  | .seq (.for _ _ s) _ => s
  | s => s
section
variable {P : Pg} {σ σ' : St} {k m kp : Nat} {S : Sym}
set_option tactic.hygienic true in
theorem law_loop (T : Tab2 P) {lm : LM} {tr : Trl} {ex : List Tm} {first fin : Int} {kv kg lo : Nat} {vs : List PV} {Q : SQ} (l2 : lm 2 = some (.obj k)) (l7 : lm 7 = some (.obj kv)) (l19 : lm 19 = some (.obj kg)) (l20 : lm 20 = some (.obj σ.length))
    (hS : SymAt σ k S) (ok : Sok S) (hv : σ[kv]? = some (.list vs)) (hg : σ[kg]? = some (.list (Tm.pvs (tr.map (dueP S) ++ ex)))) (hw : WtsAt σ lo (tr.map (·.1)) vs) (hlo : k + 4 < lo) (nv : ¬ symM k kv) (ng : ¬ symM k kg)
    (hh : ∀ p ∈ tr, p.1.has S) (hd : ∀ p ∈ tr, (dueP S p).dep ≤ 29) (hc : Ch first tr fin) (hl : tr.length ≤ 1000)
    (q : ∀ lm' τ, (∀ j, j ≠ 21 → j ≠ 22 → j ≠ 23 → lm' j = lm j) → SymAt τ k S → Fr (symM k) σ τ → τ[σ.length]? = some (.list ((first :: txs tr).map vpv)) → Q .next lm' τ) : rangeK (kFor (wpCall P (m + 4)) P lFor 21 lm Q) [.int (vs.length : Int)] (σ ++ [.list [vpv first]]) := by
  have T' : TabP P := T.toTabP
  have hbig2 : (2 : Nat) ≤ big := by decide
  have hvl : vs.length = tr.length := by rw [hw.len, List.length_map]
  have hR : rangeOf [.int (vs.length : Int)] (rangeL 0 (vs.length : Int) 1) := up_range _ (by (first | lia | omega))
  have len0 := (List.getElem?_eq_some_iff.mp hS.fd).1
  dsimp only [lFor, b_449, MS.tl]
  (refine' i_rangeK ?wa ?_; (case wa => with_reducible assumption); refine a_for ?_)
  refine for_rule (fun i lm' τ => ∃ pre suf bt cur, tr = pre ++ suf ∧ pre.length = i ∧ (∀ j, j ≠ 21 → j ≠ 22 → j ≠ 23 → lm' j = lm j) ∧ first :: txs pre = bt ++ [cur] ∧ τ[σ.length]? = some (.list ((bt ++ [cur]).map vpv)) ∧ Ch cur suf fin ∧ SymAt τ k S ∧ Fr (symM k) σ τ)
    ⟨[], tr, [], first, rfl, rfl, fun _ _ _ _ => rfl, rfl, get_new, hc, sym_no hS (Fr.new _), Fr.new _⟩ (fun _ _ _ _ => trivial) ?_ ?_
  · rintro i y lm' τ K hy ⟨pre, suf, bt, cur, e, rfl, hlm, hbt, hτ, hc, s1, F⟩ hK
    have hi := (List.getElem?_eq_some_iff.mp hy).1
    rw [rangeL_len, up_size] at hi
    have hy' := rangeL_at hy
    subst hy'
    cases suf with
    | nil => rw [hvl, e] at hi; simp at hi
    | cons p suf =>
      obtain ⟨w, hx, tx⟩ := p
      have hp : (w, hx, tx) ∈ tr := by rw [e]; simp
      have hw' : (tr.map (·.1))[pre.length]? = some w := by rw [e]; simp
      obtain ⟨v, hv1, hv2⟩ := hw.at' hw'
      have iv : pyIdx vs (0 + 1 * (pre.length : Int)) = some v := by
        rw [show (0 : Int) + 1 * (pre.length : Int) = ((pre.length : Nat) : Int) by (first | lia | omega)]; exact pyIdx_nat hv1
      have ig : pyIdx (Tm.pvs (tr.map (dueP S) ++ ex)) (0 + 1 * (pre.length : Int)) = some (dueP S (w, hx, tx)).pv := by
        rw [show (0 : Int) + 1 * (pre.length : Int) = ((pre.length : Nat) : Int) by (first | lia | omega)]
        refine pyIdx_nat ?_
        rw [Tm.pvs_eq, e]; simp
      have m2 : lm' 2 = some (.obj k) := (hlm 2 (by decide) (by decide) (by decide)).trans l2
      have m7 : lm' 7 = some (.obj kv) := (hlm 7 (by decide) (by decide) (by decide)).trans l7
      have m19 : lm' 19 = some (.obj kg) := (hlm 19 (by decide) (by decide) (by decide)).trans l19
      have m20 : lm' 20 = some (.obj σ.length) := (hlm 20 (by decide) (by decide) (by decide)).trans l20
      have hvτ := F.at' _ _ hv nv
      have hgτ := F.at' _ _ hg ng
      have hdp := hd _ hp
      have hhp := hh _ hp
      have hwτ := hv2.frame F (fun j a _ => by unfold symM; (first | lia | omega))
      have hlm2 : ∀ {u : PV}, ∀ j, j ≠ 21 → j ≠ 22 → j ≠ 23 → upd lm' 21 u j = lm j := fun j a b c => by rw [upd_ne _ _ a]; exact hlm j a b c
      by_cases hpl : isPl w = true
      · obtain ⟨g, rfl⟩ : ∃ g, w = .plain g := by cases w <;> first | exact ⟨_, rfl⟩ | cases hpl
        have ev : v = .tup [.str "plain", g.pv] := hwτ
        subst ev
        have eg : (dueP S (.plain g, hx, tx)).pv = g.pv := rfl
        have heq := eqS_refl τ g hdp
        rw [eg] at ig
        (refine r_seq (r_site (r_te (r_prim2 (r_prim2 (r_prim2 ?_))))); refine' r_var ?wa ?_; (case wa => assumption); refine a_p2 (r_var rfl (a_p2b ?_)); refine' p_idxL ?wa ?wb ?_; (case wa => assumption); (case wb => with_reducible assumption); refine a_p2 (r_int (a_p2b (p_idxT rfl rfl (a_p2 (r_str (a_p2b (p_eq rfl (r_truB ?_)))))))); refine a_siteT ?wa ?_; (case wa => assumption); refine r_seq (r_site (r_te (r_prim2 (r_prim2 ?_)))); refine' r_var ?wa ?_; (case wa => assumption); refine a_p2 (r_var rfl (a_p2b ?_)); refine' p_idxL ?wa ?wb ?_; (case wa => assumption); (case wb => with_reducible assumption); refine a_p2 (r_prim2 (r_prim2 ?_)); refine' r_var ?wa ?_; (case wa => assumption); refine a_p2 (r_var rfl (a_p2b ?_)); refine' p_idxL ?wa ?wb ?_; (case wa => assumption); (case wb => with_reducible assumption); refine a_p2 (r_int (a_p2b (p_idxT rfl rfl (a_p2b ?_)))); refine' p_ne ?wa ?_; (case wa => with_reducible assumption); refine r_truB ?_; refine a_siteF ?wa ?_; (case wa => decide); refine r_skip (r_seqN (r_seq (r_cont (r_seqC (r_seqC (r_forC ?_)))))))
        simp only [Ch] at hc
        rw [if_pos hpl] at hc
        refine hK _ _ ⟨pre ++ [(.plain g, hx, tx)], suf, bt, cur, by rw [e]; simp, by simp, hlm2, ?_, hτ, hc, s1, F⟩
        rw [txs_app]
        simpa [txs, isPl] using hbt
      · obtain ⟨f, l, ed, hl2⟩ := due_s hpl hhp (.v hx) (.v tx)
        have ed' : (dueP S (w, hx, tx)).pv = .tup [.str "s", .int f, .tup (Tm.pvs l)] := by
          show (dueT S w (.v hx) (.v tx)).pv = _
          rw [ed]; simp only [Tm.pv]
        obtain ⟨x, z, ev, hxp⟩ := wt_shape hpl hwτ
        rw [ed'] at ig
        simp only [Ch] at hc
        rw [if_neg hpl] at hc
        obtain ⟨hcur, hc⟩ := hc
        have hcur : hx = cur := hcur
        subst hcur
        have hl3 : 2 ≤ (Tm.pvs l).length := by rw [Tm.pvs_len]; exact hl2
        have ivt : pyIdx vs (0 + 1 * (pre.length : Int)) = some (.tup [.str x, z]) := by rw [iv, ev]
        have hnp : ∀ g, w ≠ .plain g := fun g e => hpl (by rw [e]; rfl)
        have il : pyIdx (List.map vpv (bt ++ [hx])) (-1) = some (vpv hx) := by rw [List.map_append]; exact pyIdx_last _ _
        have hnn : ¬ decide ((Tm.v tx).pv = PV.none) = true := by simp [Tm.pv]
        (refine r_seq (r_site (r_te (r_prim2 (r_prim2 (r_prim2 ?_))))); refine' r_var ?wa ?_; (case wa => assumption); refine a_p2 (r_var rfl (a_p2b ?_)); refine' p_idxL ?wa ?wb ?_; (case wa => assumption); (case wb => with_reducible assumption); refine a_p2 (r_int (a_p2b (p_idxT rfl rfl (a_p2 (r_str (a_p2b (p_eq rfl (r_truB ?_)))))))); refine a_siteF ?wa ?_; (case wa => (simp only [decide_eq_true_eq, decide_eq_false_iff_not, Bool.not_eq_true, Bool.not_eq_true', Bool.not_eq_false, Bool.not_eq_false', decide_not, Bool.not_not, Bool.and_false, Bool.false_and, Bool.or_false, Bool.false_or, Bool.true_and, Bool.and_true, Bool.false_eq_true, Bool.and_eq_true, Bool.or_eq_true, not_true_eq_false, not_false_eq_true]; assumption)); refine r_skip (r_seqN (r_seq (r_site (r_tor (r_te (r_prim2 (r_prim2 (r_prim2 ?_)))))))); refine' r_var ?wa ?_; (case wa => assumption); refine a_p2 (r_var rfl (a_p2b ?_)); refine' p_idxL ?wa ?wb ?_; (case wa => assumption); (case wb => with_reducible assumption); refine a_p2 (r_int (a_p2b (p_idxT rfl rfl (a_p2 (r_str (a_p2b (p_ne rfl (r_truB ?_)))))))); refine a_orF ?wa ?_; (case wa => decide); refine r_te (r_prim2 (r_prim1 (r_prim2 (r_prim2 ?_)))); refine' r_var ?wa ?_; (case wa => assumption); refine a_p2 (r_var rfl (a_p2b ?_)); refine' p_idxL ?wa ?wb ?_; (case wa => assumption); (case wb => with_reducible assumption); refine a_p2 (r_int (a_p2b (p_idxT rfl rfl (a_p1 (p_lenT rfl (a_p2 (r_int (a_p2b (p_lt ?_))))))))); refine r_truB ?_; refine a_siteF ?wa ?_; (case wa => (simp only [decide_eq_true_eq, decide_eq_false_iff_not, Bool.not_eq_true, Bool.not_eq_true', Bool.not_eq_false, Bool.not_eq_false', decide_not, Bool.not_not, Bool.and_false, Bool.false_and, Bool.or_false, Bool.false_or, Bool.true_and, Bool.and_true, Bool.false_eq_true, Bool.and_eq_true, Bool.or_eq_true, not_true_eq_false, not_false_eq_true]; (first | lia | omega))); refine r_skip (r_seqN (r_seq (r_assign (r_call (r_econs (r_prim2 ?_)))))); refine' r_var ?wa ?_; (case wa => assumption); refine a_p2 (r_var rfl (a_p2b ?_)); refine' p_idxL ?wa ?wb ?_; (case wa => assumption); (case wb => with_reducible assumption); refine a_cons1 (r_econs (r_prim2 ?_)); refine' r_var ?wa ?_; (case wa => assumption); refine a_p2 (r_var rfl (a_p2b ?_)); refine' p_idxL ?wa ?wb ?_; (case wa => assumption); (case wb => with_reducible assumption); refine a_cons1 (r_pures rfl (a_cons2 (a_cons2 (a_call ?_)))))
        rw [← ed', ← ev]
        refine ends_S (m := m + 3) T hnp hwτ hhp ?_
        have heq1 : eqS τ (Tm.v hx).pv (vpv hx) = some true := eqS_refl τ (.v hx) (by simp [Tm.dep])
        (refine a_asg (t_tup rfl rfl (a_nx (r_seqN (r_seq (r_site (r_tor (r_te (r_prim2 (r_var rfl ?_))))))))); refine a_p2 (r_prim2 ?_); refine' r_var ?wa ?_; (case wa => assumption); refine a_p2 (r_int (a_p2b ?_)); refine' p_idxL ?wa ?wb ?_; (case wa => assumption); (case wb => with_reducible assumption); refine a_p2b ?_; refine' p_ne ?wa ?_; (case wa => with_reducible assumption); refine r_truB ?_; refine a_orF ?wa ?_; (case wa => decide); refine r_tor (r_te (r_primP rfl (p_is (r_truB ?_)))); refine a_orF ?wa ?_; (case wa => assumption); refine r_te (r_prim2 (r_prim2 ?_)); refine' r_var ?wa ?_; (case wa => assumption); refine a_p2 (r_var rfl (a_p2b ?_)); refine' p_idxL ?wa ?wb ?_; (case wa => assumption); (case wb => with_reducible assumption); refine a_p2 (r_call (r_econs ?_)); refine' r_var ?wa ?_; (case wa => assumption); refine a_cons1 (r_econs (r_prim2 ?_)); refine' r_var ?wa ?_; (case wa => assumption); refine a_p2 (r_var rfl (a_p2b ?_)); refine' p_idxL ?wa ?wb ?_; (case wa => assumption); (case wb => with_reducible assumption); refine a_cons1 (r_pures rfl (a_cons2 (a_cons2 (a_call ?_)))))
        rw [← ev]
        refine due_S (m := m + 1) (x := .v hx) (y := .v tx) T s1 ok hnp hwτ hhp fun τ₂ s2 F2 => ?_
        have heq2 : eqS τ₂ (.tup [.str "s", .int f, .tup (Tm.pvs l)]) (dueT S w (.v hx) (.v tx)).pv = some true := by
          rw [← ed']; exact eqS_refl τ₂ _ hdp
        have hτ2 := F2.at' _ _ hτ (by unfold symM; (first | lia | omega))
        have hbl : (List.map vpv (bt ++ [hx])).length < big := by
          have h1 : (bt ++ [hx]).length = (first :: txs pre).length := by rw [hbt]
          have h2 : ∀ t : Trl, (txs t).length ≤ t.length := fun t => by
            induction t with
            | nil => exact Nat.le_refl _
            | cons p t ih => rw [txs]; split <;> simp <;> (first | lia | omega)
          have h3 := h2 pre
          have h4 : tr.length = pre.length + (suf.length + 1) := by rw [e]; simp
          rw [List.length_map, h1, List.length_cons]; unfold big; (first | lia | omega)
        (refine a_p2b ?_; refine' p_ne ?wa ?_; (case wa => with_reducible assumption); refine r_truB ?_; refine a_siteF ?wa ?_; (case wa => decide); refine r_skip (r_seqN (r_seq (r_expr (r_bm ?_)))); refine' r_var ?wa ?_; (case wa => assumption); refine a_bm ?wa ?_; (case wa => (refine' bmOk_list ?wz (by intro e; cases e); (case wz => assumption))); refine r_pures rfl (a_bm2 ?_); refine' b_append ?wa ?wb ?_; (case wa => assumption); (case wb => assumption); refine a_exp (r_seqN (r_skip (r_forN ?_))))
        refine hK _ _ ⟨pre ++ [(w, hx, tx)], suf, bt ++ [hx], tx, by rw [e]; simp, by simp, fun j a b c => ?_, ?_, ?_, hc, ?_, (F.trans F2).setNew (Nat.le_refl _)⟩
        · rw [upd_ne _ _ c, upd_ne _ _ b, upd_ne _ _ a]; exact hlm j a b c
        · rw [txs_app, ← List.cons_append, hbt]; simp only [txs]; rw [if_neg hpl]
        · rw [List.map_append (l₂ := [tx])]; exact get_set_eq hτ2
        · exact s2.frame (Fr.set rfl : Fr (fun j => j = σ.length) _ _) (fun j a b => by (first | lia | omega))
  · rintro lm' τ ⟨pre, suf, bt, cur, e, hl', hlm, hbt, hτ, hc, s1, F⟩
    rw [rangeL_len, up_size, hvl] at hl'
    have : suf = [] := by
      cases suf with
      | nil => rfl
      | cons _ _ => rw [e] at hl'; simp at hl'
    subst this
    rw [List.append_nil] at e
    subst e
    exact q lm' τ hlm s1 F (by rw [hbt]; exact hτ)
end
noncomputable def tr (φ : Nat → Int) : Bd → Int → Int → Nat → Trl
  | .seq _ l r, h, t, c => tr φ l h (φ c) (c + 1) ++ tr φ r (φ c) t (c + 1 + l.nv)
  | b, h, t, _ => b.ws.map fun w => (w, h, t)
noncomputable def ix : Bd → Nat → List Nat
  | .seq _ l r, c => ix l (c + 1) ++ c :: ix r (c + 1 + l.nv)
  | _, _ => []
noncomputable def TrOk (S : Sym) : Bd → Prop
  | .seq f l r => f = 1 ∧ TrOk S l ∧ TrOk S r
  | b => LfOk S b
theorem TrOk.tree {S : Sym} : ∀ {b : Bd}, TrOk S b → isTree b
  | .seq f l r, h => ⟨h.1, TrOk.tree h.2.1, TrOk.tree h.2.2⟩
  | .lst _, h => h.leaf | .nil, h => h.leaf | .cut, h => h.leaf | .atom _, h => h.leaf | .cmp _ _ _, h => h.leaf | .curly _, h => h.leaf | .var _, h => h.leaf
theorem tr_ws (φ : Nat → Int) : ∀ (b : Bd) (h t : Int) (c : Nat), (tr φ b h t c).map (·.1) = b.ws
  | .seq _ l r, h, t, c => by rw [tr, List.map_append, tr_ws φ l, tr_ws φ r]; rfl
  | .lst _, _, _, _ => rfl | .nil, _, _, _ => rfl | .cut, _, _, _ => rfl | .atom _, _, _, _ => rfl | .cmp _ _ _, _, _, _ => rfl | .curly _, _, _, _ => rfl | .var _, _, _, _ => rfl
theorem tr_gls (S : Sym) (φ : Nat → Int) : ∀ (b : Bd) (h t : Int) (c : Nat), isTree b → gls S φ b (.v h) (.v t) c = (tr φ b h t c).map (dueP S)
  | .seq _ l r, h, t, c, ht => by rw [tr, List.map_append, gls, tr_gls S φ l _ _ _ ht.2.1, tr_gls S φ r _ _ _ ht.2.2]
  | .lst _, _, _, _, _ => rfl | .nil, _, _, _, _ => rfl | .cut, _, _, _, _ => rfl | .atom _, _, _, _, _ => rfl | .cmp _ _ _, _, _, _, _ => rfl | .curly _, _, _, _, _ => rfl | .var _, _, _, _, _ => rfl
theorem Ch.app : ∀ {x : Trl} {a b c : Int} {y : Trl}, Ch a x b → Ch b y c → Ch a (x ++ y) c
  | [], _, _, _, _, h, h' => by cases h; exact h'
  | p :: x, a, b, c, y, h, h' => by
    rw [Ch] at h
    rw [List.cons_append, Ch]
    by_cases hp : isPl p.1 = true
    · rw [if_pos hp] at h ⊢; exact Ch.app h h'
    · rw [if_neg hp] at h ⊢; exact ⟨h.1, Ch.app h.2 h'⟩
theorem tr_ch (φ : Nat → Int) : ∀ (b : Bd) (h t : Int) (c : Nat), isTree b → Ch h (tr φ b h t c) t
  | .seq _ l r, h, t, c, ht => (tr_ch φ l _ _ _ ht.2.1).app (tr_ch φ r _ _ _ ht.2.2)
  | .lst _, _, _, _, _ => by simp [tr, Bd.ws, Ch, isPl] | .nil, _, _, _, _ => by simp [tr, Bd.ws, Ch, isPl] | .cut, _, _, _, _ => by simp [tr, Bd.ws, Ch, isPl]
  | .atom _, _, _, _, _ => by simp [tr, Bd.ws, Ch, isPl] | .cmp _ _ _, _, _, _, _ => by simp [tr, Bd.ws, Ch, isPl] | .curly _, _, _, _, _ => by simp [tr, Bd.ws, Ch, isPl] | .var _, _, _, _, _ => by simp [tr, Bd.ws, Ch, isPl]
theorem tr_txs (φ : Nat → Int) : ∀ (b : Bd) (h t : Int) (c : Nat), isTree b → txs (tr φ b h t c) = (ix b c).map φ ++ [t]
  | .seq _ l r, h, t, c, ht => by rw [tr, txs_app, tr_txs φ l _ _ _ ht.2.1, tr_txs φ r _ _ _ ht.2.2, ix]; simp
  | .lst _, _, _, _, _ => by simp [tr, Bd.ws, txs, ix, isPl] | .nil, _, _, _, _ => by simp [tr, Bd.ws, txs, ix, isPl] | .cut, _, _, _, _ => by simp [tr, Bd.ws, txs, ix, isPl]
  | .atom _, _, _, _, _ => by simp [tr, Bd.ws, txs, ix, isPl] | .cmp _ _ _, _, _, _, _ => by simp [tr, Bd.ws, txs, ix, isPl] | .curly _, _, _, _, _ => by simp [tr, Bd.ws, txs, ix, isPl] | .var _, _, _, _, _ => by simp [tr, Bd.ws, txs, ix, isPl]
theorem ix_ge : ∀ (b : Bd) (c : Nat), ∀ i ∈ ix b c, c ≤ i ∧ i < c + b.nv
  | .seq _ l r, c, i, h => by
    rw [ix, List.mem_append, List.mem_cons] at h
    simp only [Bd.nv]
    rcases h with h | rfl | h
    · have := ix_ge l _ i h; (first | lia | omega)
    · (first | lia | omega)
    · have := ix_ge r _ i h; (first | lia | omega)
  | .lst _, _, _, h => nomatch h | .nil, _, _, h => nomatch h | .cut, _, _, h => nomatch h | .atom _, _, _, h => nomatch h | .cmp _ _ _, _, _, h => nomatch h | .curly _, _, _, h => nomatch h | .var _, _, _, h => nomatch h
theorem ix_nodup : ∀ (b : Bd) (c : Nat), (ix b c).Nodup
  | .seq _ l r, c => by
    rw [ix, List.nodup_append]
    refine ⟨ix_nodup l _, List.nodup_cons.mpr ⟨fun h => ?_, ix_nodup r _⟩, fun a ha x hx e => ?_⟩
    · have := ix_ge r _ c h; (first | lia | omega)
    · have h1 := ix_ge l _ a ha
      rcases List.mem_cons.mp hx with rfl | hx
      · (first | lia | omega)
      · have := ix_ge r _ x hx; (first | lia | omega)
  | .lst _, _ => List.nodup_nil | .nil, _ => List.nodup_nil | .cut, _ => List.nodup_nil | .atom _, _ => List.nodup_nil | .cmp _ _ _, _ => List.nodup_nil | .curly _, _ => List.nodup_nil | .var _, _ => List.nodup_nil
theorem ix_len : ∀ (b : Bd) (c : Nat), (ix b c).length ≤ b.tm.size
  | .seq _ l r, c => by
    have h1 := ix_len l (c + 1)
    have h2 := ix_len r (c + 1 + l.nv)
    simp only [ix, Bd.tm, Tm.size, Tm.sizeL, List.length_append, List.length_cons]; (first | lia | omega)
  | .lst _, _ => Nat.zero_le _ | .nil, _ => Nat.zero_le _ | .cut, _ => Nat.zero_le _ | .atom _, _ => Nat.zero_le _ | .cmp _ _ _, _ => Nat.zero_le _ | .curly _, _ => Nat.zero_le _ | .var _, _ => Nat.zero_le _
theorem tr_len (φ : Nat → Int) : ∀ (b : Bd) (h t : Int) (c : Nat), (tr φ b h t c).length ≤ 2 * b.tm.size
  | .seq _ l r, h, t, c => by
    have h1 := tr_len φ l h (φ c) (c + 1)
    have h2 := tr_len φ r (φ c) t (c + 1 + l.nv)
    simp only [tr, Bd.tm, Tm.size, Tm.sizeL, List.length_append]; (first | lia | omega)
  | .lst l, _, _, _ => by have := Tm.size_pos (Bd.lst l).tm; simp only [tr, Bd.ws, List.length_map, List.length_cons, List.length_nil]; (first | lia | omega)
  | .nil, _, _, _ => by simp [tr, Bd.ws, Bd.tm, Tm.size] | .cut, _, _, _ => by simp [tr, Bd.ws, Bd.tm, Tm.size] | .atom _, _, _, _ => by simp [tr, Bd.ws, Bd.tm, Tm.size] | .cmp _ _ _, _, _, _ => by simp [tr, Bd.ws, Bd.tm, Tm.size]; (first | lia | omega)
  | .curly _, _, _, _ => by simp [tr, Bd.ws, Bd.tm, Tm.size]; (first | lia | omega)
  | .var _, _, _, _ => by simp [tr, Bd.ws, Bd.tm, Tm.size]
theorem dep0 (h t : Int) : (Tm.s 10 [.v h, .v t]).dep ≤ 29 := by simp [Tm.dep, Tm.depL]
theorem depL_app : ∀ l m : List Tm, Tm.depL (l ++ m) = max (Tm.depL l) (Tm.depL m)
  | [], m => by simp [Tm.depL]
  | t :: r, m => by rw [List.cons_append, Tm.depL, Tm.depL, depL_app r m]; (first | lia | omega)
theorem listT_dep_eq {z z' : Tm} (h : z.dep = z'.dep) : ∀ its : List Tm, (listT its z).dep = (listT its z').dep
  | [] => h
  | t :: r => by
    have := listT_dep_eq h r
    unfold listT at this ⊢
    rw [List.foldr_cons, List.foldr_cons]
    simp only [Tm.dep, Tm.depL]
    rw [this]
theorem tr_ok {S : Sym} (φ : Nat → Int) : ∀ (b : Bd) (h t : Int) (c : Nat), TrOk S b → b.has S → ∀ p ∈ tr φ b h t c, p.1.has S ∧ (dueP S p).dep ≤ 29
  | .seq _ l r, h, t, c, ht, hh, p, hp => by
    rw [tr, List.mem_append] at hp
    exact hp.elim (tr_ok φ l _ _ _ ht.2.1 hh.1 p) (tr_ok φ r _ _ _ ht.2.2 hh.2 p)
  | .lst l, h, t, c, ht, hh, p, hp => by
    simp only [tr, Bd.ws, List.map_cons, List.map_nil, List.mem_singleton] at hp
    subst hp
    have h1 := ht.dep
    have h2 := listT_dep_eq (z := .v t) (z' := .a 0) rfl l
    simp only [Bd.tm] at h1
    refine ⟨trivial, ?_⟩
    simp only [dueP, dueT, Tm.dep, Tm.depL]; (first | lia | omega)
  | .nil, h, t, c, ht, hh, p, hp => by
    simp only [tr, Bd.ws, List.map_cons, List.map_nil, List.mem_singleton] at hp
    subst hp
    exact ⟨trivial, dep0 h t⟩
  | .cut, h, t, c, ht, hh, p, hp => by
    simp only [tr, Bd.ws, List.map_cons, List.map_nil, List.mem_cons, List.not_mem_nil, or_false] at hp
    rcases hp with rfl | rfl
    · exact ⟨trivial, by simp [dueP, dueT, Tm.dep]⟩
    · exact ⟨trivial, dep0 h t⟩
  | .atom n, h, t, c, ht, hh, p, hp => by
    simp only [tr, Bd.ws, List.map_cons, List.map_nil, List.mem_singleton] at hp
    subst hp
    exact ⟨⟨trivial, ht.ok, hh⟩, by simp [dueP, dueT, G, Tm.dep, Tm.depL]⟩
  | .cmp f a args, h, t, c, ht, hh, p, hp => by
    simp only [tr, Bd.ws, List.map_cons, List.map_nil, List.mem_singleton] at hp
    subst hp
    have h1 := ht.dep
    simp only [Bd.tm, Tm.dep] at h1
    refine ⟨⟨trivial, ht.ok, hh⟩, ?_⟩
    simp only [dueP, dueT, G, Tm.dep]
    rw [depL_app]
    simp only [Tm.depL, Tm.dep]; (first | lia | omega)
  | .curly g, h, t, c, ht, hh, p, hp => by
    simp only [tr, Bd.ws, List.map_cons, List.map_nil, List.mem_cons, List.not_mem_nil, or_false] at hp
    have h1 := ht.dep
    simp only [Bd.tm, Tm.dep, Tm.depL] at h1
    rcases hp with rfl | rfl
    · exact ⟨trivial, by simp only [dueP, dueT]; (first | lia | omega)⟩
    · exact ⟨trivial, dep0 h t⟩
  | .var n, h, t, c, ht, hh, p, hp => by
    simp only [tr, Bd.ws, List.map_cons, List.map_nil, List.mem_singleton] at hp
    subst hp
    exact ⟨hh, by simp [dueP, dueT, Tm.dep, Tm.depL]⟩
noncomputable def MS.pre : Nat → MS → MS → MS
  | 0, _, t => t
  | n + 1, s, t => match s with
    | .seq a r => .seq a (MS.pre n r t)
    | s => s
noncomputable def t26 : MS := MS.tl 26 b_449
noncomputable def t20 : MS := MS.pre 6 (MS.tl 20 b_449) t26
section
variable {P : Pg} {σ σ' : St} {k m kp : Nat} {S : Sym} {Q : EQ}
theorem ch_first {w : Trl} {a b : Int} (h : Ch a w b) : ∃ bt, a :: txs w = bt ++ [b] := by
  induction w generalizing a with
  | nil => cases h; exact ⟨[], rfl⟩
  | cons p w ih =>
    simp only [Ch] at h
    simp only [txs]
    by_cases hp : isPl p.1 = true
    · rw [if_pos hp] at h ⊢; exact ih h
    · rw [if_neg hp] at h ⊢
      obtain ⟨bt, e⟩ := ih h.2
      exact ⟨a :: bt, by rw [e]; rfl⟩
theorem mid_none (T : Tab2 P) {lm : LM} {b : Bd} {rule : Tm} {φ : Nat → Int} {kv lo : Nat} {vs : List PV} (l2 : lm 2 = some (.obj k)) (l4 : lm 4 = some .none) (l7 : lm 7 = some (.obj kv)) (l13 : lm 13 = some rule.pv)
    (l16 : lm 16 = some (G S φ b (.v (φ 0)) (.v (φ 1)) 2).pv) (l17 : lm 17 = some (Tm.v (φ 0)).pv) (l18 : lm 18 = some (Tm.v (φ 1)).pv)
    (hS : SymAt σ k S) (ok : Sok S) (z : S0.le S) (bo : TrOk S b) (hb : b.has S) (bs : b.tm.size ≤ 45) (bd : b.dp ≤ 100) (hφ : ∀ i j, φ i = φ j → i = j) (hr : ∀ i, φ i ∉ rule.vars) (rs : rule.size ≤ 100)
    (hv : σ[kv]? = some (.list vs)) (hw : WtsAt σ lo b.ws vs) (hlo : k + 4 < lo) (nv : ¬ symM k kv) (q : ∀ σ', Fr (symM k) σ σ' → Q (.bool true) σ') : wps (wpCall P (m + 200)) P t20 lm σ (retK Q) := by
  have T' : TabP P := T.toTabP
  have hbig1 : (1 : Nat) ≤ big := by decide
  have hbig2 : (2 : Nat) ≤ big := by decide
  have hbig3 : (3 : Nat) ≤ big := by decide
  have ht := bo.tree
  dsimp only [t20, b_449, MS.tl, MS.pre]
  (refine r_seq (r_assign (r_call (r_econs ?_))); refine' r_var ?wa ?_; (case wa => assumption); refine a_cons1 (r_pures rfl (a_cons2 (a_call ?_))))
  refine goals_S T ok z b ht hb (by (first | lia | omega)) (m + 200) (by (first | lia | omega)) (.v (φ 0)) (.v (φ 1)) 2 _ _ fun σ₁ kg F1 hkg e1 => ?_
  rw [tr_gls S φ b _ _ _ ht] at e1
  rw [← tr_ws φ b (φ 0) (φ 1) 2] at hw
  have hc := tr_ch φ b (φ 0) (φ 1) 2 ht
  have htx := tr_txs φ b (φ 0) (φ 1) 2 ht
  have hok := tr_ok φ b (φ 0) (φ 1) 2 bo hb
  have hl := tr_len φ b (φ 0) (φ 1) 2
  have hvl := hw.len
  rw [List.length_map] at hvl
  generalize tr φ b (φ 0) (φ 1) 2 = tl at *
  have hv1 := F1.at' _ _ hv id
  have hS1 := sym_no hS F1
  have hw1 := hw.frame F1 (fun _ _ _ => id)
  have klen := (List.getElem?_eq_some_iff.mp hS.fd).1
  have hgl : ¬ (!decide ((((Tm.pvs (tl.map (dueP S))).length : Nat) : Int) = ((vs.length : Nat) : Int) + 0)) = true := by rw [Tm.pvs_len, List.length_map, hvl]; simp
  have hv1' : (σ₁ ++ [AObj.list [(Tm.v (φ 0)).pv]])[kv]? = some (.list vs) := get_app hv1
  (refine a_asg (t_var (a_nx (r_seqN (r_seq (r_site (r_te (r_prim2 (r_primP rfl ?_)))))))); refine' p_lenL ?wa ?_; (case wa => assumption); refine a_p2 (r_prim2 (r_prim1 ?_)); refine' r_var ?wa ?_; (case wa => assumption); refine a_p1 ?_; refine' p_lenL ?wa ?_; (case wa => assumption); refine a_p2 (r_ite (r_te (r_prim2 ?_))); refine' r_var ?wa ?_; (case wa => assumption); refine a_p2 (r_none (a_p2b (p_is (r_truB ?_)))); refine a_iteT ?wa ?_; (case wa => (simp only [decide_eq_true_eq, decide_eq_false_iff_not, Bool.not_eq_true, Bool.not_eq_true', Bool.not_eq_false, Bool.not_eq_false', decide_not, Bool.not_not, Bool.and_false, Bool.false_and, Bool.or_false, Bool.false_or, Bool.true_and, Bool.and_true, Bool.false_eq_true, Bool.and_eq_true, Bool.or_eq_true, not_true_eq_false, not_false_eq_true]; done)); refine r_int (a_p2b (p_addI (a_p2b (p_ne rfl (r_truB ?_))))); refine a_siteF ?wa ?_; (case wa => assumption); refine r_skip (r_seqN (r_seq (r_assign (r_list (r_econs ?_))))); refine' r_var ?wa ?_; (case wa => assumption); refine a_cons1 (r_pures rfl (a_cons2 ?_)); refine a_list ?wa ?_; (case wa => assumption); refine a_asg (t_var (a_nx (r_seqN (r_seq (r_for (i_range (r_econs (r_prim1 ?_)))))))); refine' r_var ?wa ?_; (case wa => assumption); refine a_p1 ?_; refine' p_lenL ?wa ?_; (case wa => assumption); refine a_cons1 (r_pures rfl (a_cons2 ?_)))
  refine law_loop (m := m + 196) (lm := upd (upd lm 19 (.obj kg)) 20 (.obj σ₁.length)) (ex := []) (first := φ 0) (fin := φ 1) (lo := lo) T l2 l7 rfl rfl hS1 ok hv1 (by rw [List.append_nil]; exact e1) hw1 hlo nv (by unfold symM; (first | lia | omega)) (fun p hp => (hok p hp).1) (fun p hp => (hok p hp).2) hc (by (first | lia | omega)) fun lm' τ hlm s2 F2 e2 => ?_
  have m4 : lm' 4 = some .none := (hlm 4 (by decide) (by decide) (by decide)).trans l4
  have m20 : lm' 20 = some (.obj σ₁.length) := hlm 20 (by decide) (by decide) (by decide)
  have m18 : lm' 18 = some (Tm.v (φ 1)).pv := (hlm 18 (by decide) (by decide) (by decide)).trans l18
  have m13 : lm' 13 = some rule.pv := (hlm 13 (by decide) (by decide) (by decide)).trans l13
  rw [htx, ← List.cons_append, List.map_append] at e2
  have hla : (List.map vpv (φ 0 :: (ix b 2).map φ) ++ List.map vpv [φ 1]).getLast? = some (vpv (φ 1)) := List.getLast?_concat
  have hdl : (List.map vpv (φ 0 :: (ix b 2).map φ) ++ List.map vpv [φ 1]).dropLast = List.map vpv (φ 0 :: (ix b 2).map φ) := List.dropLast_concat
  have heq := eqS_refl (τ.set σ₁.length (.list (List.map vpv (φ 0 :: (ix b 2).map φ)))) (.v (φ 1)) (by simp [Tm.dep])
  have heq : eqS (τ.set σ₁.length (.list (List.map vpv (φ 0 :: (ix b 2).map φ)))) (vpv (φ 1)) (Tm.v (φ 1)).pv = some true := heq
  rw [← hdl] at heq
  have hin : (List.map vpv (φ 0 :: (ix b 2).map φ)).length < big := by have := ix_len b 2; simp [big]; (first | lia | omega)
  rw [← hdl] at hin
  (refine r_seqN (r_seq (r_site (r_te (r_prim2 ?_)))); refine' r_var ?wa ?_; (case wa => assumption); refine a_p2 (r_none (a_p2b (p_is (r_truB ?_)))); refine a_siteT ?wa ?_; (case wa => (simp only [decide_eq_true_eq, decide_eq_false_iff_not, Bool.not_eq_true, Bool.not_eq_true', Bool.not_eq_false, Bool.not_eq_false', decide_not, Bool.not_not, Bool.and_false, Bool.false_and, Bool.or_false, Bool.false_or, Bool.true_and, Bool.and_true, Bool.false_eq_true, Bool.and_eq_true, Bool.or_eq_true, not_true_eq_false, not_false_eq_true]; done)); refine r_seq (r_site (r_te (r_prim2 (r_bm ?_)))); refine' r_var ?wa ?_; (case wa => assumption); refine a_bm ?wa ?_; (case wa => (refine' bmOk_list ?wz (by intro e; cases e); (case wz => assumption))); refine r_pures rfl (a_bm2 ?_); refine' b_pop ?wa ?wb ?_; (case wa => assumption); (case wb => with_reducible assumption); refine a_p2 ?_; refine' r_var ?wa ?_; (case wa => assumption); refine a_p2b ?_; refine' p_ne ?wa ?_; (case wa => with_reducible assumption); refine r_truB ?_; refine a_siteF ?wa ?_; (case wa => decide); refine r_skip (r_seqN (r_skip (r_seqN (r_seq (r_expr (r_bm ?_)))))); refine' r_var ?wa ?_; (case wa => assumption); refine a_bm ?wa ?_; (case wa => (refine' bmOk_list ?wz (by intro e; cases e); (case wz => (refine get_set_eq (o := ?_) ?_; rotate_left; assumption)))); refine r_econs ?_; refine' r_var ?wa ?_; (case wa => assumption); refine a_cons1 (r_pures rfl (a_cons2 (a_bm2 ?_))); refine' b_append ?wa ?wb ?_; (case wa => (refine get_set_eq (o := ?_) ?_; rotate_left; assumption)); (case wb => assumption); refine a_exp (r_seqN ?_))
  rw [hdl]
  have en : List.map vpv (φ 0 :: (ix b 2).map φ) ++ [(Tm.v (φ 1)).pv] = (([0] ++ ix b 2 ++ [1]).map φ).map vpv := by simp [vpv]
  rw [en]
  have hnd : ([0] ++ ix b 2 ++ [1]).Nodup := by
    have h1 := ix_nodup b 2
    have h2 := ix_ge b 2
    rw [List.nodup_append, List.nodup_append]
    refine ⟨⟨by simp, h1, fun a ha x hx e => ?_⟩, by simp, fun a ha x hx e => ?_⟩
    · have := h2 x hx; simp at ha; (first | lia | omega)
    · rw [List.mem_append] at ha
      rcases ha with ha | ha
      · simp at ha hx; (first | lia | omega)
      · have := h2 a ha; simp at hx; (first | lia | omega)
  have Fin : Fr (symM k) σ ((τ.set σ₁.length (.list (List.map vpv (φ 0 :: (ix b 2).map φ)))).set σ₁.length (.list ((([0] ++ ix b 2 ++ [1]).map φ).map vpv))) := (((fr_no F1).trans F2).setNew F1.len).setNew F1.len
  refine law_fin (m := m + 99) T m20 m13 (get_set_eq (get_set_eq e2)) (nodup_map hφ hnd) ?_ ?_ rs fun σ' F' => q σ' (Fin.trans (fr_no F'))
  · have := ix_len b 2; simp; (first | lia | omega)
  · intro n hn
    obtain ⟨i, _, rfl⟩ := List.mem_map.mp hn
    exact hr i
theorem mid_some (T : Tab2 P) {lm : LM} {b : Bd} {rule : Tm} {φ : Nat → Int} {kv lo : Nat} {vs : List PV} {its : List Tm} {kb : Nat} (l2 : lm 2 = some (.obj k)) (l4 : lm 4 = some (.obj kb)) (l7 : lm 7 = some (.obj kv)) (l13 : lm 13 = some rule.pv)
    (l16 : lm 16 = some (Tm.s 1 [G S φ b (.v (φ 0)) (.v (φ 2)) 3, .s 10 [.v (φ 1), listT its (.v (φ 2))]]).pv) (l17 : lm 17 = some (Tm.v (φ 0)).pv) (l18 : lm 18 = some (Tm.v (φ 1)).pv)
    (hS : SymAt σ k S) (ok : Sok S) (z : S0.le S) (bo : TrOk S b) (hb : b.has S) (bs : b.tm.size ≤ 45) (bd : b.dp ≤ 100) (hφ : ∀ i j, φ i = φ j → i = j) (hr : ∀ i, φ i ∉ rule.vars) (rs : rule.size ≤ 100)
    (hv : σ[kv]? = some (.list vs)) (hw : WtsAt σ lo b.ws vs) (hlo : k + 4 < lo) (nv : ¬ symM k kv) (hbk : σ[kb]? = some (.list (Tm.pvs its))) (nb : ¬ symM k kb) (hi : Tm.depL its = 0) (hil : its.length ≤ 3) (q : ∀ σ', Fr (symM k) σ σ' → Q (.bool true) σ') : wps (wpCall P (m + 200)) P t20 lm σ (retK Q) := by
  have T' : TabP P := T.toTabP
  have hbig1 : (1 : Nat) ≤ big := by decide
  have hbig2 : (2 : Nat) ≤ big := by decide
  have hbig3 : (3 : Nat) ≤ big := by decide
  have ht := bo.tree
  dsimp only [t20, b_449, MS.tl, MS.pre]
  (refine r_seq (r_assign (r_call (r_econs ?_))); refine' r_var ?wa ?_; (case wa => assumption); refine a_cons1 (r_pures rfl (a_cons2 (a_call ?_))))
  have go2 : GoS P (m + 200) (Tm.s 1 [G S φ b (.v (φ 0)) (.v (φ 2)) 3, .s 10 [.v (φ 1), listT its (.v (φ 2))]]) (gls S φ b (.v (φ 0)) (.v (φ 2)) 3 ++ [.s 10 [.v (φ 1), listT its (.v (φ 2))]]) :=
    go_two (m := m + 199) T (goals_S T ok z b ht hb (by (first | lia | omega)) (m + 199) (by (first | lia | omega)) _ _ _) (go_one (m := m + 198) T fun l e => by injection e with e _; exact absurd e (by decide)) (by have := @gls_len S φ b (.v (φ 0)) (.v (φ 2)) 3; simp [big]; (first | lia | omega))
  refine go2 _ _ fun σ₁ kg F1 hkg e1 => ?_
  rw [tr_gls S φ b _ _ _ ht] at e1
  rw [← tr_ws φ b (φ 0) (φ 2) 3] at hw
  have hc := tr_ch φ b (φ 0) (φ 2) 3 ht
  have htx := tr_txs φ b (φ 0) (φ 2) 3 ht
  have hok := tr_ok φ b (φ 0) (φ 2) 3 bo hb
  have hl := tr_len φ b (φ 0) (φ 2) 3
  have hvl := hw.len
  rw [List.length_map] at hvl
  generalize tr φ b (φ 0) (φ 2) 3 = tl at *
  have hv1 := F1.at' _ _ hv id
  have hS1 := sym_no hS F1
  have hw1 := hw.frame F1 (fun _ _ _ => id)
  have klen := (List.getElem?_eq_some_iff.mp hS.fd).1
  have hgl : ¬ (!decide ((((Tm.pvs (tl.map (dueP S) ++ [.s 10 [.v (φ 1), listT its (.v (φ 2))]])).length : Nat) : Int) = ((vs.length : Nat) : Int) + 1)) = true := by rw [Tm.pvs_len, List.length_append, List.length_map, hvl]; simp
  have hv1' : (σ₁ ++ [AObj.list [(Tm.v (φ 0)).pv]])[kv]? = some (.list vs) := get_app hv1
  (refine a_asg (t_var (a_nx (r_seqN (r_seq (r_site (r_te (r_prim2 (r_primP rfl ?_)))))))); refine' p_lenL ?wa ?_; (case wa => assumption); refine a_p2 (r_prim2 (r_prim1 ?_)); refine' r_var ?wa ?_; (case wa => assumption); refine a_p1 ?_; refine' p_lenL ?wa ?_; (case wa => assumption); refine a_p2 (r_ite (r_te (r_prim2 ?_))); refine' r_var ?wa ?_; (case wa => assumption); refine a_p2 (r_none (a_p2b (p_is (r_truB ?_)))); refine a_iteF ?wa ?_; (case wa => (simp only [decide_eq_true_eq, decide_eq_false_iff_not, Bool.not_eq_true, Bool.not_eq_true', Bool.not_eq_false, Bool.not_eq_false', decide_not, Bool.not_not, Bool.and_false, Bool.false_and, Bool.or_false, Bool.false_or, Bool.true_and, Bool.and_true, Bool.false_eq_true, Bool.and_eq_true, Bool.or_eq_true, not_true_eq_false, not_false_eq_true]; intro h; cases h)); refine r_int (a_p2b (p_addI (a_p2b (p_ne rfl (r_truB ?_))))); refine a_siteF ?wa ?_; (case wa => assumption); refine r_skip (r_seqN (r_seq (r_assign (r_list (r_econs ?_))))); refine' r_var ?wa ?_; (case wa => assumption); refine a_cons1 (r_pures rfl (a_cons2 ?_)); refine a_list ?wa ?_; (case wa => assumption); refine a_asg (t_var (a_nx (r_seqN (r_seq (r_for (i_range (r_econs (r_prim1 ?_)))))))); refine' r_var ?wa ?_; (case wa => assumption); refine a_p1 ?_; refine' p_lenL ?wa ?_; (case wa => assumption); refine a_cons1 (r_pures rfl (a_cons2 ?_)))
  refine law_loop (m := m + 196) (lm := upd (upd lm 19 (.obj kg)) 20 (.obj σ₁.length)) (ex := [.s 10 [.v (φ 1), listT its (.v (φ 2))]]) (first := φ 0) (fin := φ 2) (lo := lo) T l2 l7 rfl rfl hS1 ok hv1 e1 hw1 hlo nv (by unfold symM; (first | lia | omega)) (fun p hp => (hok p hp).1) (fun p hp => (hok p hp).2) hc (by (first | lia | omega)) fun lm' τ hlm s2 F2 e2 => ?_
  have m19 : lm' 19 = some (.obj kg) := hlm 19 (by decide) (by decide) (by decide)
  have m4 : lm' 4 = some (.obj kb) := (hlm 4 (by decide) (by decide) (by decide)).trans l4
  have m20 : lm' 20 = some (.obj σ₁.length) := hlm 20 (by decide) (by decide) (by decide)
  have m18 : lm' 18 = some (Tm.v (φ 1)).pv := (hlm 18 (by decide) (by decide) (by decide)).trans l18
  have m13 : lm' 13 = some rule.pv := (hlm 13 (by decide) (by decide) (by decide)).trans l13
  rw [htx, ← List.cons_append, List.map_append] at e2
  have il : pyIdx (List.map vpv (φ 0 :: (ix b 3).map φ) ++ List.map vpv [φ 2]) (-1) = some (Tm.v (φ 2)).pv := pyIdx_last _ _
  have eg2 := F2.at' _ _ e1 (by unfold symM; (first | lia | omega))
  have eb2 := F2.at' _ _ (F1.at' _ _ hbk id) nb
  have ig : pyIdx (Tm.pvs (tl.map (dueP S) ++ [.s 10 [.v (φ 1), listT its (.v (φ 2))]])) (-1) = some (Tm.s 10 [.v (φ 1), listT its (.v (φ 2))]).pv := by rw [Tm.pvs_app]; exact pyIdx_last _ _
  have hdp : (Tm.s 10 [.v (φ 1), listT its (.v (φ 2))]).dep ≤ 29 := by
    have := listT_dep (.v (φ 2)) its hi
    simp only [Tm.dep, Tm.depL] at this ⊢; (first | lia | omega)
  (refine r_seqN (r_seq (r_site (r_te (r_prim2 ?_)))); refine' r_var ?wa ?_; (case wa => assumption); refine a_p2 (r_none (a_p2b (p_is (r_truB ?_)))); refine a_siteF ?wa ?_; (case wa => (simp only [decide_eq_true_eq, decide_eq_false_iff_not, Bool.not_eq_true, Bool.not_eq_true', Bool.not_eq_false, Bool.not_eq_false', decide_not, Bool.not_not, Bool.and_false, Bool.false_and, Bool.or_false, Bool.false_or, Bool.true_and, Bool.and_true, Bool.false_eq_true, Bool.and_eq_true, Bool.or_eq_true, not_true_eq_false, not_false_eq_true]; intro h; cases h)); refine r_seq (r_site (r_te (r_prim2 (r_prim2 ?_)))); refine' r_var ?wa ?_; (case wa => assumption); refine a_p2 (r_int (a_p2b ?_)); refine' p_idxL ?wa ?wb ?_; (case wa => assumption); (case wb => with_reducible assumption); refine a_p2 (r_tup (r_econs (r_str (a_cons1 (r_econs (r_int (a_cons1 (r_econs (r_tup ?_))))))))); refine r_econs ?_; refine' r_var ?wa ?_; (case wa => assumption); refine a_cons1 (r_econs (r_call (r_econs ?_))); refine' r_var ?wa ?_; (case wa => assumption); refine a_cons1 (r_econs (r_prim2 ?_)); refine' r_var ?wa ?_; (case wa => assumption); refine a_p2 (r_int (a_p2b ?_)); refine' p_idxL ?wa ?wb ?_; (case wa => assumption); (case wb => with_reducible assumption); refine a_cons1 (r_pures rfl (a_cons2 (a_cons2 (a_call ?_)))))
  refine law_list_S (m := m + 199) (e := .v (φ 2)) T eb2 fun τ₂ F3 => ?_
  have heq : eqS τ₂ (Tm.s 10 [.v (φ 1), listT its (.v (φ 2))]).pv (.tup [.str "s", .int 10, .tup [(Tm.v (φ 1)).pv, (listT its (.v (φ 2))).pv]]) = some true := eqS_refl τ₂ _ hdp
  have e3 := F3.at' _ _ e2 id
  have hin : (List.map vpv (φ 0 :: (ix b 3).map φ) ++ List.map vpv [φ 2]).length < big := by have := ix_len b 3; simp [big]; (first | lia | omega)
  (refine a_cons1 (r_pures rfl (a_cons2 (a_cons2 ?_))); refine a_tup ?wa ?_; (case wa => assumption); refine a_cons1 (r_pures rfl (a_cons2 (a_cons2 (a_cons2 ?_)))); refine a_tup ?wa ?_; (case wa => assumption); refine a_p2b ?_; refine' p_ne ?wa ?_; (case wa => with_reducible assumption); refine r_truB ?_; refine a_siteF ?wa ?_; (case wa => decide); refine r_skip (r_seqN (r_skip (r_seqN (r_seq (r_expr (r_bm ?_)))))); refine' r_var ?wa ?_; (case wa => assumption); refine a_bm ?wa ?_; (case wa => (refine' bmOk_list ?wz (by intro e; cases e); (case wz => assumption))); refine r_econs ?_; refine' r_var ?wa ?_; (case wa => assumption); refine a_cons1 (r_pures rfl (a_cons2 (a_bm2 ?_))); refine' b_append ?wa ?wb ?_; (case wa => assumption); (case wb => assumption); refine a_exp (r_seqN ?_))
  have en : (List.map vpv (φ 0 :: (ix b 3).map φ) ++ List.map vpv [φ 2]) ++ [(Tm.v (φ 1)).pv] = (([0] ++ ix b 3 ++ [2, 1]).map φ).map vpv := by simp [vpv]
  rw [en]
  have hnd : ([0] ++ ix b 3 ++ [2, 1]).Nodup := by
    have h1 := ix_nodup b 3
    have h2 := ix_ge b 3
    rw [List.nodup_append, List.nodup_append]
    refine ⟨⟨by simp, h1, fun a ha x hx e => ?_⟩, by simp, fun a ha x hx e => ?_⟩
    · have := h2 x hx; simp at ha; (first | lia | omega)
    · rw [List.mem_append] at ha
      rcases ha with ha | ha
      · simp at ha hx; (first | lia | omega)
      · have := h2 a ha; simp at hx; (first | lia | omega)
  have Fin : Fr (symM k) σ (τ₂.set σ₁.length (.list ((([0] ++ ix b 3 ++ [2, 1]).map φ).map vpv))) := (((fr_no F1).trans F2).trans (fr_no F3)).setNew F1.len
  refine law_fin (m := m + 99) T m20 m13 (get_set_eq e3) (nodup_map hφ hnd) ?_ ?_ rs fun σ' F' => q σ' (Fin.trans (fr_no F'))
  · have := ix_len b 3; simp; (first | lia | omega)
  · intro n hn
    obtain ⟨i, _, rfl⟩ := List.mem_map.mp hn
    exact hr i
end
noncomputable def t15 : MS := MS.pre 5 (MS.tl 15 b_449) t20
section
variable {P : Pg} {σ σ' : St} {k m kp : Nat} {S : Sym} {Q : SQ}
theorem top_S (T : Tab2 P) {lm : LM} {hb : Bd} {body : Tm} {φ : Nat → Int} (l2 : lm 2 = some (.obj k)) (l3 : lm 3 = some hb.tm.pv) (l14 : lm 14 = some (Tm.s 5 [G S φ hb (.v (φ 0)) (.v (φ 1)) 0, body]).pv)
    (hS : SymAt σ k S) (ok : Sok S) (nm : NmOk S hb) (hh : hb.has S)
    (q : ∀ lm' σ', (∀ j, j < 15 → lm' j = lm j) → lm' 16 = some body.pv → lm' 17 = some (Tm.v (φ 0)).pv → lm' 18 = some (Tm.v (φ 1)).pv → SymAt σ' k S → Fr (symM k) σ σ' → wps (wpCall P (m + 3)) P t20 lm' σ' Q) : wps (wpCall P (m + 3)) P t15 lm σ Q := by
  have T' : TabP P := T.toTabP
  have hbig1 : (1 : Nat) ≤ big := by decide
  have hbig2 : (2 : Nat) ≤ big := by decide
  have hbig3 : (3 : Nat) ≤ big := by decide
  obtain ⟨f, l, e, el⟩ : ∃ f l, G S φ hb (.v (φ 0)) (.v (φ 1)) 0 = .s f (l ++ [.v (φ 0), .v (φ 1)]) ∧ Tm.depL l = 0 := by
    have h1 := nm.head
    have h2 := nm.dep
    cases hb <;> try exact h1.elim
    · exact ⟨_, [], rfl, rfl⟩
    · refine ⟨_, _, rfl, ?_⟩
      simp only [Bd.tm, Tm.dep] at h2; (first | lia | omega)
  have ed : dueT S (.more hb) (.v (φ 0)) (.v (φ 1)) = G S φ hb (.v (φ 0)) (.v (φ 1)) 0 := by
    have h1 := nm.head
    cases hb <;> first | exact h1.elim | rfl
  have epv : (Tm.s f (l ++ [.v (φ 0), .v (φ 1)])).pv = .tup [.str "s", .int f, .tup (Tm.pvs l ++ [(Tm.v (φ 0)).pv, (Tm.v (φ 1)).pv])] := by simp only [Tm.pv, Tm.pvs_app, Tm.pvs]
  have e5 : (Tm.s 5 [G S φ hb (.v (φ 0)) (.v (φ 1)) 0, body]).pv = .tup [.str "s", .int 5, .tup [.tup [.str "s", .int f, .tup (Tm.pvs l ++ [(Tm.v (φ 0)).pv, (Tm.v (φ 1)).pv])], body.pv]] := by
    rw [e, ← epv]; simp only [Tm.pv, Tm.pvs]
  rw [e5] at l14
  have hl2 : 2 ≤ (Tm.pvs l ++ [(Tm.v (φ 0)).pv, (Tm.v (φ 1)).pv]).length := by simp
  have hdr : (Tm.pvs l ++ [(Tm.v (φ 0)).pv, (Tm.v (φ 1)).pv]).drop ((Tm.pvs l ++ [(Tm.v (φ 0)).pv, (Tm.v (φ 1)).pv]).length - 2) = [(Tm.v (φ 0)).pv, (Tm.v (φ 1)).pv] := by simp
  dsimp only [t15, b_449, MS.tl, MS.pre]
  (refine r_seq (r_site (r_tor (r_te (r_prim2 (r_prim2 ?_))))); refine' r_var ?wa ?_; (case wa => assumption); refine a_p2 (r_int (a_p2b (p_idxT rfl rfl (a_p2 (r_str (a_p2b (p_ne rfl (r_truB ?_)))))))); refine a_orF ?wa ?_; (case wa => decide); refine r_te (r_prim2 (r_prim2 ?_)); refine' r_var ?wa ?_; (case wa => assumption); refine a_p2 (r_int (a_p2b (p_idxT rfl rfl (a_p2 (r_int (a_p2b (p_ne rfl (r_truB ?_)))))))); refine a_siteF ?wa ?_; (case wa => decide); refine r_skip (r_seqN (r_seq (r_assign (r_prim2 ?_)))); refine' r_var ?wa ?_; (case wa => assumption); refine a_p2 (r_int (a_p2b (p_idxT rfl rfl (a_asg (t_tup rfl rfl (a_nx (r_seqN (r_seq (r_site ?_))))))))); refine r_te (r_prim2 (r_primP rfl (p_lenT rfl (a_p2 (r_int (a_p2b (p_lt (r_truB ?_)))))))); refine a_siteF ?wa ?_; (case wa => (simp only [decide_eq_true_eq, decide_eq_false_iff_not, Bool.not_eq_true, Bool.not_eq_true', Bool.not_eq_false, Bool.not_eq_false', decide_not, Bool.not_not, Bool.and_false, Bool.false_and, Bool.or_false, Bool.false_or, Bool.true_and, Bool.and_true, Bool.false_eq_true, Bool.and_eq_true, Bool.or_eq_true, not_true_eq_false, not_false_eq_true]; (first | lia | omega))); refine r_skip (r_seqN (r_seq (r_assign (r_primP rfl ?_)))); refine' p_cut2 ?wa ?wb ?_; (case wa => rfl); (case wb => assumption); refine a_asg ?_)
  rw [hdr]
  (refine t_tup rfl rfl (a_nx (r_seqN (r_seq (r_site (r_te (r_prim2 (r_var rfl (a_p2 (r_call ?_))))))))); refine r_econs ?_; refine' r_var ?wa ?_; (case wa => assumption); refine a_cons1 (r_econs (r_tup (r_econs (r_str (a_cons1 (r_econs ?_)))))); refine' r_var ?wa ?_; (case wa => assumption); refine a_cons1 (r_pures rfl (a_cons2 (a_cons2 ?_))); refine a_tup ?wa ?_; (case wa => assumption); refine a_cons1 (r_pures rfl (a_cons2 (a_cons2 (a_call ?_)))))
  refine due_S (m := m) (w := .more hb) (lo := 0) (x := .v (φ 0)) (y := .v (φ 1)) T hS ok (fun g e => nomatch e) rfl ⟨nm.head, nm.ok, hh⟩ fun σ₁ s1 F1 => ?_
  rw [ed, e]
  have heq : eqS σ₁ (.tup [.str "s", .int f, .tup (Tm.pvs l ++ [(Tm.v (φ 0)).pv, (Tm.v (φ 1)).pv])]) (Tm.s f (l ++ [.v (φ 0), .v (φ 1)])).pv = some true := by
    rw [← epv]
    refine eqS_refl σ₁ _ ?_
    simp only [Tm.dep]
    rw [depL_app, el]
    simp [Tm.depL, Tm.dep]
  (refine a_p2b ?_; refine' p_ne ?wa ?_; (case wa => with_reducible assumption); refine r_truB ?_; refine a_siteF ?wa ?_; (case wa => decide); refine r_skip (r_seqN ?_))
  refine q _ σ₁ (fun j hj => ?_) rfl rfl rfl s1 F1
  have h1 : j ≠ 15 := by (first | lia | omega)
  have h2 : j ≠ 16 := by (first | lia | omega)
  have h3 : j ≠ 17 := by (first | lia | omega)
  have h4 : j ≠ 18 := by (first | lia | omega)
  simp only [upd, h1, h2, h3, h4, if_false]
end
structure InOk (S : Sym) (b : Bd) : Prop where
  tr : TrOk S b
  ok : b.ok S
noncomputable def szL (l : List Bd) : Nat := (l.map fun b => b.tm.size + 1).sum
theorem sqB_ok {S : Sym} : ∀ {l : List Bd}, l ≠ [] → (∀ b ∈ l, InOk S b) → InOk S (sqB l) ∧ (sqB l).tm.size + 1 ≤ szL l ∧ (sqB l).ws = l.flatMap Bd.ws
  | [b], _, h => ⟨h b (by simp), by simp [sqB, szL], by simp [sqB]⟩
  | b :: c :: r, _, h => by
    obtain ⟨h1, h2, h3⟩ := sqB_ok (l := c :: r) (by simp) (fun x hx => h x (List.mem_cons_of_mem _ hx))
    have hb := h b (by simp)
    refine ⟨⟨⟨rfl, hb.tr, h1.tr⟩, ⟨rfl, hb.ok, h1.ok⟩⟩, ?_, ?_⟩
    · simp only [sqB, Bd.tm, Tm.size, Tm.sizeL]
      have e : szL (b :: c :: r) = b.tm.size + 1 + szL (c :: r) := by simp [szL]
      (first | lia | omega)
    · rw [sqB, Bd.ws, h3]; simp
theorem szL_ge : ∀ l : List Bd, l.length ≤ szL l
  | [] => Nat.zero_le _
  | b :: r => by have := szL_ge r; simp only [szL, List.map_cons, List.sum_cons, List.length_cons] at this ⊢; (first | lia | omega)
theorem szL_app (l r : List Bd) : szL (l ++ r) = szL l + szL r := by simp [szL]
theorem dp_le : ∀ b : Bd, b.dp ≤ b.tm.size
  | .seq _ l r => by have := dp_le l; have := dp_le r; simp only [Bd.dp, Bd.tm, Tm.size, Tm.sizeL]; (first | lia | omega)
  | .lst _ => Nat.zero_le _ | .nil => Nat.zero_le _ | .cut => Nat.zero_le _ | .atom _ => Nat.zero_le _ | .cmp _ _ _ => Nat.zero_le _ | .curly _ => Nat.zero_le _ | .var _ => Nat.zero_le _
theorem LfOk.inn {S : Sym} {b : Bd} (h : LfOk S b) : InOk S b := by
  refine ⟨?_, h.ok⟩
  cases b <;> first | exact h | exact h.leaf.elim
noncomputable def PsOk2 : Option (List Tm) → Prop
  | none => True
  | some its => ItOk its ∧ its.length ≤ 3
noncomputable def BackAt (σ : St) (k : Nat) (p : Option (List Tm)) (v : PV) : Prop := match p with
  | none => v = .none
  | some its => ∃ kb, v = .obj kb ∧ k + 4 < kb ∧ σ[kb]? = some (.list (Tm.pvs its))
theorem BackAt.frame {σ σ' : St} {k kp : Nat} {p : Option (List Tm)} {v : PV} (h : BackAt σ k p v) (F : Fr (MM k kp) σ σ') (hk : kp < k) : BackAt σ' k p v := by
  cases p with
  | none => exact h
  | some its =>
    obtain ⟨kb, a, b, c⟩ := h
    exact ⟨kb, a, b, F.at' _ _ c (by unfold MM symM; (first | lia | omega))⟩
noncomputable def t13 : MS := MS.pre 2 (MS.tl 13 b_449) t15
noncomputable def t11 : MS := MS.pre 2 (MS.tl 11 b_449) t13
noncomputable def t8 : MS := MS.pre 3 (MS.tl 8 b_449) t11
section
variable {P : Pg} {σ σ' : St} {k m kp : Nat} {S : Sym} {Q : EQ}
theorem t13_S (T : Tab2 P) {lm : LM} {hb : Bd} {p : Option (List Tm)} {inn : List Bd} {kv kI lo : Nat} {vs : List PV} {bk : PV} (l1 : lm 1 = some (.obj kp)) (l2 : lm 2 = some (.obj k)) (l3 : lm 3 = some hb.tm.pv) (l4 : lm 4 = some bk) (l7 : lm 7 = some (.obj kv)) (l11 : lm 11 = some (.obj kI)) (l12 : lm 12 = some (headT hb p).pv)
    (h : W2 σ k kp S) (nm : NmOk S hb) (ps : PsOk2 p) (hbk : BackAt σ k p bk) (hne : inn ≠ []) (hin : ∀ b ∈ inn, InOk S b) (hsz : szL inn ≤ 40) (hI : σ[kI]? = some (.list (inn.map bpv)))
    (hv : σ[kv]? = some (.list vs)) (hkv : k + 4 < kv) (hw : WtsAt σ lo (inn.flatMap Bd.ws) vs) (hlo : k + 4 < lo) (q : ∀ σ', Fr (MM k kp) σ σ' → Q (.bool true) σ') : wps (wpCall P (m + 200)) P t13 lm σ (retK Q) := by
  have T' : TabP P := T.toTabP
  have hbig2 : (2 : Nat) ≤ big := by decide
  have hbig3 : (3 : Nat) ≤ big := by decide
  obtain ⟨bo, bs, bw⟩ := sqB_ok hne hin
  have bd := dp_le (sqB inn)
  have hkp := h.h
  dsimp only [t13, b_449, MS.tl, MS.pre]
  (refine r_seq (r_assign (r_tup (r_econs (r_str (a_cons1 (r_econs (r_int (a_cons1 (r_econs ?_))))))))); refine r_tup (r_econs ?_); refine' r_var ?wa ?_; (case wa => assumption); refine a_cons1 (r_econs (r_call (r_econs ?_))); refine' r_var ?wa ?_; (case wa => assumption); refine a_cons1 (r_pures rfl (a_cons2 (a_call ?_))))
  refine side_S (m := m + 199) T hne hI fun σ₁ F1 => ?_
  have h1 := h.no F1
  generalize sqB inn = b at *
  have hrule : (.tup [.str "s", .int 8, .tup [(headT hb p).pv, b.tm.pv]] : PV) = (Tm.s 8 [headT hb p, b.tm]).pv := by simp only [Tm.pv, Tm.pvs]
  have hrs : (Tm.s 8 [headT hb p, b.tm]).size ≤ 100 := by
    have := nm.size
    cases p with
    | none => simp only [headT, Tm.size, Tm.sizeL]; (first | lia | omega)
    | some its =>
      have e := ps.2
      have f := ps.1.1
      simp only [headT, Tm.size, Tm.sizeL, listT_size]; (first | lia | omega)
  (refine a_cons1 (r_pures rfl (a_cons2 (a_cons2 ?_))); refine a_tup ?wa ?_; (case wa => assumption); refine a_cons1 (r_pures rfl (a_cons2 (a_cons2 (a_cons2 ?_)))); refine a_tup ?wa ?_; (case wa => assumption); refine a_asg (t_var (a_nx (r_seqN (r_seq (r_assign (r_call (r_econs ?_))))))); refine' r_var ?wa ?_; (case wa => assumption); refine a_cons1 (r_econs (r_var rfl (a_cons1 (r_econs (r_new (r_econs (r_call (r_econs ?_)))))))); refine' r_var ?wa ?_; (case wa => assumption); refine a_cons1 (r_pures rfl (a_cons2 (a_call ?_))))
  rw [hrule]
  refine chooseW (m := m + 199) T h1 (by (first | lia | omega)) fun r σ₂ r0 r1 h2 F2 => ?_
  (refine a_cons1 (r_pures rfl (a_cons2 ?_)); refine' r_newK ?wa ?_; (case wa => exact TabP.i290 (by assumption)))
  refine freshInit_S T' get_new ?_
  have F3 : Fr (fun _ => False) σ₂ ((σ₂ ++ [AObj.inst 290 []]).set σ₂.length (.inst 290 [(4, .int r)])) := (Fr.new _).setNew (Nat.le_refl _)
  have hf : ((σ₂ ++ [AObj.inst 290 []]).set σ₂.length (.inst 290 [(4, .int r)]))[σ₂.length]? = some (.inst 290 [(4, .int r)]) := get_set_eq get_new
  refine a_new (a_cons1 (r_pures rfl (a_cons2 (a_cons2 (a_cons2 (a_call ?_))))))
  generalize ((σ₂ ++ [AObj.inst 290 []]).set σ₂.length (.inst 290 [(4, .int r)])) = τ at *
  have len2 := h2.len
  refine trans_S (m := m + 199) T' (sym_no h2.s F3) h2.o h2.z nm.head nm.ok bo.ok (fun l e => by subst e; have := ps.2; (first | lia | omega)) (by (first | lia | omega)) (by (first | lia | omega)) hf (by (first | lia | omega)) (by (first | lia | omega)) fun S' U σ₃ l hh' hb' s3 o3 F4 hU => ?_
  have F5 : Fr (symM k) σ₂ σ₃ := ⟨Nat.le_trans F3.len F4.len, fun j o e n => F4.at' j o (F3.at' j o e id) (by have := (List.getElem?_eq_some_iff.mp e).1; unfold MM; intro hm; rcases hm with hm | hm; exact n hm; (first | lia | omega))⟩
  have F6 : Fr (MM k kp) σ σ₃ := ((fr_no F1).trans F2).trans (fr_sym F5)
  have hφ : ∀ i j, φt U r i = φt U r j → i = j := fun i j e => by
    rcases Nat.lt_trichotomy i j with h | h | h
    · have := phi_lt U r h; (first | lia | omega)
    · exact h
    · have := phi_lt U r h; (first | lia | omega)
  have hr : ∀ i, φt U r i ∉ (Tm.s 8 [headT hb p, b.tm]).vars := fun i hm => free_not U _ (hU _ hm)
  have tle : TrOk S' b := by
    have : ∀ {b : Bd}, TrOk S b → TrOk S' b := by
      intro b
      induction b with
      | seq f x y ix iy => exact fun h => ⟨h.1, ix h.2.1, iy h.2.2⟩
      | _ => exact fun h => LfOk.le h l
    exact this bo.tr
  have hv3 := F6.at' _ _ hv (by unfold MM symM; (first | lia | omega))
  rw [← bw] at hw
  have hw3 := hw.frame F6 (fun j a _ => by unfold MM symM; (first | lia | omega))
  have hbk3 := hbk.frame F6 hkp
  generalize φt U r = φ at *
  refine a_asg (t_var (a_nx (r_seqN ?_)))
  cases p with
  | none =>
    have hbk3 : bk = .none := hbk3
    subst hbk3
    refine top_S (m := m + 197) (hb := hb) (body := G S' φ b (.v (φ 0)) (.v (φ 1)) 2) (φ := φ) T l2 l3 rfl s3 o3 (nm.le l) hh' fun lm' σ₄ hlm e16 e17 e18 s4 F7 => ?_
    exact mid_none T ((hlm 2 (by decide)).trans l2) ((hlm 4 (by decide)).trans l4) ((hlm 7 (by decide)).trans l7) (rule := Tm.s 8 [headT hb none, b.tm]) ((hlm 13 (by decide)).trans rfl) e16 e17 e18 s4 o3 (h2.z.trans l) tle hb' (by (first | lia | omega)) (by (first | lia | omega)) hφ hr hrs (F7.at' _ _ hv3 (by unfold symM; (first | lia | omega))) (hw3.frame F7 (fun j a _ => by unfold symM; (first | lia | omega))) hlo (by unfold symM; (first | lia | omega)) fun σ' F8 => q σ' ((F6.trans (fr_sym F7)).trans (fr_sym F8))
  | some its =>
    obtain ⟨kb, rfl, hkb, ekb⟩ := hbk3
    refine top_S (m := m + 197) (hb := hb) (body := .s 1 [G S' φ b (.v (φ 0)) (.v (φ 2)) 3, .s 10 [.v (φ 1), listT its (.v (φ 2))]]) (φ := φ) T l2 l3 rfl s3 o3 (nm.le l) hh' fun lm' σ₄ hlm e16 e17 e18 s4 F7 => ?_
    exact mid_some T ((hlm 2 (by decide)).trans l2) ((hlm 4 (by decide)).trans l4) ((hlm 7 (by decide)).trans l7) (rule := Tm.s 8 [headT hb (some its), b.tm]) ((hlm 13 (by decide)).trans rfl) e16 e17 e18 s4 o3 (h2.z.trans l) tle hb' (by (first | lia | omega)) (by (first | lia | omega)) hφ hr hrs (F7.at' _ _ hv3 (by unfold symM; (first | lia | omega))) (hw3.frame F7 (fun j a _ => by unfold symM; (first | lia | omega))) hlo (by unfold symM; (first | lia | omega)) (F7.at' _ _ ekb (by unfold symM; (first | lia | omega))) (by unfold symM; (first | lia | omega)) ps.1.2 ps.2 fun σ' F8 => q σ' ((F6.trans (fr_sym F7)).trans (fr_sym F8))
theorem t11_S (T : Tab2 P) {lm : LM} {hb : Bd} {p : Option (List Tm)} {inn : List Bd} {kv kI lo : Nat} {vs : List PV} {bk : PV} (l1 : lm 1 = some (.obj kp)) (l2 : lm 2 = some (.obj k)) (l3 : lm 3 = some hb.tm.pv) (l4 : lm 4 = some bk) (l7 : lm 7 = some (.obj kv)) (l11 : lm 11 = some (.obj kI))
    (h : W2 σ k kp S) (nm : NmOk S hb) (ps : PsOk2 p) (hbk : BackAt σ k p bk) (hne : inn ≠ []) (hin : ∀ b ∈ inn, InOk S b) (hsz : szL inn ≤ 40) (hI : σ[kI]? = some (.list (inn.map bpv)))
    (hv : σ[kv]? = some (.list vs)) (hkv : k + 4 < kv) (hw : WtsAt σ lo (inn.flatMap Bd.ws) vs) (hlo : k + 4 < lo) (q : ∀ σ', Fr (MM k kp) σ σ' → Q (.bool true) σ') : wps (wpCall P (m + 200)) P t11 lm σ (retK Q) := by
  have T' : TabP P := T.toTabP
  have hbig2 : (2 : Nat) ≤ big := by decide
  have hbig3 : (3 : Nat) ≤ big := by decide
  dsimp only [t11, b_449, MS.tl, MS.pre]
  cases p with
  | none =>
    have e : bk = .none := hbk
    subst e
    (refine r_seq (r_assign ?_); refine' r_var ?wa ?_; (case wa => assumption); refine a_asg (t_var (a_nx (r_seqN (r_seq (r_site (r_te (r_prim2 ?_))))))); refine' r_var ?wa ?_; (case wa => assumption); refine a_p2 (r_none (a_p2b (p_isNot (r_truB ?_)))); refine a_siteF ?wa ?_; (case wa => (simp only [decide_eq_true_eq, decide_eq_false_iff_not, Bool.not_eq_true, Bool.not_eq_true', Bool.not_eq_false, Bool.not_eq_false', decide_not, Bool.not_not, Bool.and_false, Bool.false_and, Bool.or_false, Bool.false_or, Bool.true_and, Bool.and_true, Bool.false_eq_true, Bool.and_eq_true, Bool.or_eq_true, not_true_eq_false, not_false_eq_true]; done)); refine r_skip (r_seqN ?_))
    exact t13_S (p := none) T l1 l2 l3 l4 l7 l11 rfl h nm ps rfl hne hin hsz hI hv hkv hw hlo q
  | some its =>
    obtain ⟨kb, rfl, hkb, ekb⟩ := id hbk
    (refine r_seq (r_assign ?_); refine' r_var ?wa ?_; (case wa => assumption); refine a_asg (t_var (a_nx (r_seqN (r_seq (r_site (r_te (r_prim2 ?_))))))); refine' r_var ?wa ?_; (case wa => assumption); refine a_p2 (r_none (a_p2b (p_isNot (r_truB ?_)))); refine a_siteT ?wa ?_; (case wa => (simp only [decide_eq_true_eq, decide_eq_false_iff_not, Bool.not_eq_true, Bool.not_eq_true', Bool.not_eq_false, Bool.not_eq_false', decide_not, Bool.not_not, Bool.and_false, Bool.false_and, Bool.or_false, Bool.false_or, Bool.true_and, Bool.and_true, Bool.false_eq_true, Bool.and_eq_true, Bool.or_eq_true, not_true_eq_false, not_false_eq_true]; intro h; cases h)); refine r_seq (r_assign (r_tup (r_econs (r_str (a_cons1 (r_econs (r_int (a_cons1 (r_econs ?_))))))))); refine r_tup (r_econs ?_); refine' r_var ?wa ?_; (case wa => assumption); refine a_cons1 (r_econs (r_call (r_econs ?_))); refine' r_var ?wa ?_; (case wa => assumption); refine a_cons1 (r_pures rfl (a_cons2 (a_call ?_))))
    refine law_list_S (m := m + 199) (e := .a 0) T ekb fun σ₁ F1 => ?_
    (refine a_cons1 (r_pures rfl (a_cons2 (a_cons2 ?_))); refine a_tup ?wa ?_; (case wa => assumption); refine a_cons1 (r_pures rfl (a_cons2 (a_cons2 (a_cons2 ?_)))); refine a_tup ?wa ?_; (case wa => assumption); refine a_asg (t_var (a_nx (r_seqN (r_skip (r_seqN ?_))))))
    refine t13_S (p := some its) T l1 l2 l3 l4 l7 l11 ?_ (h.no F1) nm ps ⟨kb, rfl, hkb, F1.at' _ _ ekb id⟩ hne hin hsz (F1.at' _ _ hI id) (F1.at' _ _ hv id) hkv (hw.frame F1 fun _ _ _ => id) hlo fun σ' F' => q σ' ((fr_no F1).trans F')
    simp only [headT, Tm.pv, Tm.pvs]; rfl
theorem t8_S (T : Tab2 P) {lm : LM} {hb : Bd} {p : Option (List Tm)} {bs : List Bd} {kv kT lo : Nat} {vs : List PV} {bk : PV} (l1 : lm 1 = some (.obj kp)) (l2 : lm 2 = some (.obj k)) (l3 : lm 3 = some hb.tm.pv) (l4 : lm 4 = some bk) (l6 : lm 6 = some (.obj kT)) (l7 : lm 7 = some (.obj kv))
    (h : W2 σ k kp S) (nm : NmOk S hb) (ps : PsOk2 p) (hbk : BackAt σ k p bk) (hne : bs ≠ []) (hlf : ∀ b ∈ bs, InOk S b) (hsz : szL bs ≤ 40) (hT : σ[kT]? = some (.list (bs.map bpv))) (hkT : k + 4 < kT)
    (hv : σ[kv]? = some (.list vs)) (hkv : k + 4 < kv) (hw : WtsAt σ lo (bs.flatMap Bd.ws) vs) (hlo : k + 4 < lo) (q : ∀ σ', Fr (MM k kp) σ σ' → Q (.bool true) σ') : wps (wpCall P (m + 200)) P t8 lm σ (retK Q) := by
  have T' : TabP P := T.toTabP
  have hbig1 : (1 : Nat) ≤ big := by decide
  have hp0 := List.length_pos_iff.mpr hne
  have hkp := h.h
  dsimp only [t8, b_449, MS.tl, MS.pre]
  (refine r_seq (r_assign (r_call (r_econs ?_))); refine' r_var ?wa ?_; (case wa => assumption); refine a_cons1 (r_econs (r_prim1 ?_)); refine' r_var ?wa ?_; (case wa => assumption); refine a_p1 ?_; refine' p_lenL ?wa ?_; (case wa => assumption); refine a_cons1 (r_pures rfl (a_cons2 (a_cons2 (a_call ?_)))))
  rw [List.length_map]
  refine chooseW (m := m + 199) T h (by (first | lia | omega)) fun r σ₁ r0 r1 h1 F1 => ?_
  obtain ⟨n, rfl⟩ : ∃ n : Nat, r = n := ⟨r.toNat, by (first | lia | omega)⟩
  have hT1 := F1.at' _ _ hT (by unfold MM symM; (first | lia | omega))
  have hv1 := F1.at' _ _ hv (by unfold MM symM; (first | lia | omega))
  have hw1 := hw.frame F1 (fun j a _ => by unfold MM symM; (first | lia | omega))
  have hb1 := hbk.frame F1 hkp
  by_cases hn : (1 : Int) < (n : Int)
  · (refine a_asg (t_var (a_nx (r_seqN (r_seq (r_assign ?_))))); refine' r_var ?wa ?_; (case wa => assumption); refine a_asg (t_var (a_nx (r_seqN (r_seq (r_site (r_te (r_primP rfl (p_gt (r_truB ?_))))))))); refine a_siteT ?wa ?_; (case wa => (simp only [decide_eq_true_eq, decide_eq_false_iff_not, Bool.not_eq_true, Bool.not_eq_true', Bool.not_eq_false, Bool.not_eq_false', decide_not, Bool.not_not, Bool.and_false, Bool.false_and, Bool.or_false, Bool.false_or, Bool.true_and, Bool.and_true, Bool.false_eq_true, Bool.and_eq_true, Bool.or_eq_true, not_true_eq_false, not_false_eq_true]; assumption)); refine r_seq (r_assign (r_prim2 (r_list (r_econs (r_call (r_econs (r_prim (r_econs ?_)))))))); refine' r_var ?wa ?_; (case wa => assumption); refine a_cons1 (r_pures rfl (a_cons2 (a_pn ?_))); refine' p_slice ?wa ?wb ?wc ?wd ?we ?_; (case wa => rfl); (case wb => rfl); (case wc => rfl); (case wd => assumption); (case we => decide); refine a_cons1 (r_pures rfl (a_cons2 (a_call ?_))))
    rw [slice_take]
    have htk : bs.take n ≠ [] := fun e => by
      rcases List.take_eq_nil_iff.mp e with h | h
      · (first | lia | omega)
      · exact hne h
    have ht2 : (σ₁ ++ [AObj.list ((bs.map bpv).take n)])[σ₁.length]? = some (.list ((bs.take n).map bpv)) := by rw [List.map_take]; exact get_new
    obtain ⟨x1, x2, x3⟩ := sqB_ok htk fun b hb => hlf b (List.mem_of_mem_take hb)
    refine side_S (m := m + 199) T htk ht2 fun σ₂ F2 => ?_
    have hT2 := F2.at' _ _ (get_app (l := [AObj.list ((bs.map bpv).take n)]) hT1) id
    (refine a_cons1 (r_pures rfl (a_cons2 ?_)); refine a_list ?wa ?_; (case wa => assumption); refine a_p2 (r_prim (r_econs ?_)); refine' r_var ?wa ?_; (case wa => assumption); refine a_cons1 (r_pures rfl (a_cons2 (a_pn ?_))); refine' p_slice ?wa ?wb ?wc ?wd ?we ?_; (case wa => rfl); (case wb => rfl); (case wc => rfl); (case wd => (refine get_app ?_; assumption)); (case we => decide); refine a_p2b ?_)
    rw [slice_drop _ _ (by rw [List.length_map]; (first | lia | omega))]
    have hl : ([(sqB (bs.take n)).tm.pv] : List PV).length + (List.drop n (bs.map bpv)).length ≤ big := by
      have := szL_ge bs
      simp [big]; (first | lia | omega)
    (refine' p_addL ?wa ?wb ?wc ?_; (case wa => (refine get_app ?_; exact get_new)); (case wb => exact get_new); (case wc => assumption); refine a_asg (t_var (a_nx (r_seqN (r_skip (r_seqN ?_))))))
    have en : [(sqB (bs.take n)).tm.pv] ++ List.drop n (bs.map bpv) = (sqB (bs.take n) :: bs.drop n).map bpv := by rw [← List.map_drop]; rfl
    rw [en]
    have F3 : Fr (fun _ => False) σ₁ (((σ₂ ++ [AObj.list [(sqB (bs.take n)).tm.pv]]) ++ [AObj.list (List.drop n (bs.map bpv))]) ++ [AObj.list ((sqB (bs.take n) :: bs.drop n).map bpv)]) := ((((Fr.new _).trans F2).trans (Fr.new _)).trans (Fr.new _)).trans (Fr.new _)
    have esz : szL (bs.take n) + szL (bs.drop n) = szL bs := by rw [← szL_app, List.take_append_drop]
    have ews : (sqB (bs.take n) :: bs.drop n).flatMap Bd.ws = bs.flatMap Bd.ws := by
      rw [List.flatMap_cons, x3, ← List.flatMap_append, List.take_append_drop]
    refine t11_S (inn := sqB (bs.take n) :: bs.drop n) T l1 l2 l3 l4 l7 rfl (h1.no F3) nm ps (hb1.frame (fr_no F3) hkp) (by simp) ?_ ?_ get_new (F3.at' _ _ hv1 id) hkv ?_ hlo fun σ' F' => q σ' ((F1.trans (fr_no F3)).trans F')
    · intro b hb
      rcases List.mem_cons.mp hb with rfl | hb
      · exact x1
      · exact hlf b (List.mem_of_mem_drop hb)
    · have e : szL (sqB (bs.take n) :: bs.drop n) = (sqB (bs.take n)).tm.size + 1 + szL (bs.drop n) := by simp [szL]
      (first | lia | omega)
    · rw [ews]; exact hw1.frame F3 fun _ _ _ => id
  · (refine a_asg (t_var (a_nx (r_seqN (r_seq (r_assign ?_))))); refine' r_var ?wa ?_; (case wa => assumption); refine a_asg (t_var (a_nx (r_seqN (r_seq (r_site (r_te (r_primP rfl (p_gt (r_truB ?_))))))))); refine a_siteF ?wa ?_; (case wa => (simp only [decide_eq_true_eq, decide_eq_false_iff_not, Bool.not_eq_true, Bool.not_eq_true', Bool.not_eq_false, Bool.not_eq_false', decide_not, Bool.not_not, Bool.and_false, Bool.false_and, Bool.or_false, Bool.false_or, Bool.true_and, Bool.and_true, Bool.false_eq_true, Bool.and_eq_true, Bool.or_eq_true, not_true_eq_false, not_false_eq_true]; assumption)); refine r_skip (r_seqN ?_))
    exact t11_S (inn := bs) T l1 l2 l3 l4 l7 rfl h1 nm ps hb1 hne hlf hsz hT1 hv1 hkv hw1 hlo fun σ' F' => q σ' (F1.trans F')
end
noncomputable def rowsF : List (Str × Int) := [(".", 2), (",", 2), (";", 2), ("->", 2), ("\\+", 1), (":-", 2), (":-", 1), ("?-", 1), ("-->", 2), ("{}", 1), ("=", 2), ("^", 2), ("-", 1), ("-", 2), ("+", 2), ("/", 2), ("error", 2), ("$VAR", 1), ("catch", 3), ("throw", 1), ("!", 0), ("true", 0), ("fail", 0), ("false", 0), ("call", 1), ("call", 2), ("call", 3), ("call", 4), ("call", 5), ("call", 6), ("call", 7), ("call", 8)]
noncomputable def rowV (p : Str × Int) : PV := .tup [.str p.1, .int p.2]
theorem fixedF_rows : fixedF = rowsF.map fun p => ((((fixedT.findIdx? fun q => decide (q = p.1)).getD 0 : Nat) : Int), p.2) := by decide +kernel
theorem rows_ok : ∀ p ∈ rowsF, p.1 ∈ fixedT ∧ 0 ≤ p.2 ∧ p.2 ≤ 8 := by decide +kernel
theorem fixedT_nodup : fixedT.Nodup := by decide +kernel
theorem fixedF_nodup : fixedF.Nodup := by decide +kernel
theorem take_snoc {α : Type} {l : List α} {i : Nat} {x : α} (h : l[i]? = some x) : l.take i ++ [x] = l.take (i + 1) := by
  rw [List.take_add_one, h]; rfl
theorem take_not {α : Type} {l : List α} {i : Nat} {x : α} (hn : l.Nodup) (h : l[i]? = some x) : x ∉ l.take i := by
  have : (l.take (i + 1)).Nodup := hn.sublist (List.take_sublist _ _)
  rw [← take_snoc h, List.nodup_append] at this
  intro hx
  exact this.2.2 x hx x (by simp) rfl
section
variable {P : Pg} {σ σ' : St} {k m : Nat} {S : Sym} {Q : EQ}
theorem fixed_atoms_S (T : TabP P) (q : Q (.tup (fixedT.map .str)) σ) : wpCall P (m + 1) 60 [] σ Q := by
  refine enter T.f60 rfl ?_
  unfold b_60
  refine r_seq (r_ret (r_tupP rfl (a_ret (r_seqR (r_retR ?_)))))
  exact q
theorem fixed_functors_S (T : TabP P) (q : Q (.tup (rowsF.map rowV)) σ) : wpCall P (m + 1) 67 [] σ Q := by
  refine enter T.f67 rfl ?_
  unfold b_67
  have hbig2 : (2 : Nat) ≤ big := by decide
  refine r_seq (r_ret (r_tupP rfl (a_ret (r_seqR (r_retR ?_)))))
  exact q
theorem init_S (T : TabP P) (h : σ[k]? = some (.inst 154 [])) (hk : σ.length = k + 1) (q : ∀ σ', SymAt σ' k S0 → Sok S0 → Fr (fun j => j = k) σ σ' → Q .none σ') : wpCall P (m + 4) 81 [.obj k] σ Q := by
  have up : ∀ {τ τ' : St}, Fr (fun j => j = k) σ τ → Fr (symM k) τ τ' → Fr (fun j => j = k) σ τ' := fun F F1 => ⟨Nat.le_trans F.len F1.len, fun j o e n => F1.at' j o (F.at' j o e n) (by have := (List.getElem?_eq_some_iff.mp e).1; unfold symM; (first | lia | omega))⟩
  refine enter T.f81 rfl ?_
  unfold b_81
  (refine r_seq (r_assign (r_list (r_pures rfl ?_))); refine a_list ?wa ?_; (case wa => trivial); refine a_asg (t_attr (r_var rfl (a_ta ?_))); refine' s_attr ?wa ?wb ?wc ?_; (case wa => (refine get_app ?_; assumption)); (case wb => exact TabP.s0 (by assumption)); (case wc => trivial); refine a_ta2 (a_nx (r_seqN (r_seq (r_assign (r_dict0 (a_asg (t_attr (r_var rfl (a_ta ?_))))))))); refine' s_attr ?wa ?wb ?wc ?_; (case wa => (refine get_app ?_; refine get_set_eq (o := ?_) ?_; rotate_left; refine get_app ?_; assumption)); (case wb => exact TabP.s1 (by assumption)); (case wc => exact Nat.le_of_ble_eq_true rfl); refine a_ta2 (a_nx (r_seqN (r_seq (r_assign (r_list (r_pures rfl ?_)))))); refine a_list ?wa ?_; (case wa => trivial); refine a_asg (t_attr (r_var rfl (a_ta ?_))); refine' s_attr ?wa ?wb ?wc ?_; (case wa => (refine get_app ?_; refine get_set_eq (o := ?_) ?_; rotate_left; refine get_app ?_; refine get_set_eq (o := ?_) ?_; rotate_left; refine get_app ?_; assumption)); (case wb => exact TabP.s2 (by assumption)); (case wc => exact Nat.le_of_ble_eq_true rfl); refine a_ta2 (a_nx (r_seqN (r_seq (r_assign (r_dict0 (a_asg (t_attr (r_var rfl (a_ta ?_))))))))); refine' s_attr ?wa ?wb ?wc ?_; (case wa => (refine get_app ?_; refine get_set_eq (o := ?_) ?_; rotate_left; refine get_app ?_; refine get_set_eq (o := ?_) ?_; rotate_left; refine get_app ?_; refine get_set_eq (o := ?_) ?_; rotate_left; refine get_app ?_; assumption)); (case wb => exact TabP.s3 (by assumption)); (case wc => exact Nat.le_of_ble_eq_true rfl); refine a_ta2 (a_nx (r_seqN (r_seq (r_for (i_val (r_callP rfl ?_)))))))
  refine fixed_atoms_S T ?_
  refine i_valT rfl (a_for ?_)
  refine for_rule (fun i lm τ => lm 0 = some (.obj k) ∧ SymAt τ k ⟨fixedT.take i, []⟩ ∧ Sok ⟨fixedT.take i, []⟩ ∧ Fr (fun j => j = k) σ τ) ⟨rfl, ⟨?_, ?_, ?_, ?_, ?_, List.nodup_nil, List.nodup_nil, by decide, by decide⟩, ⟨List.nodup_nil, List.nodup_nil, fun _ h => (nomatch h), fun _ h => (nomatch h)⟩, ?_⟩ (fun _ _ _ _ => trivial) ?_ ?_
  · simp [hk, List.getElem?_append, fput]
  · simp [hk, List.getElem?_set, List.getElem?_append]
  · simp [hk, List.getElem?_set, List.getElem?_append, numd]
  · simp [hk, List.getElem?_set, List.getElem?_append]
  · simp [hk, List.getElem?_set, List.getElem?_append, numd]
  · refine Fr.trans ?_ (Fr.set rfl)
    refine Fr.trans ?_ (Fr.new _)
    refine Fr.trans ?_ (Fr.set rfl)
    refine Fr.trans ?_ (Fr.new _)
    refine Fr.trans ?_ (Fr.set rfl)
    refine Fr.trans ?_ (Fr.new _)
    refine Fr.trans ?_ (Fr.set rfl)
    exact Fr.new _
  · rintro i y lm τ K hy ⟨l0, hS, ok, F⟩ hK
    rw [List.getElem?_map] at hy
    cases ex : fixedT[i]? with
    | none => rw [ex] at hy; cases hy
    | some x =>
      rw [ex] at hy
      have : y = .str x := by cases hy; rfl
      subst this
      have ei := hS.i
      have hx : x ∈ fixedT := List.mem_of_getElem? ex
      have e : (⟨fixedT.take i, []⟩ : Sym).addA x = ⟨fixedT.take (i + 1), []⟩ := by
        unfold Sym.addA
        rw [if_neg (take_not fixedT_nodup ex), take_snoc ex]
      (refine r_seq (r_expr (r_meth ?_)); refine' r_var ?wa ?_; (case wa => assumption); refine' r_methK ?wa ?wb ?wc ?_; (case wa => assumption); (case wb => exact TabP.m8 (by assumption)); (case wc => rfl); refine r_pures rfl (a_meth ?_))
      refine atomS T hS ok (List.mem_append_left _ hx) fun a σ₁ e1 s1 o1 F1 => ?_
      rw [e] at s1 o1
      refine a_exp (r_seqN (r_skip (r_forN ?_)))
      exact hK _ _ ⟨l0, s1, o1, up F F1⟩
  · rintro lm τ ⟨l0, hS, ok, F⟩
    have e : fixedT.take (fixedT.map PV.str).length = fixedT := by rw [List.length_map, List.take_length]
    rw [e] at hS ok
    refine r_seqN (r_seq (r_for (i_val (r_callP rfl ?_))))
    refine fixed_functors_S T ?_
    refine i_valT rfl (a_for ?_)
    refine for_rule (fun i lm τ => lm 0 = some (.obj k) ∧ SymAt τ k ⟨fixedT, fixedF.take i⟩ ∧ Sok ⟨fixedT, fixedF.take i⟩ ∧ Fr (fun j => j = k) σ τ) ⟨l0, hS, ok, F⟩ (fun _ _ _ _ => trivial) ?_ ?_
    · rintro i y lm τ K hy ⟨l0, hS, ok, F⟩ hK
      rw [List.getElem?_map] at hy
      cases ex : rowsF[i]? with
      | none => rw [ex] at hy; cases hy
      | some p =>
        rw [ex] at hy
        have : y = .tup [.str p.1, .int p.2] := by cases hy; rfl
        subst this
        have ei := hS.i
        obtain ⟨hx, hr⟩ := rows_ok p (List.mem_of_getElem? ex)
        have ef : fixedF[i]? = some ((((fixedT.findIdx? fun q => decide (q = p.1)).getD 0 : Nat) : Int), p.2) := by
          rw [fixedF_rows, List.getElem?_map, ex]; rfl
        (refine r_seq (r_expr (r_meth ?_)); refine' r_var ?wa ?_; (case wa => assumption); refine' r_methK ?wa ?wb ?wc ?_; (case wa => assumption); (case wb => exact TabP.m11 (by assumption)); (case wc => rfl); refine r_pures rfl (a_meth ?_))
        refine funcS T hS ok (List.mem_append_left _ hx) hr fun a j σ₁ e1 e2 s1 o1 F1 => ?_
        rw [Sym.addA_mem (S := ⟨fixedT, fixedF.take i⟩) hx] at e1 e2 s1 o1
        have ea : ((((fixedT.findIdx? fun q => decide (q = p.1)).getD 0 : Nat) : Int)) = (a : Int) := Sym.tn_eq (S := ⟨fixedT, fixedF.take i⟩) ok e1
        rw [ea] at ef
        have e : (⟨fixedT, fixedF.take i⟩ : Sym).addF a p.2 = ⟨fixedT, fixedF.take (i + 1)⟩ := by
          unfold Sym.addF
          rw [if_neg (take_not fixedF_nodup ef), take_snoc ef]
        rw [e] at s1 o1
        refine a_exp (r_seqN (r_skip (r_forN ?_)))
        exact hK _ _ ⟨l0, s1, o1, up F F1⟩
    · rintro lm τ ⟨l0, hS, ok, F⟩
      have e : fixedF.take (rowsF.map rowV).length = fixedF := by rw [fixedF_rows, List.length_map, ← List.length_map (f := fun p : Str × Int => ((((fixedT.findIdx? fun q => decide (q = p.1)).getD 0 : Nat) : Int), p.2)), List.take_length]
      rw [e] at hS ok
      refine r_seqN (r_skip (r_retN ?_))
      exact q τ hS ok F
end
noncomputable def t5 : MS := MS.pre 3 (MS.tl 5 b_449) t8
theorem ws_len {S : Sym} {b : Bd} (h : LfOk S b) : b.ws.length ≤ 2 := by
  cases b <;> first | exact h.leaf.elim | (simp [Bd.ws])
theorem szL_lf {S : Sym} : ∀ {l : List Bd}, (∀ b ∈ l, LfOk S b) → szL l ≤ 6 * l.length
  | [], _ => Nat.zero_le _
  | b :: r, h => by
    have h1 := (h b (by simp)).size
    have h2 := szL_lf (l := r) fun x hx => h x (List.mem_cons_of_mem _ hx)
    simp only [szL, List.map_cons, List.sum_cons, List.length_cons] at h2 ⊢; (first | lia | omega)
section
variable {P : Pg} {σ σ' : St} {k m kp : Nat} {S : Sym} {Q : EQ}
theorem t5_S (T : Tab2 P) {lm : LM} {hb : Bd} {p : Option (List Tm)} {bk : PV} (l1 : lm 1 = some (.obj kp)) (l2 : lm 2 = some (.obj k)) (l3 : lm 3 = some hb.tm.pv) (l4 : lm 4 = some bk)
    (h : W2 σ k kp S) (nm : NmOk S hb) (ps : PsOk2 p) (hbk : BackAt σ k p bk) (q : ∀ σ', Fr (MM k kp) σ σ' → Q (.bool true) σ') : wps (wpCall P (m + 200)) P t5 lm σ (retK Q) := by
  have T' : TabP P := T.toTabP
  have hbig0 : (0 : Nat) ≤ big := by decide
  have hkp := h.h
  have len0 := h.len
  dsimp only [t5, b_449, MS.tl, MS.pre]
  (refine r_seq (r_assign (r_list (r_pures rfl ?_))); refine a_list ?wa ?_; (case wa => assumption); refine a_asg (t_var (a_nx (r_seqN (r_seq (r_assign (r_list (r_pures rfl ?_))))))); refine a_list ?wa ?_; (case wa => assumption); refine a_asg (t_var (a_nx (r_seqN (r_seq (r_for (i_range (r_econs (r_prim2 (r_int ?_))))))))); refine a_p2 (r_call (r_econs ?_)); refine' r_var ?wa ?_; (case wa => assumption); refine a_cons1 (r_pures rfl (a_cons2 (a_call ?_))))
  have F0 : Fr (fun _ => False) σ ((σ ++ [AObj.list []]) ++ [AObj.list []]) := (Fr.new _).trans (Fr.new _)
  obtain ⟨kv, ekv⟩ : ∃ kv, kv = (σ ++ [AObj.list []]).length := ⟨_, rfl⟩
  have ekv' : kv = σ.length + 1 := by rw [ekv]; simp
  rw [← ekv]
  have hT0 : ((σ ++ [AObj.list []]) ++ [AObj.list []])[σ.length]? = some (.list []) := get_app get_new
  have hV0 : ((σ ++ [AObj.list []]) ++ [AObj.list []])[kv]? = some (.list []) := by rw [ekv]; exact get_new
  generalize ((σ ++ [AObj.list []]) ++ [AObj.list []]) = σ₀ at *
  refine chooseW (m := m + 199) T (h.no F0) (by (first | lia | omega)) fun r σ₁ r0 r1 h1 F1 => ?_
  obtain ⟨n, rfl⟩ : ∃ n : Nat, r = n := ⟨r.toNat, by (first | lia | omega)⟩
  have hR : rangeOf [.int (1 + (n : Int))] (rangeL 0 ((n + 1 : Nat) : Int) 1) := by
    rw [show (1 : Int) + (n : Int) = ((n + 1 : Nat) : Int) by (first | lia | omega)]; exact up_range _ (by (first | lia | omega))
  (refine a_p2b (p_addI (a_cons1 (r_pures rfl (a_cons2 ?_)))); refine' i_rangeK ?wa ?_; (case wa => with_reducible assumption); refine a_for ?_)
  refine for_rule (fun i lm' τ => ∃ bs S' vs, bs.length = i ∧ (∀ j, j < 5 ∨ j = 6 ∨ j = 7 → lm' j = upd (upd lm 6 (.obj σ.length)) 7 (.obj kv) j) ∧ S.le S' ∧ W2 τ k kp S' ∧ Fr (MM k kp) σ τ ∧ (∀ b ∈ bs, LfOk S' b) ∧ τ[σ.length]? = some (.list (bs.map bpv)) ∧ τ[kv]? = some (.list vs) ∧ WtsAt τ (kv + 1) (bs.flatMap Bd.ws) vs ∧ vs.length ≤ 2 * i)
    ⟨[], S, [], rfl, fun _ _ => rfl, S.le_refl, h1, (fr_no F0).trans F1, (fun b hb => nomatch hb), F1.at' _ _ hT0 (by unfold MM symM; (first | lia | omega)), F1.at' _ _ hV0 (by unfold MM symM; (first | lia | omega)), rfl, Nat.zero_le _⟩ (fun _ _ _ _ => trivial) ?_ ?_
  · rintro i y lm' τ K hy ⟨bs, S', vs, rfl, hlm, l, hW, F, hlf, eT, eV, hw, hvl⟩ hK
    have hi := (List.getElem?_eq_some_iff.mp hy).1
    rw [rangeL_len, up_size] at hi
    have m1 : lm' 1 = some (.obj kp) := (hlm 1 (by (first | lia | omega))).trans l1
    have m2 : lm' 2 = some (.obj k) := (hlm 2 (by (first | lia | omega))).trans l2
    have m6 : lm' 6 = some (.obj σ.length) := hlm 6 (by (first | lia | omega))
    have m7 : lm' 7 = some (.obj kv) := hlm 7 (by (first | lia | omega))
    have tl := (List.getElem?_eq_some_iff.mp eV).1
    (refine r_seq (r_assign (r_call (r_econs ?_))); refine' r_var ?wa ?_; (case wa => assumption); refine a_cons1 (r_econs ?_); refine' r_var ?wa ?_; (case wa => assumption); refine a_cons1 (r_pures rfl (a_cons2 (a_cons2 (a_call ?_)))))
    refine part_S (m := m + 196) T hW fun S₂ σ₂ b kw vs2 l2' h2 F2 hb hkw ew hw2 => ?_
    have eT2 := F2.at' _ _ eT (by unfold MM symM; (first | lia | omega))
    have eV2 := F2.at' _ _ eV (by unfold MM symM; (first | lia | omega))
    have hbl : (bs.map bpv).length < big := by rw [List.length_map]; unfold big; (first | lia | omega)
    have nk : ∀ j, kv + 1 ≤ j → ¬ j = σ.length := fun j a => by (first | lia | omega)
    have F3 : Fr (fun j => j = σ.length) σ₂ (σ₂.set σ.length (.list ((bs ++ [b]).map bpv))) := Fr.set rfl
    have wl := ws_len hb
    have vl2 := hw2.len
    have hvv : vs.length + vs2.length ≤ big := by unfold big; (first | lia | omega)
    have en : bs.map bpv ++ [b.tm.pv] = (bs ++ [b]).map bpv := by simp [bpv]
    have eV3 := F3.at' _ _ eV2 (by (first | lia | omega))
    have ew3 := F3.at' _ _ ew (by (first | lia | omega))
    (refine a_asg (t_tup rfl rfl (a_nx (r_seqN (r_seq (r_expr (r_bm ?_)))))); refine' r_var ?wa ?_; (case wa => assumption); refine a_bm ?wa ?_; (case wa => (refine' bmOk_list ?wz (by intro e; cases e); (case wz => assumption))); refine r_pures rfl (a_bm2 ?_); refine' b_append ?wa ?wb ?_; (case wa => assumption); (case wb => assumption); refine a_exp (r_seqN (r_seq ?_)); refine' r_augVar ?wa ?_; (case wa => assumption); refine r_var rfl ?_; refine' r_augL ?wa ?wb ?wc ?_; (case wa => (refine get_set_ne (by first | (first | lia | omega) | decide) ?_; assumption)); (case wb => (refine get_set_ne (by first | (first | lia | omega) | decide) ?_; assumption)); (case wc => assumption); refine r_seqN (r_skip (r_forN ?_)))
    rw [en]
    have hw3 := (hw.frame F2 (fun j a _ => by unfold MM symM; (first | lia | omega))).app (hw2.low (by (first | lia | omega) : kv + 1 ≤ τ.length))
    have F4 : Fr (fun j => j = kv) (σ₂.set σ.length (.list ((bs ++ [b]).map bpv))) ((σ₂.set σ.length (.list ((bs ++ [b]).map bpv))).set kv (.list (vs ++ vs2))) := Fr.set rfl
    skip
    refine hK _ _ ⟨bs ++ [b], S₂, vs ++ vs2, by simp, fun j hj => ?_, l.trans l2', (h2.fr F3 (by (first | lia | omega))).fr F4 (by (first | lia | omega)), (((F.trans F2).setNew (Nat.le_refl _)).setNew (by (first | lia | omega))), fun x hx => ?_, F4.at' _ _ (get_set_eq eT2) (by (first | lia | omega)), get_set_eq eV3, ?_, by simp; (first | lia | omega)⟩
    · have h1 : j ≠ 5 := by (first | lia | omega)
      have h2 : j ≠ 8 := by (first | lia | omega)
      have h3 : j ≠ 9 := by (first | lia | omega)
      by_cases h7 : j = 7
      · subst h7; rfl
      · have := hlm j hj
        simp only [upd, h1, h2, h3, h7, if_false] at this ⊢
        exact this
    · rcases List.mem_append.mp hx with hx | hx
      · exact (hlf x hx).le l2'
      · rw [List.mem_singleton.mp hx]; exact hb
    · rw [List.flatMap_append]
      have : [b].flatMap Bd.ws = b.ws := by simp
      rw [this]
      exact (hw3.frame F3 (fun j a _ => by (first | lia | omega))).frame F4 (fun j a _ => by (first | lia | omega))
  · rintro lm' τ ⟨bs, S', vs, hbl, hlm, l, hW, F, hlf, eT, eV, hw, hvl⟩
    rw [rangeL_len, up_size] at hbl
    have sz := szL_lf hlf
    exact t8_S (bs := bs) (lo := kv + 1) (p := p) T ((hlm 1 (by (first | lia | omega))).trans l1) ((hlm 2 (by (first | lia | omega))).trans l2) ((hlm 3 (by (first | lia | omega))).trans l3) ((hlm 4 (by (first | lia | omega))).trans l4) (hlm 6 (by (first | lia | omega))) (hlm 7 (by (first | lia | omega))) hW (nm.le l) ps (hbk.frame F hkp) (fun e => by rw [e] at hbl; simp at hbl) (fun b hb => (hlf b hb).inn) (by (first | lia | omega)) eT (by (first | lia | omega)) eV (by (first | lia | omega)) hw (by (first | lia | omega)) fun σ' F' => q σ' (F.trans F')
theorem law_S (T : Tab2 P) (script : List Int) (hs : script.length ≤ 63) : wpCall P (m + 201) 449 [.obj 0] [.ro (script.map .int)] fun v σ => v = .bool true ∧ σ[0]? = some (.ro (script.map .int)) := by
  have T' : TabP P := T.toTabP
  have hbig2 : (2 : Nat) ≤ big := by decide
  refine enter T.f449 rfl ?_
  rw [show b_449 = MS.pre 5 b_449 t5 from rfl]
  dsimp only [b_449, MS.pre]
  refine r_seq (r_assign (r_callP rfl ?_))
  refine digits_S (m := m + 199) (script := script) T rfl hs fun σ₁ kp hp F1 => ?_
  have z1 : σ₁[0]? = some (.ro (script.map .int)) := F1.at' 0 _ rfl id
  have kpl : kp < σ₁.length := by obtain ⟨L, hL⟩ := hp; exact (List.getElem?_eq_some_iff.mp hL).1
  have kp0 : 0 < kp := by
    rcases Nat.eq_zero_or_pos kp with e | e
    · subst e; obtain ⟨L, hL⟩ := hp; rw [z1] at hL; injection hL with hL; cases hL
    · exact e
  (refine a_asg (t_var (a_nx (r_seqN (r_seq (r_assign (r_new (r_pures rfl ?_))))))); refine' r_newK ?wa ?_; (case wa => exact TabP.i154 (by assumption)))
  refine init_S (k := σ₁.length) (m := m + 196) T' get_new (by simp) fun σ₂ s2 o2 F2 => ?_
  have h2 : W2 σ₂ σ₁.length kp S0 := ⟨s2, o2, S0.le_refl, (hp.frame (Fr.new (M := fun _ => False) _) id).frame F2 (by (first | lia | omega)), kpl⟩
  have z2 : σ₂[0]? = some (.ro (script.map .int)) := F2.at' _ _ (get_app z1) (by (first | lia | omega))
  generalize σ₁.length = k at *
  have nM : ¬ MM k kp 0 := by unfold MM symM; (first | lia | omega)
  refine a_new (a_asg (t_var (a_nx (r_seqN (r_seq (r_assign (r_callP rfl ?_)))))))
  refine named_S (m := m + 197) (x := "r") T (by decide +kernel) (by decide +kernel) h2 fun S₃ σ₃ hb l3 h3 F3 nm => ?_
  have z3 := F3.at' _ _ z2 nM
  (refine a_asg (t_var (a_nx (r_seqN (r_seq (r_assign (r_none (a_asg (t_var (a_nx ?_))))))))); refine r_seqN (r_seq (r_site (r_te (r_prim2 (r_callP rfl ?_))))))
  refine chooseW (m := m + 199) T h3 (by (first | lia | omega)) fun r σ₄ _ _ h4 F4 => ?_
  have z4 := F4.at' _ _ z3 nM
  by_cases hr : r = 3
  · (refine a_p2 (r_int (a_p2b (p_eq rfl (r_truB ?_)))); refine a_siteT ?wa ?_; (case wa => (simp only [decide_eq_true_eq, decide_eq_false_iff_not, Bool.not_eq_true, Bool.not_eq_true', Bool.not_eq_false, Bool.not_eq_false', decide_not, Bool.not_not, Bool.and_false, Bool.false_and, Bool.or_false, Bool.false_or, Bool.true_and, Bool.and_true, Bool.false_eq_true, Bool.and_eq_true, Bool.or_eq_true, not_true_eq_false, not_false_eq_true]; assumption)); refine r_seq (r_assign (r_comp (i_range (r_econs (r_callP rfl ?_))))))
    refine chooseW (m := m + 199) T h4 (by (first | lia | omega)) fun r σ₅ r0 r1 h5 F5 => ?_
    have z5 := F5.at' _ _ z4 nM
    obtain ⟨n, rfl⟩ : ∃ n : Nat, r = n := ⟨r.toNat, by (first | lia | omega)⟩
    have hR : rangeOf [.int (n : Int)] (rangeL 0 (n : Int) 1) := up_range n (by (first | lia | omega))
    (refine a_cons1 (r_pures rfl (a_cons2 ?_)); refine' i_rangeK ?wa ?_; (case wa => with_reducible assumption))
    refine leaves_S (m := m + 198) T (by decide) (by decide) rfl rfl (by (first | lia | omega)) h5 fun S₆ σ₆ its l6 h6 F6 hl hit => ?_
    have z6 := F6.at' _ _ z5 nM
    have len6 := h6.len
    refine a_asg (t_var (a_nx (r_seqN (r_skip (r_seqN ?_)))))
    exact t5_S (p := some its) T rfl rfl rfl rfl (h6.no (Fr.new _)) (nm.le l6) ⟨hit, by (first | lia | omega)⟩ ⟨_, rfl, len6, get_new⟩ fun σ' F' => ⟨rfl, F'.at' _ _ (get_app z6) nM⟩
  · (refine a_p2 (r_int (a_p2b (p_eq rfl (r_truB ?_)))); refine a_siteF ?wa ?_; (case wa => (simp only [decide_eq_true_eq, decide_eq_false_iff_not, Bool.not_eq_true, Bool.not_eq_true', Bool.not_eq_false, Bool.not_eq_false', decide_not, Bool.not_not, Bool.and_false, Bool.false_and, Bool.or_false, Bool.false_or, Bool.true_and, Bool.and_true, Bool.false_eq_true, Bool.and_eq_true, Bool.or_eq_true, not_true_eq_false, not_false_eq_true]; assumption)); refine r_skip (r_seqN ?_))
    exact t5_S (p := none) T rfl rfl rfl rfl h4 nm trivial rfl fun σ' F' => ⟨rfl, F'.at' _ _ z4 nM⟩
end
end Mine
open PySem PySem.W PyProof.Rows
namespace Mine
section
theorem main.tw18244764956680579193 : True := trivial
theorem main.tw11156056980113079860 : True := trivial
theorem main.tw684408950050414953 : True := trivial
theorem main.tw11182973995046164717 : True := trivial
theorem main.tw16826212616301561204 : True := trivial
theorem main.tw13815020969739908023 : True := trivial
theorem main.tw7712634645042067442 : True := trivial
theorem main.tw16696644119737139619 : True := trivial
theorem main.tw4816531377298285970 : True := trivial
theorem main.tw10270246312553454781 : True := trivial
theorem main.tw16443588534754282446 : True := trivial
theorem main.tw13060980750630203840 : True := trivial
theorem main.tw7298748307773712898 : True := trivial
theorem main.tw7929197687748531871 : True := trivial
theorem main.tw15984706205718930553 : True := trivial
theorem main.tw1821236086877601451 : True := trivial
theorem main.tw17057053908230417247 : True := trivial
theorem main.tw14313897822631088780 : True := trivial
theorem main.tw3137596982192898869 : True := trivial
theorem main.tw12732289081945773324 : True := trivial
theorem main.tw11120327062377616369 : True := trivial
theorem main.tw9756827057097773860 : True := trivial
theorem main.tw15365013842991253249 : True := trivial
theorem main.tw17353955331779342651 : True := trivial
theorem main.tw12626715702454501173 : True := trivial
theorem main.tw12839114828313443825 : True := trivial
theorem main.tw8118072479153026202 : True := trivial
theorem main.tw5602234197418806665 : True := trivial
theorem main.tw4900431672193113347 : True := trivial
theorem main.tw8808949154728543533 : True := trivial
theorem main.tw14064073609400967072 : True := trivial
theorem main.tw9381277316556691805 : True := trivial
theorem main.tw9670510015898674028 : True := trivial
theorem main.tw4026956272090484662 : True := trivial
theorem main.tw15768048840197415361 : True := trivial
theorem main.tw16519101796099990279 : True := trivial
theorem main.tw6757682118671568561 : True := trivial
theorem main.tw4261964983698606537 : True := trivial
theorem main.tw9376575566392132001 : True := trivial
theorem main.tw11595355409239048105 : True := trivial
theorem main.tw330327031418712150 : True := trivial
theorem main.tw765107192605250810 : True := trivial
theorem main.tw14080665800827857628 : True := trivial
theorem main.tw1118068078248606362 : True := trivial
theorem main.tw17402982504261768225 : True := trivial
theorem main.tw2647654807098235363 : True := trivial
theorem main.tw2279707942289718827 : True := trivial
theorem main.tw17297283025540448806 : True := trivial
theorem main.tw12922898485456448571 : True := trivial
theorem main.tw15554039934745177238 : True := trivial
theorem main.tw10928175160051115300 : True := trivial
theorem main.tw18284262389922463811 : True := trivial
theorem main.tw2759098988195820126 : True := trivial
theorem main.tw11261727412033496967 : True := trivial
theorem main.tw2195194259037543316 : True := trivial
theorem main.tw2921621734765799159 : True := trivial
theorem main.tw4038153913678941442 : True := trivial
theorem main.tw15624239662980076321 : True := trivial
theorem main.tw17264900360498390715 : True := trivial
theorem main.tw961187720498965250 : True := trivial
theorem main.tw5518243967957118194 : True := trivial
theorem main.tw3960113756560652017 : True := trivial
theorem main.tw10204856939554784155 : True := trivial
theorem main.tw7698036289167662538 : True := trivial
theorem main.tw4333880214566435006 : True := trivial
theorem main.tw10199874654664476236 : True := trivial
theorem main.tw13293747886898857621 : True := trivial
theorem main.tw1099256609624015869 : True := trivial
theorem main.tw1615956725737779560 : True := trivial
theorem main.tw8729708805864041840 : True := trivial
theorem main.tw17679725944135375923 : True := trivial
theorem main.tw4650958065196391918 : True := trivial
theorem main.tw15734660467963936456 : True := trivial
theorem main.tw16798622893749714585 : True := trivial
theorem main.tw302440914744352476 : True := trivial
theorem main.tw12885385263037960081 : True := trivial
theorem main.tw9994787619449420439 : True := trivial
theorem main.tw10665089971535097683 : True := trivial
theorem main.tw5585478044538960755 : True := trivial
theorem main.tw9265829497004654079 : True := trivial
theorem main.tw750237026923860459 : True := trivial
theorem main.tw18315214858253571532 : True := trivial
theorem main.tw6019089244302038806 : True := trivial
theorem main.tw1496695287857109588 : True := trivial
theorem main.tw13355152605343272895 : True := trivial
theorem main.tw52199770228462824 : True := trivial
theorem main.tw17715262827843222689 : True := trivial
theorem main.tw4365514962571936147 : True := trivial
theorem main.tw7751025194823839400 : True := trivial
theorem main.tw12941917028564957548 : True := trivial
theorem main.tw9976160756891316704 : True := trivial
theorem main.tw2406621943657119228 : True := trivial
theorem main.tw6655696309031964122 : True := trivial
theorem main.tw9508770018378322450 : True := trivial
theorem main.tw5649967823195072380 : True := trivial
theorem main.tw5240536507193477226 : True := trivial
theorem main.tw1130211791997205004 : True := trivial
theorem main.tw16480584520131690045 : True := trivial
theorem main.tw17272174723667511238 : True := trivial
theorem main.tw14662554035588321541 : True := trivial
theorem main.tw16187894506366716058 : True := trivial
theorem main.tw12623159325031504133 : True := trivial
theorem main.tw18431692314492308842 : True := trivial
theorem main.tw11982392923317675503 : True := trivial
theorem main.tw7083192437325867461 : True := trivial
theorem main.tw13676971244355772609 : True := trivial
theorem main.tw5061512775090418087 : True := trivial
theorem main.tw8930851030842425676 : True := trivial
theorem main.tw1306636233014830658 : True := trivial
theorem main.tw14907226015203709474 : True := trivial
theorem main.tw17708487481403421675 : True := trivial
theorem main.tw6044114016751833949 : True := trivial
theorem main.tw4126091431370883743 : True := trivial
theorem main.tw17091655785135471103 : True := trivial
theorem main.tw6162249291895867263 : True := trivial
theorem main.tw1390771862084280389 : True := trivial
theorem main.tw13590572293223372214 : True := trivial
theorem main.tw2906824675625879941 : True := trivial
theorem main.tw14539993770535171780 : True := trivial
theorem main.tw6886502059237256666 : True := trivial
theorem main.tw9483120023164983764 : True := trivial
theorem main.tw7186131708394509389 : True := trivial
theorem main.tw13402765919934010277 : True := trivial
theorem main.tw7237411587787531456 : True := trivial
theorem main.tw3583811862363856187 : True := trivial
theorem main.tw7221758910455160077 : True := trivial
theorem main.tw6112859857366181021 : True := trivial
theorem main.tw1714950047550659301 : True := trivial
theorem main.tw13503263706703578961 : True := trivial
theorem main.tw3466206800631347469 : True := trivial
theorem main.tw3454311308915712629 : True := trivial
theorem main.tw221909299271738847 : True := trivial
theorem main.tw12298629886278197574 : True := trivial
theorem main.tw12431731261707249289 : True := trivial
theorem main.tw8652556701797213591 : True := trivial
theorem main.tw979501456738626862 : True := trivial
theorem main.tw9730157408454304684 : True := trivial
theorem main.tw18332899500509843999 : True := trivial
theorem main.tw12927740378394474205 : True := trivial
theorem main.tw13110577991587790113 : True := trivial
theorem main.tw1678875084529416142 : True := trivial
theorem main.tw17118054049896295152 : True := trivial
theorem main.tw10094358506670053839 : True := trivial
theorem main.tw5102693214775723256 : True := trivial
theorem main.tw16320729459185622934 : True := trivial
theorem main.tw5160751907100791332 : True := trivial
theorem main.tw16356685582667847594 : True := trivial
theorem main.tw13626721169425172152 : True := trivial
theorem main.tw5084117380071580128 : True := trivial
theorem main.tw10047389527955405517 : True := trivial
theorem main.tw14061640607465278742 : True := trivial
theorem main.tw1156462466702112376 : True := trivial
theorem main.tw11710404883906591787 : True := trivial
theorem main.tw11181722664286889309 : True := trivial
theorem main.tw2852251193174398662 : True := trivial
theorem main.tw656089360051881306 : True := trivial
theorem main.tw13219505800766818778 : True := trivial
theorem main.tw9268297945177815525 : True := trivial
theorem main.tw14027531716089632829 : True := trivial
theorem main.tw10334261112615635914 : True := trivial
theorem main.tw15806524323241146399 : True := trivial
theorem main.tw2821470743931037460 : True := trivial
theorem main.tw2724176850512262202 : True := trivial
theorem main.tw11221353774195762014 : True := trivial
theorem main.tw10825838108423173272 : True := trivial
theorem main.tw15467891735981029475 : True := trivial
theorem main.tw16641786646906312760 : True := trivial
theorem main.tw12590340796369385619 : True := trivial
theorem main.tw8663697691656813868 : True := trivial
theorem main.tw11403851563620829512 : True := trivial
theorem main.tw10642606787283503386 : True := trivial
theorem main.tw3706830351922483016 : True := trivial
theorem main.tw18429898967455175835 : True := trivial
theorem main.tw17695171507069755227 : True := trivial
theorem main.tw14161005256144132680 : True := trivial
theorem main.tw6697339332421208802 : True := trivial
theorem main.tw4458048076830672230 : True := trivial
theorem main.tw16560978015359730151 : True := trivial
theorem main.tw917386388269078853 : True := trivial
theorem main.tw12518504611687188807 : True := trivial
theorem main.tw6545385358150927430 : True := trivial
theorem main.tw4990475226369331113 : True := trivial
theorem main.tw11752208632293872130 : True := trivial
theorem main.tw2544328076492683441 : True := trivial
theorem main.tw5259387161420218263 : True := trivial
theorem main.tw17236958762192778904 : True := trivial
theorem main.tw10092590920390200211 : True := trivial
theorem main.tw5400957986263281647 : True := trivial
theorem main.tw18431692314602308842 : True := trivial
theorem main.tw17965704738564301363 : True := trivial
theorem main.tw5665406974723832613 : True := trivial
theorem main.tw12483276189755474720 : True := trivial
theorem main.tw4585930131862741453 : True := trivial
theorem main.tw1628013610222277130 : True := trivial
theorem main.tw16721930046160240684 : True := trivial
theorem main.tw14009396871252706886 : True := trivial
theorem main.tw6449824600675878752 : True := trivial
theorem main.tw12057704586751987240 : True := trivial
theorem main.tw12670839924663504800 : True := trivial
theorem main.tw11251407683458634364 : True := trivial
theorem main.tw12252054271945606052 : True := trivial
set_option Elab.async true in
set_option tactic.hygienic true in
theorem main : PySem.Challenge.rw_ok0017_02.Holds := by
  w_on; o_law; k_head; (case hw => w_witness2)
  k_fill
  intro w s₀ s₁ mg mb G Y fa o pm cd doc dV kV ho hd hcd hD hmg hg args vals as hpre hlay hrd hwl hlo
  have KX := kIn_of Y
  refine Ground.open G ?_
  intro T B D TE TW
  have hfa : fa = 449 := by
    have := mg_of KX T.g (n := "law") (v := .ref 449) (by rfl)
    rw [hmg] at this
    injection this with this
    injection this
  subst hfa
  clear ho hd hcd hD hmg
  have hlo2 := hlo
  wrow_args hpre hlay hrd hwl hlo
  all_goals first | refine callC_kw (enter_call ?_) | refine enter_call ?_
  all_goals rename_i script _ _ _ _ _ _ _ a vs _ hL _ _ hr0 hI _ hlen _
  have ha : a ≠ sysModules := by
    cases hr0
    have := hlo2 a (by simp)
    simpa using this
  refine codeAny_mono (Mine.join_law (N := 300) KX T ha hL hI (by unfold Mine.big; (first | lia | omega)) (by rfl) (by (first | lia | omega)) (Mine.law_S (m := 99) ?tab script (by (first | lia | omega)))) fun r s' x => ?_
  case tab => constructor <;> first | rfl | (constructor <;> rfl)
  obtain ⟨rfl, hk, hos, hgn⟩ := x
  exact ⟨.inl ⟨_, _, [], rfl, fun _ => rfl, ReadsW.bool true, by first | rfl | wrow_post, fun _ => ⟨List.nodup_nil, fun _ hm => (nomatch hm)⟩⟩, .of_keep hk, hos, .of_eq (hgn.trans hg)⟩
end
end Mine
theorem PySem.Challenge.cw_ok0017_02_holds : PySem.Challenge.rw_ok0017_02.Holds :=
  Mine.main
