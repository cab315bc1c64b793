import PyProof.Rows.All
import Wide.All
import Open.Line
import OpenK.KCell
import OpenK.KGet
import OpenK.KMake
import OpenK.KWalk
import OpenK.KCls
import PyProof.Rows.Range3
import Open.FastT9
import KE.KWords
import Lean
import PySem.Challenge.RW_nt0609_01
set_option Elab.async false
set_option linter.all false
section
open PySem PySem.W PySem.Calls PyProof.Rows
namespace Mine

/-- plain values: `ref i` names the i-th object of the abstract heap; `etup` is the empty tuple that stands as a default; `bl ns` a list of ints that stood before the call and stays as it was -/
inductive V where
  | none | bool (b : Bool) | int (i : Int) | str (s : Str) | ref (i : Nat) | etup | bl (ns : List Int)
  deriving DecidableEq

/-- plain objects -/
inductive AObj where
  | list (vs : List V) | tup (vs : List V) | inst (c : Nat) (fs : List (Nat × V)) | dict (kvs : List (Int × V))

noncomputable abbrev AH := List AObj
noncomputable abbrev Loc := List (Option V)

inductive Bo where
  | add | sub | fdiv | mod
  deriving DecidableEq
inductive Co where
  | eq | ne | lt | gt | ge | isin | notin
  deriving DecidableEq

set_option genSizeOf false
set_option genInjectivity false
mutual
inductive X where
  | loc (i : Nat) | cint (i : Int) | cstr (s : Str) | cbool (b : Bool) | etup
  | neg (a : X) | not (a : X) | bin (o : Bo) (a b : X)
  | and (xs : Xs) | or (xs : Xs)
  | cmp (o : Co) (a b : X) | cmp2 (a : X) (o : Co) (b : X) (p : Co) (c : X)
  | inS (neg : Bool) (a : X) (ss : List Str)
  | nil (neg : Bool) (a : X)
  | ite (c a b : X)
  | tup (xs : Xs) | lst (xs : Xs)
  | idx (a i : X) | upto (a hi : X) | part (a lo hi : X) | whole (a : X)
  | attr (a : X) (f : Nat)
  | call (g : Nat) (xs : Xs) | meth (a : X) (m : Nat) (xs : Xs) | new (c : Nat) (xs : Xs)
  | app (a x : X) | pop (a : X) | index (a x : X) | ins (a i x : X) | ext (a b : X) | len (a : X) | dget (a k d : X)
  | split (a : X) | mkl (a : X) | dnil
  | comp (elt : X) (slot : Nat) (src : X) (cond : X)
  | compR (elt : X) (slot : Nat) (hi : X) (cond : X)
  | stuck
inductive Xs where
  | nil | cons (x : X) (xs : Xs)
end

mutual
inductive S where
  | expr (x : X) | asg (i : Nat) (x : X) | setA (a : X) (f : Nat) (x : X) | setI (a i x : X) | aug (i : Nat) (o : Bo) (x : X)
  | ife (c : X) (a b : Ss) | whl (c : X) (b : Ss) | forL (slot : Nat) (src : X) (b : Ss) | forR (slot : Nat) (hi : X) (b : Ss) | forD (slot : Nat) (hi lo : X) (b : Ss)
  | ret (x : X) | retN | stuck
inductive Ss where
  | nil | cons (s : S) (ss : Ss)
end

set_option genSizeOf true
set_option genInjectivity true
inductive Fl where
  | next | ret (v : V)

/-! ## what the words mean on the abstract heap -/

noncomputable def getL (v : V) (H : AH) : Option (List V) := match v with
  | .ref i => (match H[i]? with | some (.list vs) => some vs | _ => none)
  | _ => none
/-- the items of a list or a tuple -/
noncomputable def itemsOf (v : V) (H : AH) : Option (List V) := match v with
  | .ref i => (match H[i]? with | some (.list vs) => some vs | some (.tup vs) => some vs | _ => none)
  | _ => none
/-- .. or of a list that stood before -/
noncomputable def itemsB (v : V) (H : AH) : Option (List V) := match v with
  | .bl ns => some (ns.map V.int)
  | _ => itemsOf v H
noncomputable def objOf (v : V) (H : AH) : Option AObj := match v with
  | .ref i => H[i]?
  | _ => none
noncomputable def lk (f : Nat) : List (Nat × V) → Option V
  | [] => none
  | (g, v) :: r => if g = f then some v else lk f r
noncomputable def put (f : Nat) (v : V) : List (Nat × V) → List (Nat × V)
  | [] => [(f, v)]
  | (g, u) :: r => if g = f then (g, v) :: r else (g, u) :: put f v r
noncomputable def lkI (k : Int) : List (Int × V) → Option V
  | [] => none
  | (g, v) :: r => if g = k then some v else lkI k r
noncomputable def putI (k : Int) (v : V) : List (Int × V) → List (Int × V)
  | [] => [(k, v)]
  | (g, u) :: r => if g = k then (g, v) :: r else (g, u) :: putI k v r
noncomputable def getA (v : V) (f : Nat) (H : AH) : Option V := match v with
  | .ref i => (match H[i]? with | some (.inst _ fs) => lk f fs | _ => none)
  | _ => none
noncomputable def clsOf (v : V) (H : AH) : Option Nat := match v with
  | .ref i => (match H[i]? with | some (.inst c _) => some c | _ => none)
  | _ => none
/-- the size line that every list here stays below -/
noncomputable def lid : Nat := 100000

noncomputable def isDict (v : V) (H : AH) : Option (List (Int × V)) := match v with
  | .ref i => (match H[i]? with | some (.dict kvs) => some kvs | _ => none)
  | _ => none

noncomputable def truth (v : V) (H : AH) : Option Bool := match v with
  | .none => some false
  | .bool b => some b
  | .int i => some (i != 0)
  | .ref i => (match H[i]? with | some (.list vs) => if vs.length ≤ lid then some (!vs.isEmpty) else none | _ => none)
  | _ => none

noncomputable def asI : V → Option Int
  | .int a => some a
  | _ => none
noncomputable def asS : V → Option Str
  | .str a => some a
  | _ => none
noncomputable def asB : V → Option Bool
  | .bool a => some a
  | _ => none
noncomputable def int2 {α : Type} (v u : V) (f : Int → Int → Option α) : Option α := (asI v).bind fun a => (asI u).bind (f a)
noncomputable def addV (v u : V) (H : AH) : Option (V × AH) := match v with
  | .int a => (asI u).map fun b => (.int (a + b), H)
  | .str a => (asS u).bind fun b => if a.length + b.length ≤ lid then some (.str (a ++ b), H) else none
  | v => (getL v H).bind fun a => (getL u H).bind fun b => if a.length + b.length ≤ lid then some (.ref H.length, H ++ [.list (a ++ b)]) else none
noncomputable def opBin (o : Bo) (v u : V) (H : AH) : Option (V × AH) := match o with
  | .add => addV v u H
  | .sub => int2 v u fun a b => some (.int (a - b), H)
  | .fdiv => int2 v u fun a b => if 0 < b ∧ b ≤ lid then some (.int (a.fdiv b), H) else none
  | .mod => int2 v u fun a b => if b = 0 then none else some (.int (a.fmod b), H)

/-- every pair is told (also behind a difference) -/
noncomputable def all2 (f : V → V → Option Bool) : List V → List V → Option Bool
  | x :: a, y :: b => (match f x y, all2 f a b with
      | some p, some q => some (p && q)
      | _, _ => none)
  | _, _ => some true
noncomputable def prim (v u : V) : Option Bool := match v with
  | .int a => (asI u).map fun b => a == b
  | .str a => (asS u).map fun b => a == b
  | .bool a => (asB u).map fun b => a == b
  | _ => none
/-- two lists or two tuples -/
noncomputable def seqEq (f : V → V → Option Bool) (o o' : AObj) : Option Bool := match o with
  | .list a => (match o' with | .list b => (if a.length ≤ lid ∧ b.length ≤ lid then (if a.length = b.length then all2 f a b else some false) else none) | _ => none)
  | .tup a => (match o' with | .tup b => (if a.length ≤ lid ∧ a.length = b.length then all2 f a b else none) | _ => none)
  | _ => none
/-- equality of plain values, `d` deep -/
noncomputable def veq (H : AH) : Nat → V → V → Option Bool
  | 0 => prim
  | d + 1 => fun v u => match objOf v H with
    | some o => (objOf u H).bind (seqEq (veq H d) o)
    | none => prim v u

/-- every item is told against x -/
noncomputable def anyEq (H : AH) (x : V) : List V → Option Bool
  | [] => some false
  | y :: r => (match veq H 0 y x, anyEq H x r with
      | some p, some q => some (p || q)
      | _, _ => none)

noncomputable def inV (v u : V) (H : AH) : Option Bool := (itemsOf u H).bind fun vs => if vs.length ≤ lid then anyEq H v vs else none
noncomputable def opCmp (o : Co) (v u : V) (H : AH) : Option Bool := match o with
  | .eq => veq H 2 v u
  | .ne => (veq H 2 v u).map (!·)
  | .lt => int2 v u fun a b => some (decide (a < b))
  | .gt => int2 v u fun a b => some (decide (a > b))
  | .ge => int2 v u fun a b => some (decide (a ≥ b))
  | .isin => inV v u H
  | .notin => (inV v u H).map (!·)

/-- an item of a list or a tuple, counted from behind where the place is negative -/
noncomputable def itemAt (v i : V) (H : AH) : Option V := match itemsB v H, i with
  | some vs, .int k => if vs.length ≤ lid then (if 0 ≤ k then (if k ≤ lid then vs[k.toNat]? else none) else if -(vs.length : Int) ≤ k then vs[(k + vs.length).toNat]? else none) else none
  | _, _ => none

noncomputable abbrev Cl := Nat → List V → AH → (V → AH → Prop) → Prop
/-- the classes: method m of class c; the maker of class c -/
structure Tab where
  meth : Nat → Nat → Option Nat
  init : Nat → Option Nat

/-- the items of a comprehension, one by one -/
noncomputable def iterC (f : V → AH → (Option V → AH → Prop) → Prop) (ok : AH → Prop) : List V → List V → AH → (List V → AH → Prop) → Prop
  | [], acc, H, P => P acc H
  | x :: xs, acc, H, P => f x H fun r H' => ok H' ∧ acc.length ≤ lid ∧ iterC f ok xs (acc ++ r.toList) H' P
noncomputable def iterS (f : V → Loc → AH → (Fl → Loc → AH → Prop) → Prop) (ok : AH → Prop) : List V → Loc → AH → (Fl → Loc → AH → Prop) → Prop
  | [], l, H, P => P .next l H
  | x :: xs, l, H, P => f x l H fun fl l' H' => match fl with
      | .next => ok H' ∧ iterS f ok xs l' H' P
      | .ret v => P (.ret v) l' H'

noncomputable def upL (a : Int) : List V := (List.range a.toNat).map fun (k : Nat) => V.int (k : Int)
noncomputable def downL (hi lo : Int) : List V := (List.range (hi - lo).toNat).map fun (k : Nat) => V.int (hi - (k : Int))

/-- what a test says -/
noncomputable def tst (K : (V → AH → Prop) → Prop) (P : Bool → AH → Prop) : Prop := K fun v H => ∃ b, truth v H = some b ∧ P b H

section
variable (T : Tab) (cl : Cl)
mutual
noncomputable def vcE : X → Loc → AH → (V → AH → Prop) → Prop
  | .loc i, l, H, P => ∃ v, l[i]? = some (some v) ∧ P v H
  | .cint i, _, H, P => P (.int i) H
  | .cstr s, _, H, P => P (.str s) H
  | .cbool b, _, H, P => P (.bool b) H
  | .etup, _, _, _ => False
  | .neg a, l, H, P => vcE a l H fun v H => ∃ i, v = .int i ∧ P (.int (-i)) H
  | .not a, l, H, P => tst (vcE a l H) fun b H => P (.bool (!b)) H
  | .bin o a b, l, H, P => vcE a l H fun v H => vcE b l H fun u H => ∃ r, opBin o v u H = some r ∧ P r.1 r.2
  | .and xs, l, H, P => vcAnd xs l H P
  | .or xs, l, H, P => vcOr xs l H P
  | .cmp o a b, l, H, P => vcE a l H fun v H => vcE b l H fun u H => ∃ r, opCmp o v u H = some r ∧ P (.bool r) H
  | .cmp2 a o b p c, l, H, P => vcE a l H fun v H => vcE b l H fun u H => ∃ r, opCmp o v u H = some r ∧
      (if r then vcE c l H fun z H => ∃ q, opCmp p u z H = some q ∧ P (.bool q) H else P (.bool false) H)
  | .inS neg a ss, l, H, P => vcE a l H fun v H => ∃ s, v = .str s ∧ P (.bool (neg ^^ ss.contains s)) H
  | .nil neg a, l, H, P => vcE a l H fun v H => ∃ vs, getL v H = some vs ∧ vs.length ≤ lid ∧ P (.bool (neg ^^ vs.isEmpty)) H
  | .ite c a b, l, H, P => tst (vcE c l H) fun t H => if t then vcE a l H P else vcE b l H P
  | .tup xs, l, H, P => vcEs xs l H fun vs H => vs.length ≤ lid ∧ P (.ref H.length) (H ++ [.tup vs])
  | .lst xs, l, H, P => vcEs xs l H fun vs H => vs.length ≤ lid ∧ P (.ref H.length) (H ++ [.list vs])
  | .idx a i, l, H, P => vcE a l H fun v H => vcE i l H fun k H => ∃ r, itemAt v k H = some r ∧ P r H
  | .upto a hi, l, H, P => vcE a l H fun v H => vcE hi l H fun k H => ∃ vs n, getL v H = some vs ∧ vs.length ≤ lid ∧ k = .int n ∧ 0 ≤ n ∧ n ≤ vs.length ∧ P (.ref H.length) (H ++ [.list (vs.take n.toNat)])
  | .part a lo hi, l, H, P => vcE a l H fun v H => vcE lo l H fun j H => vcE hi l H fun k H => ∃ vs m n, getL v H = some vs ∧ vs.length ≤ lid ∧ j = .int m ∧ k = .int n ∧ 0 ≤ m ∧ m ≤ n ∧ n ≤ vs.length ∧
      P (.ref H.length) (H ++ [.list ((vs.take n.toNat).drop m.toNat)])
  | .whole a, l, H, P => vcE a l H fun v H => ∃ vs, getL v H = some vs ∧ vs.length ≤ lid ∧ P (.ref H.length) (H ++ [.list vs])
  | .attr a f, l, H, P => vcE a l H fun v H => ∃ r, getA v f H = some r ∧ P r H
  | .call g xs, l, H, P => vcEs xs l H fun vs H => cl g vs H P
  | .meth a m xs, l, H, P => vcE a l H fun v H => ∃ c g, clsOf v H = some c ∧ T.meth c m = some g ∧ vcEs xs l H fun vs H => cl g (v :: vs) H P
  | .new c xs, l, H, P => vcEs xs l H fun vs H => ∃ g, T.init c = some g ∧ cl g (.ref H.length :: vs) (H ++ [.inst c []]) fun r H' => r = .none ∧ P (.ref H.length) H'
  | .app a x, l, H, P => vcE a l H fun v H => (getL v H).isSome = true ∧ vcE x l H fun u H => ∃ i vs, v = .ref i ∧ H[i]? = some (.list vs) ∧ vs.length ≤ lid ∧ P .none (H.set i (.list (vs ++ [u])))
  | .pop a, l, H, P => vcE a l H fun v H => ∃ i vs u, v = .ref i ∧ H[i]? = some (.list (vs ++ [u])) ∧ vs.length ≤ lid ∧ P u (H.set i (.list vs))
  | .index a x, l, H, P => vcE a l H fun v H => (getL v H).isSome = true ∧ vcE x l H fun u H => ∃ vs n k, getL v H = some vs ∧ u = .int n ∧ vs.length ≤ lid ∧ (∀ y ∈ vs, ∃ j, y = .int j) ∧ vs.idxOf (.int n) = k ∧ k < vs.length ∧ P (.int k) H
  | .ins a i x, l, H, P => vcE a l H fun v H => (getL v H).isSome = true ∧ vcE i l H fun k H => vcE x l H fun u H => ∃ j vs n, v = .ref j ∧ H[j]? = some (.list vs) ∧ vs.length ≤ lid ∧ k = .int n ∧ 0 ≤ n ∧ n ≤ vs.length ∧
      P .none (H.set j (.list (vs.take n.toNat ++ u :: vs.drop n.toNat)))
  | .ext a b, l, H, P => vcE a l H fun v H => (getL v H).isSome = true ∧ vcE b l H fun u H => ∃ i vs us, v = .ref i ∧ H[i]? = some (.list vs) ∧ getL u H = some us ∧ u ≠ v ∧ vs.length + us.length ≤ lid ∧ P .none (H.set i (.list (vs ++ us)))
  | .len a, l, H, P => vcE a l H fun v H => ∃ vs, itemsB v H = some vs ∧ vs.length ≤ lid ∧ P (.int vs.length) H
  | .dget a k d, l, H, P => vcE a l H fun v H => (isDict v H).isSome = true ∧ vcE k l H fun u H => vcE d l H fun z H => ∃ kvs n, isDict v H = some kvs ∧ u = .int n ∧ P ((lkI n kvs).getD z) H
  | .split a, l, H, P => vcE a l H fun v H => ∃ s, v = .str s ∧ s.length ≤ lid ∧ P (.ref H.length) (H ++ [.list ((PySem.Txt.words s).map V.str)])
  | .mkl a, l, H, P => vcE a l H fun v H => v = .etup ∧ P (.ref H.length) (H ++ [.list []])
  | .dnil, _, H, P => P (.ref H.length) (H ++ [.dict []])
  | .comp elt slot src cond, l, H, P => vcE src l H fun v H => ∃ xs, itemsOf v H = some xs ∧ xs.length ≤ lid ∧
      iterC (fun x H K => tst (vcE cond (l.set slot (some x)) H) fun b H => if b then vcE elt (l.set slot (some x)) H fun r H => K (some r) H else K none H) (fun H' => objOf v H' = objOf v H) xs [] H
        fun acc H => P (.ref H.length) (H ++ [.list acc])
  | .compR elt slot hi cond, l, H, P => vcE hi l H fun v H => ∃ n, v = .int n ∧ 0 ≤ n ∧ n ≤ lid ∧
      iterC (fun x H K => tst (vcE cond (l.set slot (some x)) H) fun b H => if b then vcE elt (l.set slot (some x)) H fun r H => K (some r) H else K none H) (fun _ => True) (upL n) [] H
        fun acc H => P (.ref H.length) (H ++ [.list acc])
  | .stuck, _, _, _ => False
noncomputable def vcEs : Xs → Loc → AH → (List V → AH → Prop) → Prop
  | .nil, _, H, P => P [] H
  | .cons x xs, l, H, P => vcE x l H fun v H => vcEs xs l H fun vs H => P (v :: vs) H
noncomputable def vcAnd : Xs → Loc → AH → (V → AH → Prop) → Prop
  | .nil, _, _, _ => False
  | .cons x .nil, l, H, P => vcE x l H P
  | .cons x (.cons y ys), l, H, P => vcE x l H fun v H => ∃ b, truth v H = some b ∧ if b then vcAnd (.cons y ys) l H P else P v H
noncomputable def vcOr : Xs → Loc → AH → (V → AH → Prop) → Prop
  | .nil, _, _, _ => False
  | .cons x .nil, l, H, P => vcE x l H P
  | .cons x (.cons y ys), l, H, P => vcE x l H fun v H => ∃ b, truth v H = some b ∧ if b then P v H else vcOr (.cons y ys) l H P
end

mutual
noncomputable def vcS : S → Loc → AH → (Fl → Loc → AH → Prop) → Prop
  | .expr x, l, H, P => vcE T cl x l H fun v H => (∀ i, v ≠ .ref i) ∧ v ≠ .etup ∧ P .next l H
  | .asg i x, l, H, P => vcE T cl x l H fun v H => P .next (l.set i (some v)) H
  | .setA a f x, l, H, P => vcE T cl x l H fun u H => vcE T cl a l H fun v H => ∃ i c fs, v = .ref i ∧ H[i]? = some (.inst c fs) ∧ fs.length ≤ 100 ∧ P .next l (H.set i (.inst c (put f u fs)))
  | .setI a k x, l, H, P => vcE T cl x l H fun u H => vcE T cl a l H fun v H => vcE T cl k l H fun j H => ∃ i n, v = .ref i ∧ j = .int n ∧
      ((∃ vs, H[i]? = some (.list vs) ∧ vs.length ≤ lid ∧ 0 ≤ n ∧ n < vs.length ∧ P .next l (H.set i (.list (vs.set n.toNat u)))) ∨
       (∃ kvs, H[i]? = some (.dict kvs) ∧ kvs.length ≤ lid ∧ P .next l (H.set i (.dict (putI n u kvs)))))
  | .aug i o x, l, H, P => ∃ v, l[i]? = some (some v) ∧ vcE T cl x l H fun u H => ∃ a b, v = .int a ∧ u = .int b ∧ ∃ r, opBin o v u H = some r ∧ P .next (l.set i (some r.1)) r.2
  | .ife c a b, l, H, P => tst (vcE T cl c l H) fun t H => if t then vcSs a l H P else vcSs b l H P
  | .whl c b, l, H, P => ∃ I : Nat → Loc → AH → Prop, (∃ n, I n l H) ∧ ∀ n l H, I n l H →
      tst (vcE T cl c l H) fun t H => if t then vcSs b l H fun fl l' H' => (match fl with | .next => ∃ m, m < n ∧ I m l' H' | .ret v => P (.ret v) l' H') else P .next l H
  | .forL slot src b, l, H, P => vcE T cl src l H fun v H => ∃ xs, itemsOf v H = some xs ∧ xs.length ≤ lid ∧
      iterS (fun x l H K => vcSs b (l.set slot (some x)) H K) (fun H' => objOf v H' = objOf v H) xs l H P
  | .forR slot hi b, l, H, P => vcE T cl hi l H fun v H => ∃ n, v = .int n ∧ -lid ≤ n ∧ n ≤ lid ∧
      iterS (fun x l H K => vcSs b (l.set slot (some x)) H K) (fun _ => True) (upL n) l H P
  | .forD slot hi lo b, l, H, P => vcE T cl hi l H fun v H => vcE T cl lo l H fun u H => ∃ n m, v = .int n ∧ u = .int m ∧ -lid ≤ n ∧ n ≤ lid ∧ -lid ≤ m ∧ m ≤ lid ∧
      iterS (fun x l H K => vcSs b (l.set slot (some x)) H K) (fun _ => True) (downL n m) l H P
  | .ret x, l, H, P => vcE T cl x l H fun v H => P (.ret v) l H
  | .retN, l, H, P => P (.ret .none) l H
  | .stuck, _, _, _ => False
noncomputable def vcSs : Ss → Loc → AH → (Fl → Loc → AH → Prop) → Prop
  | .nil, l, H, P => P .next l H
  | .cons s ss, l, H, P => vcS s l H fun fl l H => match fl with
      | .next => vcSs ss l H P
      | .ret v => P (.ret v) l H
end
end

/-- a def: its parameters are the first slots; `dfl` are the defaults of the last of them -/
structure Fn where
  np : Nat
  ns : Nat
  dfl : List V
  body : Ss

noncomputable def vcFn (T : Tab) (cl : Cl) (f : Fn) (args : List V) (H : AH) (P : V → AH → Prop) : Prop :=
  args.length ≤ f.np ∧ f.np ≤ args.length + f.dfl.length ∧ f.dfl.length ≤ f.np ∧
  vcSs T cl f.body ((args ++ f.dfl.drop (args.length + f.dfl.length - f.np)).map some ++ List.replicate (f.ns - f.np) none) H fun fl _ H' => match fl with
    | .next => P .none H'
    | .ret v => P v H'

noncomputable def vcCall (T : Tab) (fs : List Fn) : Nat → Cl
  | 0 => fun _ _ _ _ => False
  | k + 1 => fun g args H P => ∃ f, fs[g]? = some f ∧ vcFn T (vcCall T fs k) f args H P

end Mine
end
section
open PySem PySem.W PySem.Calls PyProof.Rows
namespace Mine

noncomputable abbrev Mu := List (Addr × Option Addr)
noncomputable def feet (p : Addr × Option Addr) : List Addr := p.1 :: p.2.toList
noncomputable def foot (μ : Mu) : List Addr := μ.flatMap feet
theorem foot_append (μ ν : Mu) : foot (μ ++ ν) = foot μ ++ foot ν := List.flatMap_append
theorem mem_foot {μ : Mu} {i : Nat} {p : Addr × Option Addr} (h : μ[i]? = some p) {a : Addr} (ha : a ∈ feet p) : a ∈ foot μ := List.mem_flatMap.mpr ⟨p, List.mem_of_getElem? h, ha⟩

/-- what stays the same all through -/
structure Cx where
  prog : Program
  w : World
  K : Frag
  B : Heap
  names : List Str
  cad : Nat → Addr
  nc : Nat

noncomputable def Ints : List Int → List Value → Prop
  | [], [] => True
  | i :: is, x :: xs => (∃ t, x = .int i t) ∧ Ints is xs
  | _, _ => False
noncomputable def RV (B : Heap) (μ : Mu) : V → Value → Prop
  | .none, x => x = .none
  | .bool b, x => x = .bool b
  | .int i, x => ∃ t, x = .int i t
  | .str s, x => ∃ t, x = .str s t
  | .ref i, x => ∃ p, μ[i]? = some p ∧ x = .ref p.1
  | .etup, x => ∃ a, x = .ref a ∧ IsTup B a #[]
  | .bl ns, x => ∃ a xs, x = .ref a ∧ B.IsList a xs.toArray ∧ Ints ns xs
noncomputable def RVs (B : Heap) (μ : Mu) : List V → List Value → Prop
  | [], [] => True
  | v :: vs, x :: xs => RV B μ v x ∧ RVs B μ vs xs
  | _, _ => False
noncomputable def RDs (B : Heap) (μ : Mu) : List (Int × V) → List (Int × Value) → Prop
  | [], [] => True
  | (k, v) :: r, (k', x) :: r' => k = k' ∧ RV B μ v x ∧ RDs B μ r r'
  | _, _ => False
/-- the entries of an object's dict -/
noncomputable def REs (c : Cx) (μ : Mu) : List (Nat × V) → List DictEntry → Prop
  | [], [] => True
  | (f, v) :: fs, e :: es => (∃ nm t x, c.names[f]? = some nm ∧ e = ⟨PyData.keyHash c.w.params nm, .str nm t, x⟩ ∧ RV c.B μ v x) ∧ REs c μ fs es
  | _, _ => False
noncomputable abbrev tupOf (xs : List Value) (n : Nat) : Obj := { cls := .type "tuple", data := .seq xs.toArray n }
noncomputable def RO (c : Cx) (h : Heap) (μ : Mu) : AObj → Addr × Option Addr → Prop
  | .list vs, p => p.2 = none ∧ ∃ xs n, h.get? p.1 = some (listOf xs.toArray n) ∧ RVs c.B μ vs xs
  | .tup vs, p => p.2 = none ∧ ∃ xs n, h.get? p.1 = some (tupOf xs n) ∧ RVs c.B μ vs xs
  | .inst k fs, p => k < c.nc ∧ ∃ d es n, p.2 = some d ∧ h.get? p.1 = some (instObj (c.cad k) d) ∧ h.get? d = some (dictOf es n) ∧ REs c μ fs es
  | .dict kvs, p => p.2 = none ∧ ∃ ws, h.DictOf (intKind c.prog c.w) p.1 ws ∧ RDs c.B μ kvs ws

/-- the heap bears the abstract heap H by way of μ -/
structure St (c : Cx) (h : Heap) (μ : Mu) (H : AH) : Prop where
  base : ∀ b o, c.B.get? b = some o → h.get? b = some o
  low : ∀ a ∈ foot μ, c.B.get? a = none ∧ ∃ o, h.get? a = some o
  nodup : (foot μ).Nodup
  len : μ.length = H.length
  obj : ∀ (i : Nat) (o : AObj) (p : Addr × Option Addr), H[i]? = some o → μ[i]? = some p → RO c h μ o p

/-- from (μ, h) to (μ', h'): only what μ bears, the own places and new objects are turned -/
structure Ext (own : List Addr) (μ : Mu) (h : Heap) (μ' : Mu) (h' : Heap) : Prop where
  pre : ∃ e, μ' = μ ++ e ∧ ∀ a ∈ foot e, a ∉ foot μ → a ∉ own → h.get? a = none
  keep : ∀ b o, h.get? b = some o → b ∉ foot μ → b ∉ own → h'.get? b = some o

theorem Ext.refl {own : List Addr} {μ : Mu} {h : Heap} : Ext own μ h μ h := ⟨⟨[], by simp, by simp [foot]⟩, fun _ _ e _ _ => e⟩
theorem Ext.trans {own : List Addr} {μ μ' μ'' : Mu} {h h' h'' : Heap} (x : Ext own μ h μ' h') (y : Ext own μ' h' μ'' h'') : Ext own μ h μ'' h'' := by
  obtain ⟨⟨e, rfl, he⟩, k⟩ := x
  obtain ⟨⟨e', rfl, he'⟩, k'⟩ := y
  have hno : ∀ a o, h.get? a = some o → a ∉ foot μ → a ∉ own → a ∉ foot (μ ++ e) := fun a o ha hm ho hx => by
    rw [foot_append] at hx
    rcases List.mem_append.mp hx with hx | hx
    · exact hm hx
    · rw [he a hx hm ho] at ha; cases ha
  refine ⟨⟨e ++ e', by simp, fun a ha hm ho => ?_⟩, fun b o hb hm ho => k' b o (k b o hb hm ho) (hno b o hb hm ho) ho⟩
  rw [foot_append] at ha
  rcases List.mem_append.mp ha with ha | ha
  · exact he a ha hm ho
  · cases q : h.get? a with
    | none => rfl
    | some o =>
      have := he' a ha (hno a o q hm ho) ho
      rw [k a o q hm ho] at this; cases this
theorem Ext.widen {own own' : List Addr} {μ μ' : Mu} {h h' : Heap} (x : Ext own μ h μ' h') (hs : ∀ a ∈ own, a ∈ own' ∨ h.get? a = none) : Ext own' μ h μ' h' := by
  obtain ⟨⟨e, rfl, he⟩, k⟩ := x
  refine ⟨⟨e, rfl, fun a ha hm ho => ?_⟩, fun b o hb hn ho => k b o hb hn fun hm => (hs b hm).elim ho fun e => by rw [hb] at e; (cases e)⟩
  by_cases hw : a ∈ own
  · exact (hs a hw).resolve_left ho
  · exact he a ha hm hw
/-- what stands apart from μ stays apart -/
theorem Ext.off {own : List Addr} {μ μ' : Mu} {h h' : Heap} (x : Ext own μ h μ' h') {a : Addr} {o : Obj} (ha : h.get? a = some o) (hm : a ∉ foot μ) (ho : a ∉ own) : a ∉ foot μ' ∧ h'.get? a = some o := by
  refine ⟨fun hx => ?_, x.keep a o ha hm ho⟩
  obtain ⟨⟨e, rfl, he⟩, k⟩ := x
  rw [foot_append] at hx
  rcases List.mem_append.mp hx with hx | hx
  · exact hm hx
  · rw [he a hx hm ho] at ha; cases ha

theorem RV.mono {B : Heap} {μ μ' : Mu} (h : ∃ e, μ' = μ ++ e) : ∀ {v : V} {x : Value}, RV B μ v x → RV B μ' v x := by
  obtain ⟨e, rfl⟩ := h
  intro v x hr
  cases v <;> try exact hr
  obtain ⟨p, hp, rfl⟩ := hr
  exact ⟨p, by rw [List.getElem?_append_left (List.getElem?_eq_some_iff.mp hp).1]; exact hp, rfl⟩
theorem RVs.mono {B : Heap} {μ μ' : Mu} (h : ∃ e, μ' = μ ++ e) : ∀ {vs : List V} {xs : List Value}, RVs B μ vs xs → RVs B μ' vs xs
  | [], [], _ => trivial
  | _ :: _, _ :: _, ⟨a, b⟩ => ⟨a.mono h, RVs.mono h b⟩
  | [], _ :: _, x => x.elim
  | _ :: _, [], x => x.elim
theorem RDs.mono {B : Heap} {μ μ' : Mu} (h : ∃ e, μ' = μ ++ e) : ∀ {vs : List (Int × V)} {xs : List (Int × Value)}, RDs B μ vs xs → RDs B μ' vs xs
  | [], [], _ => trivial
  | (_, _) :: _, (_, _) :: _, ⟨e, a, b⟩ => ⟨e, a.mono h, RDs.mono h b⟩
  | [], _ :: _, x => x.elim
  | _ :: _, [], x => x.elim
theorem RDs.length {B : Heap} {μ : Mu} : ∀ {vs : List (Int × V)} {xs : List (Int × Value)}, RDs B μ vs xs → xs.length = vs.length
  | [], [], _ => rfl
  | (_, _) :: _, (_, _) :: _, ⟨_, _, b⟩ => by simp [RDs.length b]
  | [], _ :: _, x => x.elim
  | _ :: _, [], x => x.elim
theorem RDs.find {B : Heap} {μ : Mu} (k : Int) : ∀ {vs : List (Int × V)} {xs : List (Int × Value)}, RDs B μ vs xs → match lkI k vs with
      | some v => ∃ x, valueAt xs k = some x ∧ RV B μ v x
      | none => valueAt xs k = none
  | [], [], _ => rfl
  | (g, v) :: vs, (g', x) :: xs, ⟨e, a, b⟩ => by
    subst e
    have ih := RDs.find k b
    unfold lkI valueAt
    rw [List.find?_cons]
    by_cases h : g = k
    · rw [if_pos h]
      simp only [h, decide_true]
      exact ⟨x, rfl, a⟩
    · rw [if_neg h]
      simp only [h, decide_false]
      exact ih
  | [], _ :: _, x => x.elim
  | _ :: _, [], x => x.elim
theorem RDs.none_of {B : Heap} {μ : Mu} (k : Int) : ∀ {vs : List (Int × V)} {xs : List (Int × Value)}, RDs B μ vs xs → (xs.any fun kv => kv.1 = k) = false → lkI k vs = none
  | [], [], _, _ => rfl
  | (g, v) :: vs, (g', x) :: xs, ⟨e, a, b⟩, h => by
    subst e
    rw [List.any_cons, Bool.or_eq_false_iff] at h
    unfold lkI
    rw [if_neg (by simpa using h.1)]
    exact RDs.none_of k b h.2
  | [], _ :: _, x, _ => x.elim
  | _ :: _, [], x, _ => x.elim
theorem RDs.putNew {B : Heap} {μ : Mu} {k : Int} {v : V} {x : Value} (rv : RV B μ v x) : ∀ {vs : List (Int × V)} {xs : List (Int × Value)}, RDs B μ vs xs → (xs.any fun kv => kv.1 = k) = false → RDs B μ (putI k v vs) (xs ++ [(k, x)])
  | [], [], _, _ => ⟨rfl, rv, trivial⟩
  | (g, w) :: vs, (g', y) :: xs, ⟨e, a, b⟩, h => by
    subst e
    rw [List.any_cons, Bool.or_eq_false_iff] at h
    unfold putI
    rw [if_neg (by simpa using h.1)]
    exact ⟨rfl, a, RDs.putNew rv b h.2⟩
  | [], _ :: _, x, _ => x.elim
  | _ :: _, [], x, _ => x.elim
theorem RDs.putOld {B : Heap} {μ : Mu} {k : Int} {v : V} {x : Value} (rv : RV B μ v x) : ∀ {vs : List (Int × V)} {xs : List (Int × Value)}, RDs B μ vs xs → (xs.any fun kv => kv.1 = k) = true → (xs.map (·.1)).Nodup → RDs B μ (putI k v vs) (xs.map fun kv => if kv.1 = k then (kv.1, x) else kv)
  | [], [], _, h, _ => by simp at h
  | (g, w) :: vs, (g', y) :: xs, ⟨e, a, b⟩, h, hn => by
    subst e
    rw [List.map_cons, List.nodup_cons] at hn
    unfold putI
    by_cases hg : g = k
    · subst hg
      rw [if_pos rfl, List.map_cons, show (if ((g, y) : Int × Value).1 = g then (((g, y) : Int × Value).1, x) else (g, y)) = (g, x) from if_pos rfl]
      refine ⟨rfl, rv, ?_⟩
      have : (xs.map fun kv => if kv.1 = g then (kv.1, x) else kv) = xs := by
        conv => rhs; rw [← List.map_id xs]
        refine List.map_congr_left fun z hz => ?_
        have hzg : ¬ z.1 = g := fun e => hn.1 (by exact List.mem_map.mpr ⟨z, hz, e⟩)
        rw [if_neg hzg]; rfl
      rw [this]; exact b
    · rw [if_neg hg, List.map_cons, show (if ((g, y) : Int × Value).1 = k then (((g, y) : Int × Value).1, x) else (g, y)) = (g, y) from if_neg hg]
      rw [List.any_cons, Bool.or_eq_true] at h
      refine ⟨rfl, a, RDs.putOld rv b (h.resolve_left (by simpa using hg)) hn.2⟩
  | [], _ :: _, x, _, _ => x.elim
  | _ :: _, [], x, _, _ => x.elim
theorem RDs.stored {B : Heap} {μ : Mu} {k : Int} {v : V} {x : Value} (rv : RV B μ v x) {vs : List (Int × V)} {xs : List (Int × Value)} (r : RDs B μ vs xs) (hn : (xs.map (·.1)).Nodup) : RDs B μ (putI k v vs) (PySem.stored xs k x) := by
  unfold PySem.stored
  by_cases h : (xs.any fun kv => kv.1 = k) = true
  · rw [if_pos h]; exact r.putOld rv h hn
  · rw [if_neg h]; exact r.putNew rv (Bool.eq_false_iff.mpr h)
theorem REs.mono {c : Cx} {μ μ' : Mu} (h : ∃ e, μ' = μ ++ e) : ∀ {fs : List (Nat × V)} {es : List DictEntry}, REs c μ fs es → REs c μ' fs es
  | [], [], _ => trivial
  | _ :: _, _ :: _, ⟨⟨nm, t, x, a, b, d⟩, r⟩ => ⟨⟨nm, t, x, a, b, d.mono h⟩, REs.mono h r⟩
  | [], _ :: _, x => x.elim
  | _ :: _, [], x => x.elim
theorem Ext.ex {own : List Addr} {μ μ' : Mu} {h h' : Heap} (x : Ext own μ h μ' h') : ∃ e, μ' = μ ++ e := x.pre.imp fun _ y => y.1

theorem RVs.length {B : Heap} {μ : Mu} : ∀ {vs : List V} {xs : List Value}, RVs B μ vs xs → xs.length = vs.length
  | [], [], _ => rfl
  | _ :: _, _ :: _, ⟨_, b⟩ => by simp [RVs.length b]
  | [], _ :: _, x => x.elim
  | _ :: _, [], x => x.elim
theorem RVs.get {B : Heap} {μ : Mu} : ∀ {vs : List V} {xs : List Value} {i : Nat} {v : V}, RVs B μ vs xs → vs[i]? = some v → ∃ x, xs[i]? = some x ∧ RV B μ v x
  | _ :: _, _ :: _, 0, _, ⟨a, _⟩, e => ⟨_, rfl, by simpa using (Option.some.inj e) ▸ a⟩
  | _ :: _, _ :: _, i + 1, _, ⟨_, b⟩, e => by simpa using RVs.get (i := i) b (by simpa using e)
  | [], [], _, _, _, e => by simp at e
  | [], _ :: _, _, _, x, _ => x.elim
  | _ :: _, [], _, _, x, _ => x.elim
theorem RVs.append {B : Heap} {μ : Mu} : ∀ {vs : List V} {xs : List Value} {us : List V} {ys : List Value}, RVs B μ vs xs → RVs B μ us ys → RVs B μ (vs ++ us) (xs ++ ys)
  | [], [], _, _, _, h => h
  | _ :: _, _ :: _, _, _, ⟨a, b⟩, h => ⟨a, RVs.append b h⟩
  | [], _ :: _, _, _, x, _ => x.elim
  | _ :: _, [], _, _, x, _ => x.elim
theorem RVs.take {B : Heap} {μ : Mu} : ∀ {vs : List V} {xs : List Value} (n : Nat), RVs B μ vs xs → RVs B μ (vs.take n) (xs.take n)
  | _, _, 0, _ => by simp [RVs]
  | [], [], _ + 1, _ => trivial
  | _ :: _, _ :: _, n + 1, ⟨a, b⟩ => ⟨a, RVs.take n b⟩
  | [], _ :: _, _ + 1, x => x.elim
  | _ :: _, [], _ + 1, x => x.elim
theorem RVs.drop {B : Heap} {μ : Mu} : ∀ {vs : List V} {xs : List Value} (n : Nat), RVs B μ vs xs → RVs B μ (vs.drop n) (xs.drop n)
  | _, _, 0, h => h
  | [], [], _ + 1, _ => trivial
  | _ :: _, _ :: _, n + 1, ⟨_, b⟩ => RVs.drop n b
  | [], _ :: _, _ + 1, x => x.elim
  | _ :: _, [], _ + 1, x => x.elim
theorem RVs.set {B : Heap} {μ : Mu} {v : V} {x : Value} (hv : RV B μ v x) : ∀ {vs : List V} {xs : List Value} (n : Nat), RVs B μ vs xs → RVs B μ (vs.set n v) (xs.set n x)
  | [], [], _, _ => trivial
  | _ :: _, _ :: _, 0, ⟨_, b⟩ => ⟨hv, b⟩
  | _ :: _, _ :: _, n + 1, ⟨a, b⟩ => ⟨a, RVs.set hv n b⟩
  | [], _ :: _, _, x => x.elim
  | _ :: _, [], _, x => x.elim
theorem RVs.snoc {B : Heap} {μ : Mu} {vs : List V} {v : V} {xs : List Value} (h : RVs B μ (vs ++ [v]) xs) : ∃ ys x, xs = ys ++ [x] ∧ RVs B μ vs ys ∧ RV B μ v x := by
  induction vs generalizing xs with
  | nil =>
    match xs, h with
    | [x], ⟨a, _⟩ => exact ⟨[], x, rfl, trivial, a⟩
    | _ :: _ :: _, ⟨_, b⟩ => exact b.elim
  | cons u us ih =>
    match xs, h with
    | y :: ys, ⟨a, b⟩ =>
      obtain ⟨zs, x, rfl, c, d⟩ := ih b
      exact ⟨y :: zs, x, rfl, ⟨a, c⟩, d⟩

/-- an object's reading is kept where its own places are -/
theorem RO.keep {c : Cx} {h h' : Heap} {μ μ' : Mu} {o : AObj} {p : Addr × Option Addr} (r : RO c h μ o p) (he : ∃ e, μ' = μ ++ e) (hk : ∀ a ∈ feet p, ∀ x, h.get? a = some x → h'.get? a = some x) : RO c h' μ' o p := by
  obtain ⟨a, d⟩ := p
  cases o with
  | list vs => obtain ⟨e, xs, n, g, q⟩ := r; exact ⟨e, xs, n, hk _ (List.mem_cons_self) _ g, q.mono he⟩
  | tup vs => obtain ⟨e, xs, n, g, q⟩ := r; exact ⟨e, xs, n, hk _ (List.mem_cons_self) _ g, q.mono he⟩
  | inst k fs =>
    obtain ⟨hc, d', es, n, e, g, g', q⟩ := r
    cases e
    exact ⟨hc, d', es, n, rfl, hk _ (List.mem_cons_self) _ g, hk _ (List.mem_cons_of_mem _ (List.mem_cons_self)) _ g', q.mono he⟩
  | dict kvs =>
    obtain ⟨e, ws, g, q⟩ := r
    refine ⟨e, ws, ?_, q.mono he⟩
    obtain ⟨o, es, n, ho, r⟩ := g
    exact ⟨o, es, n, hk _ (List.mem_cons_self) _ ho, r⟩

theorem feet_apart {μ : Mu} (hn : (foot μ).Nodup) {i j : Nat} {p q : Addr × Option Addr} (hp : μ[i]? = some p) (hq : μ[j]? = some q) (hij : i ≠ j) : ∀ a ∈ feet p, a ∉ feet q := by
  induction μ generalizing i j with
  | nil => simp at hp
  | cons x r ih =>
    rw [foot, List.flatMap_cons, List.nodup_append] at hn
    obtain ⟨_, h2, h3⟩ := hn
    cases i with
    | zero =>
      cases j with
      | zero => exact absurd rfl hij
      | succ j =>
        simp only [List.getElem?_cons_zero, Option.some.injEq] at hp
        subst hp
        simp only [List.getElem?_cons_succ] at hq
        exact fun a ha hb => h3 a ha a (mem_foot hq hb) rfl
    | succ i =>
      simp only [List.getElem?_cons_succ] at hp
      cases j with
      | zero =>
        simp only [List.getElem?_cons_zero, Option.some.injEq] at hq
        subst hq
        exact fun a ha hb => h3 a hb a (mem_foot hp ha) rfl
      | succ j =>
        simp only [List.getElem?_cons_succ] at hq
        exact ih h2 hp hq (fun e => hij (by rw [e]))

theorem St.mu {c : Cx} {h : Heap} {μ : Mu} {H : AH} (S : St c h μ H) {i : Nat} {o : AObj} (e : H[i]? = some o) : ∃ p, μ[i]? = some p ∧ RO c h μ o p := by
  have hi : i < μ.length := by rw [S.len]; exact (List.getElem?_eq_some_iff.mp e).1
  exact ⟨μ[i], List.getElem?_eq_getElem hi, S.obj i o _ e (List.getElem?_eq_getElem hi)⟩

/-- nothing of what is borne has turned -/
theorem St.same {c : Cx} {h h' : Heap} {μ : Mu} {H : AH} (S : St c h μ H) (hk : ∀ b o, h.get? b = some o → h'.get? b = some o) : St c h' μ H :=
  ⟨fun b o e => hk b o (S.base b o e), fun a ha => ⟨(S.low a ha).1, (S.low a ha).2.imp fun o e => hk a o e⟩, S.nodup, S.len, fun i o p e q => (S.obj i o p e q).keep ⟨[], by simp⟩ fun a _ x g => hk a x g⟩
/-- the own places have turned, not what is borne -/
theorem St.off {c : Cx} {h h' : Heap} {μ : Mu} {H : AH} {own : List Addr} (S : St c h μ H) (hb : ∀ a ∈ own, a ∉ foot μ ∧ c.B.get? a = none) (hk : ∀ b o, b ∉ own → h.get? b = some o → h'.get? b = some o) : St c h' μ H :=
  ⟨fun b o e => hk b o (fun hm => by rw [(hb b hm).2] at e; cases e) (S.base b o e), fun a ha => ⟨(S.low a ha).1, (S.low a ha).2.imp fun o e => hk a o (fun hm => (hb a hm).1 ha) e⟩, S.nodup, S.len,
   fun i o p e q => (S.obj i o p e q).keep ⟨[], by simp⟩ fun a ha x g => hk a x (fun hm => (hb a hm).1 (mem_foot q ha)) g⟩
theorem RO.there {c : Cx} {h : Heap} {μ : Mu} {o : AObj} {p : Addr × Option Addr} (r : RO c h μ o p) : ∀ a ∈ feet p, ∃ x, h.get? a = some x := by
  obtain ⟨a, d⟩ := p
  intro b hb
  cases o with
  | list vs => obtain ⟨e, xs, n, g, q⟩ := r; cases e; simp [feet] at hb; subst hb; exact ⟨_, g⟩
  | tup vs => obtain ⟨e, xs, n, g, q⟩ := r; cases e; simp [feet] at hb; subst hb; exact ⟨_, g⟩
  | inst k fs =>
    obtain ⟨hc, d', es, n, e, g, g', q⟩ := r
    cases e
    simp [feet] at hb
    rcases hb with rfl | rfl
    · exact ⟨_, g⟩
    · exact ⟨_, g'⟩
  | dict kvs =>
    obtain ⟨e, f, g, q⟩ := r
    cases e; simp [feet] at hb; subst hb
    obtain ⟨o, es, n, ho, r⟩ := g
    exact ⟨o, ho⟩
/-- an object that stands apart is borne from here on -/
theorem St.adopt {c : Cx} {h : Heap} {μ : Mu} {H : AH} (S : St c h μ H) {o : AObj} {p : Addr × Option Addr} (hp : ∀ a ∈ feet p, a ∉ foot μ ∧ c.B.get? a = none) (hn : (feet p).Nodup) (r : RO c h (μ ++ [p]) o p) : St c h (μ ++ [p]) (H ++ [o]) := by
  have hf : foot [p] = feet p := by simp [foot]
  refine ⟨S.base, fun a ha => ?_, ?_, by simp [S.len], fun i x q e e' => ?_⟩
  · rw [foot_append, hf] at ha
    rcases List.mem_append.mp ha with ha | ha
    · exact S.low a ha
    · exact ⟨(hp a ha).2, r.there a ha⟩
  · rw [foot_append, hf, List.nodup_append]
    refine ⟨S.nodup, hn, fun a ha b hb e => ?_⟩
    subst e
    exact (hp a hb).1 ha
  · by_cases hi : i < H.length
    · rw [List.getElem?_append_left hi] at e
      rw [List.getElem?_append_left (by rw [S.len]; exact hi)] at e'
      exact (S.obj i x q e e').keep ⟨[p], rfl⟩ fun a _ y g => g
    · have hi' : H.length ≤ i := Nat.le_of_not_lt hi
      rw [List.getElem?_append_right hi'] at e
      rw [List.getElem?_append_right (by rw [S.len]; exact hi'), S.len] at e'
      obtain ⟨k, hk'⟩ : ∃ k, k = i - H.length := ⟨_, rfl⟩
      rw [← hk'] at e e'
      cases k with
      | zero => cases e; cases e'; exact r
      | succ k => simp at e
theorem get_none {h : Heap} {a : Addr} (ha : h.objs.size ≤ a) : h.get? a = none := by
  cases q : h.get? a with
  | none => rfl
  | some o => exact absurd (Heap.lt_size q) (Nat.not_lt.mpr ha)
theorem St.fresh {c : Cx} {h : Heap} {μ : Mu} {H : AH} (S : St c h μ H) {a : Addr} (ha : h.get? a = none) : a ∉ foot μ ∧ c.B.get? a = none := by
  refine ⟨fun hm => ?_, ?_⟩
  · obtain ⟨_, o, e⟩ := S.low a hm
    rw [ha] at e; cases e
  · cases q : c.B.get? a with
    | none => rfl
    | some o => rw [S.base a o q] at ha; cases ha
/-- one more object -/
theorem St.push {c : Cx} {h h' : Heap} {μ : Mu} {H : AH} (S : St c h μ H) {o : AObj} {p : Addr × Option Addr} (hk : ∀ b x, h.get? b = some x → h'.get? b = some x)
    (hp : ∀ a ∈ feet p, h.objs.size ≤ a) (hn : (feet p).Nodup) (r : RO c h' (μ ++ [p]) o p) : St c h' (μ ++ [p]) (H ++ [o]) ∧ Ext [] μ h (μ ++ [p]) h' :=
  ⟨(S.same hk).adopt (fun a ha => S.fresh (get_none (hp a ha))) hn r, ⟨⟨[p], rfl, fun a ha _ _ => get_none (hp a (by simpa [foot] using ha))⟩, fun b x e _ _ => hk b x e⟩⟩
/-- one object turned -/
theorem St.set {c : Cx} {h h' : Heap} {μ : Mu} {H : AH} (S : St c h μ H) {i : Nat} {o : AObj} {p : Addr × Option Addr} (hp : μ[i]? = some p) {a : Addr} (ha : a ∈ feet p)
    (hk : ∀ b x, b ≠ a → h.get? b = some x → h'.get? b = some x) (r : RO c h' μ o p) : St c h' μ (H.set i o) ∧ Ext [] μ h μ h' := by
  have hB : c.B.get? a = none := (S.low a (mem_foot hp ha)).1
  refine ⟨⟨fun b x e => hk b x (fun z => by rw [z, hB] at e; cases e) (S.base b x e), fun b hb => ⟨(S.low b hb).1, ?_⟩, S.nodup, by simp [S.len], fun j x q e e' => ?_⟩,
    ⟨⟨[], by simp, by simp [foot]⟩, fun b x e hn _ => hk b x (fun z => hn (z ▸ mem_foot hp ha)) e⟩⟩
  · by_cases hba : b = a
    · subst hba; exact r.there b ha
    · exact (S.low b hb).2.imp fun o e => hk b o hba e
  · by_cases hij : i = j
    · subst hij
      rw [hp] at e'
      cases e'
      have hi : i < H.length := by rw [← S.len]; exact (List.getElem?_eq_some_iff.mp hp).1
      rw [List.getElem?_set_self hi] at e
      cases e
      exact r
    · rw [List.getElem?_set_ne hij] at e
      exact (S.obj j x q e e').keep ⟨[], by simp⟩ fun b hb y g => hk b y (fun z => feet_apart S.nodup hp e' hij a ha (z ▸ hb)) g

end Mine
end
section
open PySem PySem.W PySem.Calls PyProof.Rows
namespace Mine

/-! ## the translation check -/

structure Nm where
  gn : List Str
  mn : List Str
  cn : List Str
  fld : List Str

noncomputable def plainN (id : Str) : Bool := !(id == ("__debug__" : Str)) && !(id == ("__classdict__" : Str))
noncomputable def slotK : Option NameKind → Bool
  | some .local | some .cell | some .free => true
  | _ => false
noncomputable def boOk : Bo → Operator → Bool
  | .add, .Add | .sub, .Sub | .fdiv, .FloorDiv | .mod, .Mod => true
  | _, _ => false
noncomputable def coOk : Co → CmpOp → Bool
  | .eq, .Eq | .ne, .NotEq | .lt, .Lt | .gt, .Gt | .ge, .GtE | .isin, .In | .notin, .NotIn => true
  | _, _ => false
noncomputable def isStr (s : Str) (k : Const) : Bool := match k with
  | .str t => s == t
  | _ => false
noncomputable def strIs (s : Str) (e : Expr) : Bool := match e with
  | .Constant k _ _ => isStr s k
  | _ => false
noncomputable def strsOk : List Str → List Expr → Bool
  | [], es => es.isEmpty
  | s :: ss, es => match es with
    | [] => false
    | e :: es => strIs s e && strsOk ss es
noncomputable def baseOk : Expr → Bool
  | .Call .. => false
  | _ => true
noncomputable def notSet : Expr → Bool
  | .Set .. => false
  | _ => true
noncomputable def notStar : Expr → Bool
  | .Starred .. => false
  | .Slice .. => false
  | _ => true
noncomputable abbrev Names := List (Str × NameKind)
/-- the names that a comprehension's block sees -/
noncomputable def inner (names sc : Names) : Names := sc.map fun (n, k) => if (k == .free && names.lookup n == some .cell) then (n, .cell) else (n, k)
noncomputable def scopeOk (names : Names) (sl : List Str) (sc : Scope) (x : Str) : Bool :=
  sc.kind == .function && sc.names.lookup x == some .local && (sc.names.all fun y => y.2 != .cell && (y.2 != .local || (sc.names.lookup y.1 == some .local && (y.1 == x || !sl.contains y.1))) && (y.2 != .free || (names.lookup y.1 == some .cell && sc.names.lookup y.1 == some .free && sl.contains y.1)))

noncomputable def lineOk (apos pos : Pos) (n : Nat) : Bool := apos.endLine == pos.line && decide (n < 28)

/-! ## one look at an expression -/
noncomputable def onIdx (n m : Nat) (k : n = m → Bool) : Bool := if h : n = m then k h else false
theorem onIdx_el {n m : Nat} {k : n = m → Bool} {Q : Prop} (h : onIdx n m k = true) (q : ∀ hi, k hi = true → Q) : Q := by
  unfold onIdx at h
  by_cases e : n = m
  · rw [dif_pos e] at h; exact q e h
  · rw [dif_neg e] at h; exact absurd h Bool.false_ne_true
noncomputable def vName (x : Expr) (f : Str → Bool) : Bool := onIdx x.ctorIdx 23 fun hi => Expr.Name.elim (motive_1 := fun _ => Bool) x hi fun id _ => f id
@[elab_as_elim] theorem vName_el {x : Expr} {f : Str → Bool} {M : Expr → Prop} (h : vName x f = true) (k : ∀ id p, f id = true → M (Expr.Name id p)) : M x :=
  onIdx_el h fun hi h => Expr.Name.elim (motive_1 := fun x => ∀ hi, (Expr.Name.elim (motive_1 := fun _ => Bool) x hi fun id _ => f id) = true → M x) x hi (fun id p _ h => k id p h) hi h
noncomputable def vConst (x : Expr) (f : Const → Bool) : Bool := onIdx x.ctorIdx 19 fun hi => Expr.Constant.elim (motive_1 := fun _ => Bool) x hi fun c _ _ => f c
@[elab_as_elim] theorem vConst_el {x : Expr} {f : Const → Bool} {M : Expr → Prop} (h : vConst x f = true) (k : ∀ c q p, f c = true → M (Expr.Constant c q p)) : M x :=
  onIdx_el h fun hi h => Expr.Constant.elim (motive_1 := fun x => ∀ hi, (Expr.Constant.elim (motive_1 := fun _ => Bool) x hi fun c _ _ => f c) = true → M x) x hi (fun c q p _ h => k c q p h) hi h
noncomputable def vUn (x : Expr) (f : UnaryOp → Expr → Bool) : Bool := onIdx x.ctorIdx 3 fun hi => Expr.UnaryOp.elim (motive_1 := fun _ => Bool) x hi fun o a _ => f o a
@[elab_as_elim] theorem vUn_el {x : Expr} {f : UnaryOp → Expr → Bool} {M : Expr → Prop} (h : vUn x f = true) (k : ∀ o a p, f o a = true → M (Expr.UnaryOp o a p)) : M x :=
  onIdx_el h fun hi h => Expr.UnaryOp.elim (motive_1 := fun x => ∀ hi, (Expr.UnaryOp.elim (motive_1 := fun _ => Bool) x hi fun o a _ => f o a) = true → M x) x hi (fun o a p _ h => k o a p h) hi h
noncomputable def vBin (x : Expr) (f : Expr → Operator → Expr → Bool) : Bool := onIdx x.ctorIdx 2 fun hi => Expr.BinOp.elim (motive_1 := fun _ => Bool) x hi fun a o b _ => f a o b
@[elab_as_elim] theorem vBin_el {x : Expr} {f : Expr → Operator → Expr → Bool} {M : Expr → Prop} (h : vBin x f = true) (k : ∀ a o b p, f a o b = true → M (Expr.BinOp a o b p)) : M x :=
  onIdx_el h fun hi h => Expr.BinOp.elim (motive_1 := fun x => ∀ hi, (Expr.BinOp.elim (motive_1 := fun _ => Bool) x hi fun a o b _ => f a o b) = true → M x) x hi (fun a o b p _ h => k a o b p h) hi h
noncomputable def vBool (x : Expr) (f : BoolOp → List Expr → Bool) : Bool := onIdx x.ctorIdx 0 fun hi => Expr.BoolOp.elim (motive_1 := fun _ => Bool) x hi fun o es _ => f o es
@[elab_as_elim] theorem vBool_el {x : Expr} {f : BoolOp → List Expr → Bool} {M : Expr → Prop} (h : vBool x f = true) (k : ∀ o es p, f o es = true → M (Expr.BoolOp o es p)) : M x :=
  onIdx_el h fun hi h => Expr.BoolOp.elim (motive_1 := fun x => ∀ hi, (Expr.BoolOp.elim (motive_1 := fun _ => Bool) x hi fun o es _ => f o es) = true → M x) x hi (fun o es p _ h => k o es p h) hi h
noncomputable def vComp (x : Expr) (f : Expr → List CmpOp → List Expr → Bool) : Bool := onIdx x.ctorIdx 15 fun hi => Expr.Compare.elim (motive_1 := fun _ => Bool) x hi fun a os es _ => f a os es
@[elab_as_elim] theorem vComp_el {x : Expr} {f : Expr → List CmpOp → List Expr → Bool} {M : Expr → Prop} (h : vComp x f = true) (k : ∀ a os es p, f a os es = true → M (Expr.Compare a os es p)) : M x :=
  onIdx_el h fun hi h => Expr.Compare.elim (motive_1 := fun x => ∀ hi, (Expr.Compare.elim (motive_1 := fun _ => Bool) x hi fun a os es _ => f a os es) = true → M x) x hi (fun a os es p _ h => k a os es p h) hi h
noncomputable def vIte (x : Expr) (f : Expr → Expr → Expr → Bool) : Bool := onIdx x.ctorIdx 5 fun hi => Expr.IfExp.elim (motive_1 := fun _ => Bool) x hi fun a b c _ => f a b c
@[elab_as_elim] theorem vIte_el {x : Expr} {f : Expr → Expr → Expr → Bool} {M : Expr → Prop} (h : vIte x f = true) (k : ∀ a b c p, f a b c = true → M (Expr.IfExp a b c p)) : M x :=
  onIdx_el h fun hi h => Expr.IfExp.elim (motive_1 := fun x => ∀ hi, (Expr.IfExp.elim (motive_1 := fun _ => Bool) x hi fun a b c _ => f a b c) = true → M x) x hi (fun a b c p _ h => k a b c p h) hi h
noncomputable def vTup (x : Expr) (f : List Expr → Bool) : Bool := onIdx x.ctorIdx 25 fun hi => Expr.Tuple.elim (motive_1 := fun _ => Bool) x hi fun es _ _ => f es
@[elab_as_elim] theorem vTup_el {x : Expr} {f : List Expr → Bool} {M : Expr → Prop} (h : vTup x f = true) (k : ∀ es q p, f es = true → M (Expr.Tuple es q p)) : M x :=
  onIdx_el h fun hi h => Expr.Tuple.elim (motive_1 := fun x => ∀ hi, (Expr.Tuple.elim (motive_1 := fun _ => Bool) x hi fun es _ _ => f es) = true → M x) x hi (fun es q p _ h => k es q p h) hi h
noncomputable def vList (x : Expr) (f : List Expr → Bool) : Bool := onIdx x.ctorIdx 24 fun hi => Expr.List.elim (motive_1 := fun _ => Bool) x hi fun es _ => f es
@[elab_as_elim] theorem vList_el {x : Expr} {f : List Expr → Bool} {M : Expr → Prop} (h : vList x f = true) (k : ∀ es p, f es = true → M (Expr.List es p)) : M x :=
  onIdx_el h fun hi h => Expr.List.elim (motive_1 := fun x => ∀ hi, (Expr.List.elim (motive_1 := fun _ => Bool) x hi fun es _ => f es) = true → M x) x hi (fun es p _ h => k es p h) hi h
noncomputable def vSub (x : Expr) (f : Expr → Expr → Bool) : Bool := onIdx x.ctorIdx 21 fun hi => Expr.Subscript.elim (motive_1 := fun _ => Bool) x hi fun a b _ => f a b
@[elab_as_elim] theorem vSub_el {x : Expr} {f : Expr → Expr → Bool} {M : Expr → Prop} (h : vSub x f = true) (k : ∀ a b p, f a b = true → M (Expr.Subscript a b p)) : M x :=
  onIdx_el h fun hi h => Expr.Subscript.elim (motive_1 := fun x => ∀ hi, (Expr.Subscript.elim (motive_1 := fun _ => Bool) x hi fun a b _ => f a b) = true → M x) x hi (fun a b p _ h => k a b p h) hi h
noncomputable def vSl (x : Expr) (f : Option Expr → Option Expr → Option Expr → Bool) : Bool := onIdx x.ctorIdx 26 fun hi => Expr.Slice.elim (motive_1 := fun _ => Bool) x hi fun a b c _ => f a b c
@[elab_as_elim] theorem vSl_el {x : Expr} {f : Option Expr → Option Expr → Option Expr → Bool} {M : Expr → Prop} (h : vSl x f = true) (k : ∀ a b c p, f a b c = true → M (Expr.Slice a b c p)) : M x :=
  onIdx_el h fun hi h => Expr.Slice.elim (motive_1 := fun x => ∀ hi, (Expr.Slice.elim (motive_1 := fun _ => Bool) x hi fun a b c _ => f a b c) = true → M x) x hi (fun a b c p _ h => k a b c p h) hi h
noncomputable def vAttr (x : Expr) (f : Expr → Str → Pos → Bool) : Bool := onIdx x.ctorIdx 20 fun hi => Expr.Attribute.elim (motive_1 := fun _ => Bool) x hi fun a n p => f a n p
@[elab_as_elim] theorem vAttr_el {x : Expr} {f : Expr → Str → Pos → Bool} {M : Expr → Prop} (h : vAttr x f = true) (k : ∀ a n p, f a n p = true → M (Expr.Attribute a n p)) : M x :=
  onIdx_el h fun hi h => Expr.Attribute.elim (motive_1 := fun x => ∀ hi, (Expr.Attribute.elim (motive_1 := fun _ => Bool) x hi fun a n p => f a n p) = true → M x) x hi (fun a n p _ h => k a n p h) hi h
noncomputable def vCall (x : Expr) (f : Expr → List Expr → List Keyword → Pos → Bool) : Bool := onIdx x.ctorIdx 16 fun hi => Expr.Call.elim (motive_1 := fun _ => Bool) x hi fun g es ks p => f g es ks p
@[elab_as_elim] theorem vCall_el {x : Expr} {f : Expr → List Expr → List Keyword → Pos → Bool} {M : Expr → Prop} (h : vCall x f = true) (k : ∀ g es ks p, f g es ks p = true → M (Expr.Call g es ks p)) : M x :=
  onIdx_el h fun hi h => Expr.Call.elim (motive_1 := fun x => ∀ hi, (Expr.Call.elim (motive_1 := fun _ => Bool) x hi fun g es ks p => f g es ks p) = true → M x) x hi (fun g es ks p _ h => k g es ks p h) hi h
noncomputable def vDict (x : Expr) (f : List (Option Expr) → List Expr → Bool) : Bool := onIdx x.ctorIdx 6 fun hi => Expr.Dict.elim (motive_1 := fun _ => Bool) x hi fun ks es _ => f ks es
@[elab_as_elim] theorem vDict_el {x : Expr} {f : List (Option Expr) → List Expr → Bool} {M : Expr → Prop} (h : vDict x f = true) (k : ∀ ks es p, f ks es = true → M (Expr.Dict ks es p)) : M x :=
  onIdx_el h fun hi h => Expr.Dict.elim (motive_1 := fun x => ∀ hi, (Expr.Dict.elim (motive_1 := fun _ => Bool) x hi fun ks es _ => f ks es) = true → M x) x hi (fun ks es p _ h => k ks es p h) hi h
noncomputable def vLC (x : Expr) (f : Expr → List Comprehension → Scope → Bool) : Bool := onIdx x.ctorIdx 8 fun hi => Expr.ListComp.elim (motive_1 := fun _ => Bool) x hi fun y gs sc _ => f y gs sc
@[elab_as_elim] theorem vLC_el {x : Expr} {f : Expr → List Comprehension → Scope → Bool} {M : Expr → Prop} (h : vLC x f = true) (k : ∀ y gs sc p, f y gs sc = true → M (Expr.ListComp y gs sc p)) : M x :=
  onIdx_el h fun hi h => Expr.ListComp.elim (motive_1 := fun x => ∀ hi, (Expr.ListComp.elim (motive_1 := fun _ => Bool) x hi fun y gs sc _ => f y gs sc) = true → M x) x hi (fun y gs sc p _ h => k y gs sc p h) hi h
noncomputable def wExpr (x : Stmt) (f : Expr → Bool) : Bool := onIdx x.ctorIdx 24 fun hi => Stmt.Expr.elim (motive_2 := fun _ => Bool) x hi fun e _ => f e
@[elab_as_elim] theorem wExpr_el {x : Stmt} {f : Expr → Bool} {M : Stmt → Prop} (h : wExpr x f = true) (k : ∀ e p, f e = true → M (Stmt.Expr e p)) : M x :=
  onIdx_el h fun hi h => Stmt.Expr.elim (motive_2 := fun x => ∀ hi, (Stmt.Expr.elim (motive_2 := fun _ => Bool) x hi fun e _ => f e) = true → M x) x hi (fun e p _ h => k e p h) hi h
noncomputable def wRet (x : Stmt) (f : Option Expr → Bool) : Bool := onIdx x.ctorIdx 3 fun hi => Stmt.Return.elim (motive_2 := fun _ => Bool) x hi fun e _ => f e
@[elab_as_elim] theorem wRet_el {x : Stmt} {f : Option Expr → Bool} {M : Stmt → Prop} (h : wRet x f = true) (k : ∀ e p, f e = true → M (Stmt.Return e p)) : M x :=
  onIdx_el h fun hi h => Stmt.Return.elim (motive_2 := fun x => ∀ hi, (Stmt.Return.elim (motive_2 := fun _ => Bool) x hi fun e _ => f e) = true → M x) x hi (fun e p _ h => k e p h) hi h
noncomputable def uAsg (x : Stmt) (f : List Expr → Expr → Bool) : Bool := onIdx x.ctorIdx 5 fun hi => Stmt.Assign.elim (motive_2 := fun _ => Bool) x hi fun ts e _ => f ts e
@[elab_as_elim] theorem uAsg_el {x : Stmt} {f : List Expr → Expr → Bool} {M : Stmt → Prop} (h : uAsg x f = true) (k : ∀ ts e p, f ts e = true → M (Stmt.Assign ts e p)) : M x :=
  onIdx_el h fun hi h => Stmt.Assign.elim (motive_2 := fun x => ∀ hi, (Stmt.Assign.elim (motive_2 := fun _ => Bool) x hi fun ts e _ => f ts e) = true → M x) x hi (fun ts e p _ h => k ts e p h) hi h
noncomputable def wAug (x : Stmt) (f : Expr → Operator → Expr → Bool) : Bool := onIdx x.ctorIdx 7 fun hi => Stmt.AugAssign.elim (motive_2 := fun _ => Bool) x hi fun t o e _ => f t o e
@[elab_as_elim] theorem wAug_el {x : Stmt} {f : Expr → Operator → Expr → Bool} {M : Stmt → Prop} (h : wAug x f = true) (k : ∀ t o e p, f t o e = true → M (Stmt.AugAssign t o e p)) : M x :=
  onIdx_el h fun hi h => Stmt.AugAssign.elim (motive_2 := fun x => ∀ hi, (Stmt.AugAssign.elim (motive_2 := fun _ => Bool) x hi fun t o e _ => f t o e) = true → M x) x hi (fun t o e p _ h => k t o e p h) hi h
noncomputable def wIf (x : Stmt) (f : Expr → List Stmt → List Stmt → Bool) : Bool := onIdx x.ctorIdx 12 fun hi => Stmt.If.elim (motive_2 := fun _ => Bool) x hi fun e a b _ => f e a b
@[elab_as_elim] theorem wIf_el {x : Stmt} {f : Expr → List Stmt → List Stmt → Bool} {M : Stmt → Prop} (h : wIf x f = true) (k : ∀ e a b p, f e a b = true → M (Stmt.If e a b p)) : M x :=
  onIdx_el h fun hi h => Stmt.If.elim (motive_2 := fun x => ∀ hi, (Stmt.If.elim (motive_2 := fun _ => Bool) x hi fun e a b _ => f e a b) = true → M x) x hi (fun e a b p _ h => k e a b p h) hi h
noncomputable def uWhl (x : Stmt) (f : Expr → List Stmt → List Stmt → Bool) : Bool := onIdx x.ctorIdx 11 fun hi => Stmt.While.elim (motive_2 := fun _ => Bool) x hi fun e a b _ => f e a b
@[elab_as_elim] theorem uWhl_el {x : Stmt} {f : Expr → List Stmt → List Stmt → Bool} {M : Stmt → Prop} (h : uWhl x f = true) (k : ∀ e a b p, f e a b = true → M (Stmt.While e a b p)) : M x :=
  onIdx_el h fun hi h => Stmt.While.elim (motive_2 := fun x => ∀ hi, (Stmt.While.elim (motive_2 := fun _ => Bool) x hi fun e a b _ => f e a b) = true → M x) x hi (fun e a b p _ h => k e a b p h) hi h
noncomputable def uFor (x : Stmt) (f : Expr → Expr → List Stmt → List Stmt → Bool) : Bool := onIdx x.ctorIdx 9 fun hi => Stmt.For.elim (motive_2 := fun _ => Bool) x hi fun t e a b _ => f t e a b
@[elab_as_elim] theorem uFor_el {x : Stmt} {f : Expr → Expr → List Stmt → List Stmt → Bool} {M : Stmt → Prop} (h : uFor x f = true) (k : ∀ t e a b p, f t e a b = true → M (Stmt.For t e a b p)) : M x :=
  onIdx_el h fun hi h => Stmt.For.elim (motive_2 := fun x => ∀ hi, (Stmt.For.elim (motive_2 := fun _ => Bool) x hi fun t e a b _ => f t e a b) = true → M x) x hi (fun t e a b p _ h => k t e a b p h) hi h
noncomputable def cInt (x : Const) (f : Int → Bool) : Bool := onIdx x.ctorIdx 2 fun hi => Const.int.elim (motive := fun _ => Bool) x hi fun j => f j
@[elab_as_elim] theorem cInt_el {x : Const} {f : Int → Bool} {M : Const → Prop} (h : cInt x f = true) (k : ∀ j, f j = true → M (Const.int j)) : M x :=
  onIdx_el h fun hi h => Const.int.elim (motive := fun x => ∀ hi, (Const.int.elim (motive := fun _ => Bool) x hi fun j => f j) = true → M x) x hi (fun j _ h => k j h) hi h
noncomputable def cStr (x : Const) (f : Str → Bool) : Bool := onIdx x.ctorIdx 5 fun hi => Const.str.elim (motive := fun _ => Bool) x hi fun j => f j
@[elab_as_elim] theorem cStr_el {x : Const} {f : Str → Bool} {M : Const → Prop} (h : cStr x f = true) (k : ∀ j, f j = true → M (Const.str j)) : M x :=
  onIdx_el h fun hi h => Const.str.elim (motive := fun x => ∀ hi, (Const.str.elim (motive := fun _ => Bool) x hi fun j => f j) = true → M x) x hi (fun j _ h => k j h) hi h
noncomputable def cBl (x : Const) (f : Bool → Bool) : Bool := onIdx x.ctorIdx 1 fun hi => Const.bool.elim (motive := fun _ => Bool) x hi fun j => f j
@[elab_as_elim] theorem cBl_el {x : Const} {f : Bool → Bool} {M : Const → Prop} (h : cBl x f = true) (k : ∀ j, f j = true → M (Const.bool j)) : M x :=
  onIdx_el h fun hi h => Const.bool.elim (motive := fun x => ∀ hi, (Const.bool.elim (motive := fun _ => Bool) x hi fun j => f j) = true → M x) x hi (fun j _ h => k j h) hi h
section
variable {α : Type}
noncomputable def l0 (xs : List α) (b : Bool) : Bool := List.casesOn xs b fun _ _ => false
@[elab_as_elim] theorem l0_el {xs : List α} {b : Bool} {M : List α → Prop} (h : l0 xs b = true) (k : b = true → M []) : M xs :=
  List.casesOn (motive := fun xs => l0 xs b = true → M xs) xs (fun h => k h) (fun _ _ h => absurd h Bool.false_ne_true) h
noncomputable def lC (xs : List α) (f : α → List α → Bool) : Bool := List.casesOn xs false f
@[elab_as_elim] theorem lC_el {xs : List α} {f : α → List α → Bool} {M : List α → Prop} (h : lC xs f = true) (k : ∀ x ys, f x ys = true → M (x :: ys)) : M xs :=
  List.casesOn (motive := fun xs => lC xs f = true → M xs) xs (fun h => absurd h Bool.false_ne_true) (fun x ys h => k x ys h) h
noncomputable def l1 (xs : List α) (f : α → Bool) : Bool := lC xs fun x ys => l0 ys (f x)
@[elab_as_elim] theorem l1_el {xs : List α} {f : α → Bool} {M : List α → Prop} (h : l1 xs f = true) (k : ∀ x, f x = true → M [x]) : M xs :=
  lC_el h fun x ys h => l0_el (M := fun ys => M (x :: ys)) h (k x)
noncomputable def l2 (xs : List α) (f : α → α → Bool) : Bool := lC xs fun x ys => l1 ys (f x)
@[elab_as_elim] theorem l2_el {xs : List α} {f : α → α → Bool} {M : List α → Prop} (h : l2 xs f = true) (k : ∀ x y, f x y = true → M [x, y]) : M xs :=
  lC_el h fun x ys h => l1_el (M := fun ys => M (x :: ys)) h (k x)
noncomputable def oN (o : Option α) (b : Bool) : Bool := Option.casesOn o b fun _ => false
@[elab_as_elim] theorem oN_el {o : Option α} {b : Bool} {M : Option α → Prop} (h : oN o b = true) (k : b = true → M none) : M o :=
  Option.casesOn (motive := fun o => oN o b = true → M o) o (fun h => k h) (fun _ h => absurd h Bool.false_ne_true) h
noncomputable def oS (o : Option α) (f : α → Bool) : Bool := Option.casesOn o false f
@[elab_as_elim] theorem oS_el {o : Option α} {f : α → Bool} {M : Option α → Prop} (h : oS o f = true) (k : ∀ x, f x = true → M (some x)) : M o :=
  Option.casesOn (motive := fun o => oS o f = true → M o) o (fun h => absurd h Bool.false_ne_true) (fun x h => k x h) h
end
theorem and_el {a b : Bool} {Q : Prop} (h : (a && b) = true) (k : a = true → b = true → Q) : Q := k (Bool.and_eq_true _ _ |>.mp h).1 (Bool.and_eq_true _ _ |>.mp h).2
theorem beq_el {α : Type} [BEq α] [LawfulBEq α] {a b : α} {c : Bool} {M : α → Prop} (h : (a == b && c) = true) (k : c = true → M b) : M a := and_el h fun h1 h2 => eq_of_beq h1 ▸ k h2
/-! ## the shapes -/
noncomputable def vInt (x : Expr) (f : Int → Bool) : Bool := vConst x fun c => cInt c f
@[elab_as_elim] theorem vInt_el {x : Expr} {f : Int → Bool} {M : Expr → Prop} (h : vInt x f = true) (k : ∀ j k p, f j = true → M (.Constant (.int j) k p)) : M x :=
  vConst_el h fun c q p h => cInt_el (M := fun c => M (.Constant c q p)) h fun j h => k j q p h
noncomputable def vStr (x : Expr) (f : Str → Bool) : Bool := vConst x fun c => cStr c f
@[elab_as_elim] theorem vStr_el {x : Expr} {f : Str → Bool} {M : Expr → Prop} (h : vStr x f = true) (k : ∀ j k p, f j = true → M (.Constant (.str j) k p)) : M x :=
  vConst_el h fun c q p h => cStr_el (M := fun c => M (.Constant c q p)) h fun j h => k j q p h
noncomputable def vBl (x : Expr) (f : Bool → Bool) : Bool := vConst x fun c => cBl c f
@[elab_as_elim] theorem vBl_el {x : Expr} {f : Bool → Bool} {M : Expr → Prop} (h : vBl x f = true) (k : ∀ j k p, f j = true → M (.Constant (.bool j) k p)) : M x :=
  vConst_el h fun c q p h => cBl_el (M := fun c => M (.Constant c q p)) h fun j h => k j q p h
noncomputable def vUnO (o : UnaryOp) (x : Expr) (f : Expr → Bool) : Bool := vUn x fun o' a => o' == o && f a
@[elab_as_elim] theorem vUnO_el {o : UnaryOp} {x : Expr} {f : Expr → Bool} {M : Expr → Prop} (h : vUnO o x f = true) (k : ∀ a p, f a = true → M (.UnaryOp o a p)) : M x :=
  vUn_el h fun o' a p h => beq_el (M := fun o => M (.UnaryOp o a p)) h fun h => k a p h
noncomputable def vBoolO (o : BoolOp) (x : Expr) (f : List Expr → Bool) : Bool := vBool x fun o' a => o' == o && f a
@[elab_as_elim] theorem vBoolO_el {o : BoolOp} {x : Expr} {f : List Expr → Bool} {M : Expr → Prop} (h : vBoolO o x f = true) (k : ∀ a p, f a = true → M (.BoolOp o a p)) : M x :=
  vBool_el h fun o' a p h => beq_el (M := fun o => M (.BoolOp o a p)) h fun h => k a p h
noncomputable def vCmp1 (x : Expr) (f : Expr → CmpOp → Expr → Bool) : Bool := vComp x fun a os es => l1 os fun o => l1 es fun b => f a o b
@[elab_as_elim] theorem vCmp1_el {x : Expr} {f : Expr → CmpOp → Expr → Bool} {M : Expr → Prop} (h : vCmp1 x f = true) (k : ∀ a o b p, f a o b = true → M (.Compare a [o] [b] p)) : M x :=
  vComp_el h fun a os es p h => l1_el (M := fun os => M (.Compare a os es p)) h fun o h => l1_el (M := fun es => M (.Compare a [o] es p)) h fun b h => k a o b p h
noncomputable def vCmp2 (x : Expr) (f : Expr → CmpOp → CmpOp → Expr → Expr → Bool) : Bool := vComp x fun a os es => l2 os fun o o' => l2 es fun b b' => f a o o' b b'
@[elab_as_elim] theorem vCmp2_el {x : Expr} {f : Expr → CmpOp → CmpOp → Expr → Expr → Bool} {M : Expr → Prop} (h : vCmp2 x f = true) (k : ∀ a o o' b b' p, f a o o' b b' = true → M (.Compare a [o, o'] [b, b'] p)) : M x :=
  vComp_el h fun a os es p h => l2_el (M := fun os => M (.Compare a os es p)) h fun o o' h => l2_el (M := fun es => M (.Compare a [o, o'] es p)) h fun b b' h => k a o o' b b' p h
noncomputable def vCmpT (x : Expr) (f : Expr → CmpOp → List Expr → Bool) : Bool := vCmp1 x fun a o b => vTup b fun es => f a o es
@[elab_as_elim] theorem vCmpT_el {x : Expr} {f : Expr → CmpOp → List Expr → Bool} {M : Expr → Prop} (h : vCmpT x f = true) (k : ∀ a o es q p pos, f a o es = true → M (.Compare a [o] [.Tuple es q p] pos)) : M x :=
  vCmp1_el h fun a o b pos h => vTup_el (M := fun b => M (.Compare a [o] [b] pos)) h fun es q p h => k a o es q p pos h
noncomputable def vCmpN (x : Expr) (f : Expr → CmpOp → Bool) : Bool := vCmp1 x fun a o b => vList b fun es => l0 es (f a o)
@[elab_as_elim] theorem vCmpN_el {x : Expr} {f : Expr → CmpOp → Bool} {M : Expr → Prop} (h : vCmpN x f = true) (k : ∀ a o p pos, f a o = true → M (.Compare a [o] [.List [] p] pos)) : M x :=
  vCmp1_el h fun a o b pos h => vList_el (M := fun b => M (.Compare a [o] [b] pos)) h fun es p h => l0_el (M := fun es => M (.Compare a [o] [.List es p] pos)) h fun h => k a o p pos h
noncomputable def vUpto (x : Expr) (f : Expr → Expr → Bool) : Bool := vSub x fun v s => vSl s fun a b c => oN a (oN c (oS b fun h => f v h))
@[elab_as_elim] theorem vUpto_el {x : Expr} {f : Expr → Expr → Bool} {M : Expr → Prop} (h : vUpto x f = true) (k : ∀ x y p pos, f x y = true → M (.Subscript x (.Slice none (some y) none p) pos)) : M x :=
  vSub_el h fun v s pos h => vSl_el (M := fun s => M (.Subscript v s pos)) h fun a b c p h => oN_el (M := fun a => M (.Subscript v (.Slice a b c p) pos)) h fun h => oN_el (M := fun c => M (.Subscript v (.Slice none b c p) pos)) h fun h => oS_el (M := fun b => M (.Subscript v (.Slice none b none p) pos)) h fun y h => k v y p pos h
noncomputable def vPart (x : Expr) (f : Expr → Expr → Expr → Bool) : Bool := vSub x fun v s => vSl s fun a b c => oN c (oS a fun h => oS b fun k => f v h k)
@[elab_as_elim] theorem vPart_el {x : Expr} {f : Expr → Expr → Expr → Bool} {M : Expr → Prop} (h : vPart x f = true) (k : ∀ x y z p pos, f x y z = true → M (.Subscript x (.Slice (some y) (some z) none p) pos)) : M x :=
  vSub_el h fun v s pos h => vSl_el (M := fun s => M (.Subscript v s pos)) h fun a b c p h => oN_el (M := fun c => M (.Subscript v (.Slice a b c p) pos)) h fun h => oS_el (M := fun a => M (.Subscript v (.Slice a b none p) pos)) h fun y h => oS_el (M := fun b => M (.Subscript v (.Slice (some y) b none p) pos)) h fun z h => k v y z p pos h
noncomputable def vWhole (x : Expr) (f : Expr → Bool) : Bool := vSub x fun v s => vSl s fun a b c => oN a (oN b (oN c (f v)))
@[elab_as_elim] theorem vWhole_el {x : Expr} {f : Expr → Bool} {M : Expr → Prop} (h : vWhole x f = true) (k : ∀ x p pos, f x = true → M (.Subscript x (.Slice none none none p) pos)) : M x :=
  vSub_el h fun v s pos h => vSl_el (M := fun s => M (.Subscript v s pos)) h fun a b c p h => oN_el (M := fun a => M (.Subscript v (.Slice a b c p) pos)) h fun h => oN_el (M := fun b => M (.Subscript v (.Slice none b c p) pos)) h fun h => oN_el (M := fun c => M (.Subscript v (.Slice none none c p) pos)) h fun h => k v p pos h
noncomputable def vCallN (x : Expr) (f : Str → List Expr → Bool) : Bool := vCall x fun g es ks _ => l0 ks (vName g fun id => f id es)
@[elab_as_elim] theorem vCallN_el {x : Expr} {f : Str → List Expr → Bool} {M : Expr → Prop} (h : vCallN x f = true) (k : ∀ id p es pos, f id es = true → M (.Call (.Name id p) es [] pos)) : M x :=
  vCall_el h fun g es ks pos h => l0_el (M := fun ks => M (.Call g es ks pos)) h fun h => vName_el (M := fun g => M (.Call g es [] pos)) h fun id p h => k id p es pos h
noncomputable def vCallN1 (x : Expr) (f : Str → Expr → Bool) : Bool := vCallN x fun id es => l1 es fun y => f id y
@[elab_as_elim] theorem vCallN1_el {x : Expr} {f : Str → Expr → Bool} {M : Expr → Prop} (h : vCallN1 x f = true) (k : ∀ id p y pos, f id y = true → M (.Call (.Name id p) [y] [] pos)) : M x :=
  vCallN_el h fun id p es pos h => l1_el (M := fun es => M (.Call (.Name id p) es [] pos)) h fun y h => k id p y pos h
noncomputable def vCallA (x : Expr) (f : Expr → Str → Pos → List Expr → Pos → Bool) : Bool := vCall x fun g es ks pos => l0 ks (vAttr g fun o n apos => f o n apos es pos)
@[elab_as_elim] theorem vCallA_el {x : Expr} {f : Expr → Str → Pos → List Expr → Pos → Bool} {M : Expr → Prop} (h : vCallA x f = true) (k : ∀ o n apos es pos, f o n apos es pos = true → M (.Call (.Attribute o n apos) es [] pos)) : M x :=
  vCall_el h fun g es ks pos h => l0_el (M := fun ks => M (.Call g es ks pos)) h fun h => vAttr_el (M := fun g => M (.Call g es [] pos)) h fun o n a h => k o n a es pos h
noncomputable def vCallA0 (x : Expr) (f : Expr → Str → Pos → Pos → Bool) : Bool := vCallA x fun o n a es p => l0 es (f o n a p)
@[elab_as_elim] theorem vCallA0_el {x : Expr} {f : Expr → Str → Pos → Pos → Bool} {M : Expr → Prop} (h : vCallA0 x f = true) (k : ∀ o n apos pos, f o n apos pos = true → M (.Call (.Attribute o n apos) [] [] pos)) : M x :=
  vCallA_el h fun o n a es p h => l0_el (M := fun es => M (.Call (.Attribute o n a) es [] p)) h fun h => k o n a p h
noncomputable def vCallA1 (x : Expr) (f : Expr → Str → Pos → Expr → Pos → Bool) : Bool := vCallA x fun o n a es p => l1 es fun y => f o n a y p
@[elab_as_elim] theorem vCallA1_el {x : Expr} {f : Expr → Str → Pos → Expr → Pos → Bool} {M : Expr → Prop} (h : vCallA1 x f = true) (k : ∀ o n apos y pos, f o n apos y pos = true → M (.Call (.Attribute o n apos) [y] [] pos)) : M x :=
  vCallA_el h fun o n a es p h => l1_el (M := fun es => M (.Call (.Attribute o n a) es [] p)) h fun y h => k o n a y p h
noncomputable def vCallA2 (x : Expr) (f : Expr → Str → Pos → Expr → Expr → Pos → Bool) : Bool := vCallA x fun o n a es p => l2 es fun y z => f o n a y z p
@[elab_as_elim] theorem vCallA2_el {x : Expr} {f : Expr → Str → Pos → Expr → Expr → Pos → Bool} {M : Expr → Prop} (h : vCallA2 x f = true) (k : ∀ o n apos y z pos, f o n apos y z pos = true → M (.Call (.Attribute o n apos) [y, z] [] pos)) : M x :=
  vCallA_el h fun o n a es p h => l2_el (M := fun es => M (.Call (.Attribute o n a) es [] p)) h fun y z h => k o n a y z p h
noncomputable def vDnil (x : Expr) : Bool := vDict x fun ks es => l0 ks (l0 es true)
@[elab_as_elim] theorem vDnil_el {x : Expr} {M : Expr → Prop} (h : vDnil x = true) (k : ∀ p, true = true → M (.Dict [] [] p)) : M x :=
  vDict_el h fun ks es p h => l0_el (M := fun ks => M (.Dict ks es p)) h fun h => l0_el (M := fun es => M (.Dict [] es p)) h fun _ => k p rfl
noncomputable def vGen (x : Expr) (f : Expr → Str → Expr → List Expr → Scope → Bool) : Bool := vLC x fun y gs sc => l1 gs fun g => g.is_async == 0 && vName g.target fun id => f y id g.iter g.ifs sc
@[elab_as_elim] theorem vGen_el {x : Expr} {f : Expr → Str → Expr → List Expr → Scope → Bool} {M : Expr → Prop} (h : vGen x f = true) (k : ∀ y id px it ifs sc pos, f y id it ifs sc = true → M (.ListComp y [⟨.Name id px, it, ifs, 0⟩] sc pos)) : M x :=
  vLC_el h fun y gs sc pos h => l1_el (M := fun gs => M (.ListComp y gs sc pos)) h fun ⟨tg, it, ifs, z⟩ h => beq_el (M := fun z => M (.ListComp y [⟨tg, it, ifs, z⟩] sc pos)) h fun h => vName_el (M := fun tg => M (.ListComp y [⟨tg, it, ifs, 0⟩] sc pos)) h fun id px h => k y id px it ifs sc pos h
noncomputable def vGenR (x : Expr) (f : Expr → Str → Str → Expr → List Expr → Scope → Bool) : Bool := vGen x fun y id it ifs sc => vCallN1 it fun rg h => f y id rg h ifs sc
@[elab_as_elim] theorem vGenR_el {x : Expr} {f : Expr → Str → Str → Expr → List Expr → Scope → Bool} {M : Expr → Prop} (h : vGenR x f = true) (k : ∀ y id px rg pp hx pp2 ifs sc pos, f y id rg hx ifs sc = true → M (.ListComp y [⟨.Name id px, .Call (.Name rg pp) [hx] [] pp2, ifs, 0⟩] sc pos)) : M x :=
  vGen_el h fun y id px it ifs sc pos h => vCallN1_el (M := fun it => M (.ListComp y [⟨.Name id px, it, ifs, 0⟩] sc pos)) h fun rg pp hx pp2 h => k y id px rg pp hx pp2 ifs sc pos h
noncomputable def wAsg (x : Stmt) (f : Expr → Expr → Bool) : Bool := uAsg x fun ts e => l1 ts fun t => f t e
@[elab_as_elim] theorem wAsg_el {x : Stmt} {f : Expr → Expr → Bool} {M : Stmt → Prop} (h : wAsg x f = true) (k : ∀ t e p, f t e = true → M (.Assign [t] e p)) : M x :=
  uAsg_el h fun ts e p h => l1_el (M := fun ts => M (.Assign ts e p)) h fun t h => k t e p h
noncomputable def wWhl (x : Stmt) (f : Expr → List Stmt → Bool) : Bool := uWhl x fun e a b => l0 b (f e a)
@[elab_as_elim] theorem wWhl_el {x : Stmt} {f : Expr → List Stmt → Bool} {M : Stmt → Prop} (h : wWhl x f = true) (k : ∀ e a p, f e a = true → M (.While e a [] p)) : M x :=
  uWhl_el h fun e a b p h => l0_el (M := fun b => M (.While e a b p)) h fun h => k e a p h
noncomputable def wFor (x : Stmt) (f : Str → Expr → List Stmt → Bool) : Bool := uFor x fun t e a b => l0 b (vName t fun id => f id e a)
@[elab_as_elim] theorem wFor_el {x : Stmt} {f : Str → Expr → List Stmt → Bool} {M : Stmt → Prop} (h : wFor x f = true) (k : ∀ id px e a p, f id e a = true → M (.For (.Name id px) e a [] p)) : M x :=
  uFor_el h fun t e a b p h => l0_el (M := fun b => M (.For t e a b p)) h fun h => vName_el (M := fun t => M (.For t e a [] p)) h fun id px h => k id px e a p h
noncomputable def wAsgN (x : Stmt) (f : Str → Expr → Bool) : Bool := wAsg x fun t e => vName t fun id => f id e
@[elab_as_elim] theorem wAsgN_el {x : Stmt} {f : Str → Expr → Bool} {M : Stmt → Prop} (h : wAsgN x f = true) (k : ∀ id px e p, f id e = true → M (.Assign [.Name id px] e p)) : M x :=
  wAsg_el h fun t e p h => vName_el (M := fun t => M (.Assign [t] e p)) h fun id px h => k id px e p h
noncomputable def wAsgA (x : Stmt) (f : Expr → Str → Expr → Bool) : Bool := wAsg x fun t e => vAttr t fun o n _ => f o n e
@[elab_as_elim] theorem wAsgA_el {x : Stmt} {f : Expr → Str → Expr → Bool} {M : Stmt → Prop} (h : wAsgA x f = true) (k : ∀ o n ap e p, f o n e = true → M (.Assign [.Attribute o n ap] e p)) : M x :=
  wAsg_el h fun t e p h => vAttr_el (M := fun t => M (.Assign [t] e p)) h fun o n ap h => k o n ap e p h
noncomputable def wAsgI (x : Stmt) (f : Expr → Expr → Expr → Bool) : Bool := wAsg x fun t e => vSub t fun o i => f o i e
@[elab_as_elim] theorem wAsgI_el {x : Stmt} {f : Expr → Expr → Expr → Bool} {M : Stmt → Prop} (h : wAsgI x f = true) (k : ∀ o i ap e p, f o i e = true → M (.Assign [.Subscript o i ap] e p)) : M x :=
  wAsg_el h fun t e p h => vSub_el (M := fun t => M (.Assign [t] e p)) h fun o i ap h => k o i ap e p h
noncomputable def wAugN (x : Stmt) (f : Str → Operator → Expr → Bool) : Bool := wAug x fun t o e => vName t fun id => f id o e
@[elab_as_elim] theorem wAugN_el {x : Stmt} {f : Str → Operator → Expr → Bool} {M : Stmt → Prop} (h : wAugN x f = true) (k : ∀ id px op e p, f id op e = true → M (.AugAssign (.Name id px) op e p)) : M x :=
  wAug_el h fun t o e p h => vName_el (M := fun t => M (.AugAssign t o e p)) h fun id px h => k id px o e p h
noncomputable def wForR (x : Stmt) (f : Str → Str → Expr → List Stmt → Bool) : Bool := wFor x fun id e a => vCallN1 e fun rg h => f id rg h a
@[elab_as_elim] theorem wForR_el {x : Stmt} {f : Str → Str → Expr → List Stmt → Bool} {M : Stmt → Prop} (h : wForR x f = true) (k : ∀ id px rg p1 hx p2 a p, f id rg hx a = true → M (.For (.Name id px) (.Call (.Name rg p1) [hx] [] p2) a [] p)) : M x :=
  wFor_el h fun id px e a p h => vCallN1_el (M := fun e => M (.For (.Name id px) e a [] p)) h fun rg p1 hx p2 h => k id px rg p1 hx p2 a p h
noncomputable def wForD (x : Stmt) (f : Str → Str → Expr → Expr → List Stmt → Bool) : Bool := wFor x fun id e a => vCallN e fun rg es => lC es fun y ys => l2 ys fun z w => vUnO .USub w fun w => vInt w fun j => j == 1 && f id rg y z a
@[elab_as_elim] theorem wForD_el {x : Stmt} {f : Str → Str → Expr → Expr → List Stmt → Bool} {M : Stmt → Prop} (h : wForD x f = true) (k : ∀ id px rg p1 y z q p4 p5 p2 a p, f id rg y z a = true → M (.For (.Name id px) (.Call (.Name rg p1) [y, z, .UnaryOp .USub (.Constant (.int 1) q p4) p5] [] p2) a [] p)) : M x :=
  wFor_el h fun id px e a p h => vCallN_el (M := fun e => M (.For (.Name id px) e a [] p)) h fun rg p1 es p2 h => lC_el (M := fun es => M (.For (.Name id px) (.Call (.Name rg p1) es [] p2) a [] p)) h fun y ys h => l2_el (M := fun ys => M (.For (.Name id px) (.Call (.Name rg p1) (y :: ys) [] p2) a [] p)) h fun z w h =>
    vUnO_el (M := fun w => M (.For (.Name id px) (.Call (.Name rg p1) [y, z, w] [] p2) a [] p)) h fun w p5 h => vInt_el (M := fun w => M (.For (.Name id px) (.Call (.Name rg p1) [y, z, .UnaryOp .USub w p5] [] p2) a [] p)) h fun j q p4 h => beq_el (M := fun j => M (.For (.Name id px) (.Call (.Name rg p1) [y, z, .UnaryOp .USub (.Constant (.int j) q p4) p5] [] p2) a [] p)) h fun h => k id px rg p1 y z q p4 p5 p2 a p h

/-- the test of a comprehension -/
noncomputable def isT (x : X) : Bool := onIdx x.ctorIdx 3 fun hi => X.cbool.elim (motive_1 := fun _ => Bool) x hi fun b => b
theorem isT_eq {x : X} (h : isT x = true) : x = .cbool true := onIdx_el h fun hi h => X.cbool.elim (motive_1 := fun x => ∀ hi, (X.cbool.elim (motive_1 := fun _ => Bool) x hi fun b => b) = true → x = .cbool true) x hi (fun _ _ h => congrArg X.cbool h) hi h
noncomputable def ifsTr (ifs : List Expr) (t : Bool) (f : Expr → Bool) : Bool := List.casesOn ifs t fun c r => l0 r (f c)

mutual
noncomputable def trE (D : Nm) (names : Names) (sl : List Str) : X → Expr → Bool
  | .loc i => fun e => vName e fun id => sl[i]? == some id && plainN id && slotK (names.lookup id)
  | .cint i => fun e => vInt e fun j => i == j
  | .cstr s => fun e => vStr e fun t => s == t
  | .cbool a => fun e => vBl e fun b => a == b
  | .neg a => fun e => vUnO .USub e fun e => trE D names sl a e
  | .not a => fun e => vUnO .Not e fun e => trE D names sl a e
  | .bin o a b => fun e => vBin e fun l op r => boOk o op && trE D names sl a l && trE D names sl b r
  | .and xs => fun e => vBoolO .And e fun es => trEs D names sl xs es
  | .or xs => fun e => vBoolO .Or e fun es => trEs D names sl xs es
  | .cmp o a b => fun e => vCmp1 e fun l op r => coOk o op && !behindInMarks op r && trE D names sl a l && trE D names sl b r
  | .cmp2 a o b p c => fun e => vCmp2 e fun l op op' r r' => coOk o op && coOk p op' && !behindInMarks op' r' && trE D names sl a l && trE D names sl b r && trE D names sl c r'
  | .inS neg a ss => fun e => vCmpT e fun l op es => coOk (if neg then .notin else .isin) op && strsOk ss es && decide (ss.length ≤ lid) && trE D names sl a l
  | .nil neg a => fun e => vCmpN e fun l op => coOk (if neg then .ne else .eq) op && trE D names sl a l
  | .ite c a b => fun e => vIte e fun t x y => trE D names sl c t && trE D names sl a x && trE D names sl b y
  | .tup xs => fun e => vTup e fun es => trEs D names sl xs es
  | .lst xs => fun e => vList e fun es => trEs D names sl xs es
  | .idx a i => fun e => vSub e fun v s => notStar s && trE D names sl a v && trE D names sl i s
  | .upto a hi => fun e => vUpto e fun v h => trE D names sl a v && trE D names sl hi h
  | .part a lo hi => fun e => vPart e fun v m h => trE D names sl a v && trE D names sl lo m && trE D names sl hi h
  | .whole a => fun e => vWhole e fun v => trE D names sl a v
  | .attr a f => fun e => vAttr e fun v n _ => D.fld[f]? == some n && baseOk v && trE D names sl a v
  | .call g xs => fun e => vCallN e fun id es => D.gn[g]? == some id && plainN id && names.lookup id == some .globalImplicit && trEs D names sl xs es
  | .new c xs => fun e => vCallN e fun id es => D.cn[c]? == some id && plainN id && names.lookup id == some .globalImplicit && trEs D names sl xs es
  | .len a => fun e => vCallN1 e fun id e => id == ("len" : Str) && names.lookup id == some .globalImplicit && notStar e && trE D names sl a e
  | .mkl a => fun e => vCallN1 e fun id e => id == ("list" : Str) && names.lookup id == some .globalImplicit && notStar e && trE D names sl a e
  | .meth a m xs => fun e => vCallA e fun o n apos es pos => D.mn[m]? == some n && baseOk o && lineOk apos pos es.length && trE D names sl a o && trEs D names sl xs es
  | .app a x => fun e => vCallA1 e fun o n apos e pos => n == ("append" : Str) && baseOk o && lineOk apos pos 1 && notStar e && trE D names sl a o && trE D names sl x e
  | .pop a => fun e => vCallA0 e fun o n apos pos => n == ("pop" : Str) && baseOk o && lineOk apos pos 0 && trE D names sl a o
  | .index a x => fun e => vCallA1 e fun o n apos e pos => n == ("index" : Str) && baseOk o && lineOk apos pos 1 && notStar e && trE D names sl a o && trE D names sl x e
  | .ins a i x => fun e => vCallA2 e fun o n apos d e pos => n == ("insert" : Str) && baseOk o && lineOk apos pos 2 && notStar d && notStar e && trE D names sl a o && trE D names sl i d && trE D names sl x e
  | .ext a b => fun e => vCallA1 e fun o n apos e pos => n == ("extend" : Str) && baseOk o && lineOk apos pos 1 && notStar e && trE D names sl a o && trE D names sl b e
  | .dget a k d => fun e => vCallA2 e fun o n apos x y pos => n == ("get" : Str) && baseOk o && lineOk apos pos 2 && notStar x && notStar y && trE D names sl a o && trE D names sl k x && trE D names sl d y
  | .split a => fun e => vCallA0 e fun o n apos pos => n == ("split" : Str) && baseOk o && lineOk apos pos 0 && trE D names sl a o
  | .dnil => fun e => vDnil e
  | .comp elt slot src cond => fun e => vGen e fun e x it ifs sc => sl[slot]? == some x && scopeOk names sl sc x && notSet it && trE D names sl src it &&
      ifsTr ifs (isT cond) (fun c => trE D (inner names sc.names) sl cond c) && trE D (inner names sc.names) sl elt e
  | .compR elt slot hi cond => fun e => vGenR e fun e x id h ifs sc => sl[slot]? == some x && scopeOk names sl sc x && id == ("range" : Str) && names.lookup id == some .globalImplicit && notStar h && trE D names sl hi h &&
      ifsTr ifs (isT cond) (fun c => trE D (inner names sc.names) sl cond c) && trE D (inner names sc.names) sl elt e
  | .stuck => fun _ => true
  | .etup => fun _ => false
noncomputable def trEs (D : Nm) (names : Names) (sl : List Str) : Xs → List Expr → Bool
  | .nil, [] => true
  | .cons x xs, e :: es => notStar e && trE D names sl x e && trEs D names sl xs es
  | _, _ => false
end

theorem trE_comp {D : Nm} {names : Names} {sl : List Str} {elt src cond : X} {slot : Nat} {e : Expr} (h : trE D names sl (.comp elt slot src cond) e = true) : vGen e (fun e x it ifs sc => sl[slot]? == some x && scopeOk names sl sc x && notSet it && trE D names sl src it &&
      ifsTr ifs (isT cond) (fun c => trE D (inner names sc.names) sl cond c) && trE D (inner names sc.names) sl elt e) = true := h
theorem trE_compR {D : Nm} {names : Names} {sl : List Str} {elt hi cond : X} {slot : Nat} {e : Expr} (h : trE D names sl (.compR elt slot hi cond) e = true) : vGenR e (fun e x id h ifs sc => sl[slot]? == some x && scopeOk names sl sc x && id == ("range" : Str) && names.lookup id == some .globalImplicit && notStar h && trE D names sl hi h &&
      ifsTr ifs (isT cond) (fun c => trE D (inner names sc.names) sl cond c) && trE D (inner names sc.names) sl elt e) = true := h

end Mine
end
section
open PySem PySem.W PySem.Calls PyProof.Rows PySem.SeqAt
namespace Mine

theorem all2_told {f : V → V → Option Bool} : ∀ {a b : List V} {r : Bool}, all2 f a b = some r → a.length = b.length →
    (∀ (j : Nat) (x y : V), a[j]? = some x → b[j]? = some y → ∃ p, f x y = some p) ∧ (List.range a.length).all (fun j => match a[j]?, b[j]? with | some x, some y => (f x y).getD false | _, _ => false) = r
  | [], [], r, h, _ => by cases h; exact ⟨fun j x y e => by simp at e, rfl⟩
  | x :: a, y :: b, r, h, hl => by
    simp only [all2] at h
    split at h
    · rename_i p q hp hq
      cases h
      obtain ⟨h1, h2⟩ := all2_told hq (by simpa using hl)
      refine ⟨fun j u v e e' => ?_, ?_⟩
      · cases j with
        | zero => simp at e e'; subst e e'; exact ⟨p, hp⟩
        | succ j => exact h1 j u v (by simpa using e) (by simpa using e')
      · rw [List.length_cons, List.range_succ_eq_map, List.all_cons, List.all_map]
        simp only [List.getElem?_cons_zero, hp, Option.getD_some, Function.comp_def, List.getElem?_cons_succ]
        rw [h2]
    · cases h
  | [], _ :: _, _, _, hl => by simp at hl
  | _ :: _, [], _, _, hl => by simp at hl

theorem all2_refl {f : V → V → Option Bool} (hf : ∀ x b, f x x = some b → b = true) : ∀ {a : List V} {r : Bool}, all2 f a a = some r → r = true
  | [], r, h => by cases h; rfl
  | x :: a, r, h => by
    simp only [all2] at h
    split at h
    · rename_i p q hp hq
      cases h
      rw [hf x p hp, all2_refl hf hq]; rfl
    · cases h
theorem of_ite {α : Type} {p : Prop} [Decidable p] {a : Option α} {r : α} (h : (if p then a else none) = some r) : p ∧ a = some r := by
  by_cases hp : p
  · rw [if_pos hp] at h; exact ⟨hp, h⟩
  · rw [if_neg hp] at h; cases h
theorem getL_some {v : V} {H : AH} {vs : List V} (h : getL v H = some vs) : ∃ i, v = .ref i ∧ H[i]? = some (.list vs) := by
  cases v with
  | ref i =>
    refine ⟨i, rfl, ?_⟩
    unfold getL at h
    dsimp only at h
    cases hH : H[i]? with
    | none => rw [hH] at h; cases h
    | some o =>
      rw [hH] at h
      cases o with
      | list a => cases h; rfl
      | _ => cases h
  | _ => cases h
theorem asI_some {v : V} {a : Int} (h : asI v = some a) : v = .int a := by cases v <;> cases h; rfl
theorem asS_some {v : V} {a : Str} (h : asS v = some a) : v = .str a := by cases v <;> cases h; rfl
theorem asB_some {v : V} {a : Bool} (h : asB v = some a) : v = .bool a := by cases v <;> cases h; rfl
theorem int2_some {α : Type} {v u : V} {f : Int → Int → Option α} {r : α} (h : int2 v u f = some r) : ∃ a b, v = .int a ∧ u = .int b ∧ f a b = some r := by
  obtain ⟨a, h1, h⟩ := Option.bind_eq_some_iff.mp h
  obtain ⟨b, h2, h⟩ := Option.bind_eq_some_iff.mp h
  exact ⟨a, b, asI_some h1, asI_some h2, h⟩
theorem prim_told {v u : V} {b : Bool} (h : prim v u = some b) : (∃ x y, v = .bool x ∧ u = .bool y ∧ (x == y) = b) ∨ (∃ x y, v = .int x ∧ u = .int y ∧ (x == y) = b) ∨ (∃ x y, v = .str x ∧ u = .str y ∧ (x == y) = b) := by
  unfold prim at h
  cases v <;> first | (cases h; done) | obtain ⟨y, h1, h⟩ := Option.map_eq_some_iff.mp h
  · exact .inl ⟨_, y, rfl, asB_some h1, h⟩
  · exact .inr (.inl ⟨_, y, rfl, asI_some h1, h⟩)
  · exact .inr (.inr ⟨_, y, rfl, asS_some h1, h⟩)
theorem prim_refl {v : V} {b : Bool} (h : prim v v = some b) : b = true := by
  rcases prim_told h with ⟨x, y, rfl, e, rfl⟩ | ⟨x, y, rfl, e, rfl⟩ | ⟨x, y, rfl, e, rfl⟩ <;> (cases e; exact beq_self_eq_true _)
theorem objOf_some {v : V} {H : AH} {o : AObj} (h : objOf v H = some o) : ∃ i, v = .ref i ∧ H[i]? = some o := by cases v <;> first | (cases h; done) | exact ⟨_, rfl, h⟩
/-- one step down: two plain values, or two objects -/
theorem veq_step {H : AH} {d : Nat} {v u : V} {b : Bool} (h : veq H (d + 1) v u = some b) : prim v u = some b ∨ ∃ i j o o', v = .ref i ∧ u = .ref j ∧ H[i]? = some o ∧ H[j]? = some o' ∧ seqEq (veq H d) o o' = some b := by
  change (match objOf v H with
    | some o => (objOf u H).bind (seqEq (veq H d) o)
    | none => prim v u) = some b at h
  cases ho : objOf v H with
  | none => rw [ho] at h; exact .inl h
  | some o =>
    rw [ho] at h
    obtain ⟨o', e, h⟩ := Option.bind_eq_some_iff.mp h
    obtain ⟨i, h1, h2⟩ := objOf_some ho
    obtain ⟨j, h3, h4⟩ := objOf_some e
    exact .inr ⟨i, j, o, o', h1, h3, h2, h4, h⟩
theorem seqEq_told {f : V → V → Option Bool} {o o' : AObj} {b : Bool} (h : seqEq f o o' = some b) : ∃ a a', (o = .list a ∧ o' = .list a' ∧ (a.length = a'.length ∧ all2 f a a' = some b ∨ ¬ a.length = a'.length ∧ b = false)) ∨
    (o = .tup a ∧ o' = .tup a' ∧ a.length = a'.length ∧ all2 f a a' = some b) := by
  cases o with
  | list a =>
    cases o' with
    | list a' =>
      obtain ⟨_, h⟩ := of_ite h
      refine ⟨a, a', .inl ⟨rfl, rfl, ?_⟩⟩
      by_cases hl : a.length = a'.length
      · rw [if_pos hl] at h; exact .inl ⟨hl, h⟩
      · rw [if_neg hl] at h; cases h; exact .inr ⟨hl, rfl⟩
    | _ => cases h
  | tup a =>
    cases o' with
    | tup a' => obtain ⟨⟨_, hl⟩, h⟩ := of_ite h; exact ⟨a, a', .inr ⟨rfl, rfl, hl, h⟩⟩
    | _ => cases h
  | _ => cases h
theorem veq_refl {H : AH} : ∀ (d : Nat) (v : V) (b : Bool), veq H d v v = some b → b = true
  | 0, v, b, h => prim_refl h
  | d + 1, v, b, h => by
    rcases veq_step h with h | ⟨i, j, o, o', rfl, e, h1, h2, h⟩
    · exact prim_refl h
    · cases e
      cases h1.symm.trans h2
      obtain ⟨a, a', ⟨h1, h2, h⟩ | ⟨h1, h2, _, h⟩⟩ := seqEq_told h
      · cases h1.symm.trans h2
        rcases h with ⟨_, h⟩ | ⟨h, _⟩
        · exact all2_refl (veq_refl d) h
        · exact absurd rfl h
      · cases h1.symm.trans h2
        exact all2_refl (veq_refl d) h

noncomputable def toldIn (H : AH) (d : Nat) (a b : List V) (j : Nat) : Bool := match a[j]?, b[j]? with | some x, some y => (veq H d x y).getD false | _, _ => false

theorem prim_sound {c : Cx} {s : Shared} {μ : Mu} {A : Around} {v u : V} {x y : Value} {b : Bool} (h : prim v u = some b) (hv : RV c.B μ v x) (hu : RV c.B μ u y) : EqAt A s x y b ∧ RcAt A s x y b ∧ RcNeAt A s x y (!b) := by
  rcases prim_told h with ⟨p, q, rfl, rfl, rfl⟩ | ⟨p, q, rfl, rfl, rfl⟩ | ⟨p, q, rfl, rfl, rfl⟩
  · cases hv; cases hu; exact ⟨.bool_bool _ _, .bool_bool _ _, .bool_bool _ _⟩
  · obtain ⟨t, rfl⟩ := hv; obtain ⟨t', rfl⟩ := hu; exact ⟨.int_int _ _ _ _, .int_int _ _ _ _, .int_int _ _ _ _⟩
  · obtain ⟨t, rfl⟩ := hv; obtain ⟨t', rfl⟩ := hu; exact ⟨.str_str _ _ _ _, .str_str _ _ _ _, .str_str _ _ _ _⟩

theorem veq_sound {c : Cx} {s : Shared} {μ : Mu} {H : AH} (S : St c s.heap μ H) : ∀ (d : Nat) (A : Around) (v u : V) (x y : Value) (b : Bool), A.units + d < cLine → veq H d v u = some b → RV c.B μ v x → RV c.B μ u y →
    EqAt A s x y b ∧ RcAt A s x y b ∧ RcNeAt A s x y (!b) := by
  intro d
  induction d with
  | zero => exact fun A v u x y b _ h hv hu => prim_sound h hv hu
  | succ d ih =>
    intro A v u x y b hA h hv hu
    have items : ∀ {a a' : List V} {xs xs' : List Value} {b : Bool}, RVs c.B μ a xs → RVs c.B μ a' xs' → all2 (veq H d) a a' = some b → a.length = a'.length →
        xs.toArray.size = xs'.toArray.size ∧ xs.toArray.size = a.length ∧ (List.range a.length).all (toldIn H d a a') = b ∧ ∀ k (k1 : k < xs.toArray.size) (k2 : k < xs'.toArray.size), EqAt A.in1 s xs.toArray[k] xs'.toArray[k] (toldIn H d a a' k) := by
      intro a a' xs xs' b r r' h hlen
      obtain ⟨h1, h2⟩ := all2_told h hlen
      have e1 := r.length
      have e2 := r'.length
      refine ⟨by rw [List.size_toArray, List.size_toArray, e1, e2, hlen], by rw [List.size_toArray, e1], h2, fun k k1 k2 => ?_⟩
      rw [List.size_toArray] at k1 k2
      rw [e1] at k1
      rw [e2] at k2
      have hz : a[k]? = some a[k] := List.getElem?_eq_getElem k1
      have hz' : a'[k]? = some a'[k] := List.getElem?_eq_getElem k2
      generalize a[k] = z at hz
      generalize a'[k] = z' at hz'
      obtain ⟨w, hw, rw'⟩ := r.get hz
      obtain ⟨w', hw', rw''⟩ := r'.get hz'
      obtain ⟨b', hb⟩ := h1 k z z' hz hz'
      unfold toldIn
      rw [List.getElem_toArray, List.getElem_toArray, (List.getElem?_eq_some_iff.mp hw).2, (List.getElem?_eq_some_iff.mp hw').2, hz, hz']
      dsimp only
      rw [hb]
      exact (ih A.in1 z z' w w' b' (by show A.units + 1 + d < cLine; omega) hb rw' rw'').1
    rcases veq_step h with h' | ⟨i, j, o, o', rfl, rfl, e, e', h'⟩
    · exact prim_sound h' hv hu
    · obtain ⟨p, hp, rfl⟩ := hv
      obtain ⟨q, hq, rfl⟩ := hu
      have sameRef : RcAt A s (.ref p.1) (.ref q.1) b → EqAt A s (.ref p.1) (.ref q.1) b := fun hrc => by
        by_cases hij : i = j
        · subst hij
          rw [hp] at hq; cases hq
          rw [veq_refl _ _ _ h]; exact EqAt.same _
        · exact .of_refs (fun e => feet_apart S.nodup hp hq hij p.1 (List.mem_cons_self) (e ▸ List.mem_cons_self)) hrc
      have hd : A.units < cLine := by omega
      obtain ⟨a, a', ⟨rfl, rfl, h2⟩ | ⟨rfl, rfl, hlen, h2⟩⟩ := seqEq_told h'
      · obtain ⟨_, xs, n, g, r⟩ := S.obj _ _ _ e hp
        obtain ⟨_, xs', n', g', r'⟩ := S.obj _ _ _ e' hq
        have lx : s.heap.IsList p.1 xs.toArray := ⟨_, g, rfl, n, rfl⟩
        have lx' : s.heap.IsList q.1 xs'.toArray := ⟨_, g', rfl, n', rfl⟩
        rcases h2 with ⟨hlen, h3⟩ | ⟨hlen, rfl⟩
        · obtain ⟨hsz, hn, hb, it⟩ := items r r' h3 hlen
          rw [← hn] at hb
          have R : RcAt A s (.ref p.1) (.ref q.1) b := hb ▸ RcAt.lists lx lx' hsz hd it
          exact ⟨sameRef R, R, hb ▸ RcNeAt.lists lx lx' hsz hd it⟩
        · have hsz : (xs.toArray.size != xs'.toArray.size) = true := by
            rw [List.size_toArray, List.size_toArray, r.length, r'.length]; exact bne_iff_ne.mpr hlen
          have R : RcAt A s (.ref p.1) (.ref q.1) false := RcAt.lists_lengths lx lx' hsz hd
          exact ⟨sameRef R, R, RcNeAt.lists_lengths lx lx' hsz hd⟩
      · obtain ⟨_, xs, n, g, r⟩ := S.obj _ _ _ e hp
        obtain ⟨_, xs', n', g', r'⟩ := S.obj _ _ _ e' hq
        have lx : s.heap.IsTuple p.1 xs.toArray := ⟨_, g, rfl, n, rfl⟩
        have lx' : s.heap.IsTuple q.1 xs'.toArray := ⟨_, g', rfl, n', rfl⟩
        obtain ⟨hsz, hn, hb, it⟩ := items r r' h2 hlen
        have hb' : ((List.range (min xs.toArray.size xs'.toArray.size)).all (toldIn H d a a') && xs.toArray.size == xs'.toArray.size) = b := by
          rw [← hsz, Nat.min_self, beq_self_eq_true, Bool.and_true, hn]; exact hb
        have R : RcAt A s (.ref p.1) (.ref q.1) b := hb' ▸ RcAt.tuples lx lx' hd it
        exact ⟨sameRef R, R, hb' ▸ RcNeAt.tuples lx lx' hd it⟩

/-- two values, told apart by what they show -/
noncomputable def ceq (x y : Value) : Bool := match y, x with
  | .int a _, .int b _ => a == b
  | .str a _, .str b _ => a == b
  | .bool a, .bool b => a == b
  | _, _ => false
theorem ceq_of {B : Heap} {μ : Mu} {H : AH} {v u : V} {x y : Value} {b : Bool} (h : veq H 0 v u = some b) (hv : RV B μ v x) (hu : RV B μ u y) : ceq y x = b := by
  rcases prim_told h with ⟨p, q, rfl, rfl, rfl⟩ | ⟨p, q, rfl, rfl, rfl⟩ | ⟨p, q, rfl, rfl, rfl⟩
  · cases hv; cases hu; rfl
  · obtain ⟨t, rfl⟩ := hv; obtain ⟨t', rfl⟩ := hu; rfl
  · obtain ⟨t, rfl⟩ := hv; obtain ⟨t', rfl⟩ := hu; rfl
theorem anyEq_told {B : Heap} {μ : Mu} {H : AH} {v : V} {x : Value} (hv : RV B μ v x) : ∀ {vs : List V} {xs : List Value} {b : Bool}, anyEq H v vs = some b → RVs B μ vs xs →
    (∀ y ∈ xs, ∃ u b, veq H 0 u v = some b ∧ RV B μ u y) ∧ xs.any (ceq x) = b
  | [], [], b, h, _ => by cases h; exact ⟨fun y hy => by simp at hy, rfl⟩
  | u :: vs, y :: xs, b, h, ⟨r, rs⟩ => by
    simp only [anyEq] at h
    split at h
    · rename_i p q hp hq
      cases h
      obtain ⟨h1, h2⟩ := anyEq_told hv hq rs
      refine ⟨fun z hz => ?_, ?_⟩
      · rcases List.mem_cons.mp hz with rfl | hz
        · exact ⟨u, p, hp, r⟩
        · exact h1 z hz
      · rw [List.any_cons, h2, ceq_of hp r hv]
    · cases h
  | [], _ :: _, _, _, h => h.elim
  | _ :: _, [], _, _, h => h.elim

/-- in, told by the items -/
theorem in_told {c : Cx} {s : Shared} {μ : Mu} {H : AH} {A : Around} (S : St c s.heap μ H) (hA : A.units + 10 < cLine) {v u : V} {x y : Value} {b : Bool} (h : inV v u H = some b) (hv : RV c.B μ v x) (hu : RV c.B μ u y) :
    ∃ (l : Addr) (xs : List Value), y = .ref l ∧ (s.heap.IsList l xs.toArray ∨ s.heap.IsTuple l xs.toArray) ∧ (∀ z ∈ xs.toArray, EqAt A.in1 s z x (ceq x z)) ∧ xs.toArray.any (ceq x) = b := by
  obtain ⟨vs, h1, h0⟩ := Option.bind_eq_some_iff.mp h
  obtain ⟨hl, h2⟩ := of_ite h0
  clear h h0
  cases u with
  | ref j =>
    obtain ⟨q, hq', rfl⟩ := hu
    have go : ∀ {xs}, RVs c.B μ vs xs → (∀ z ∈ xs.toArray, EqAt A.in1 s z x (ceq x z)) ∧ xs.toArray.any (ceq x) = b := fun {xs} r => by
      obtain ⟨h1, h2⟩ := anyEq_told hv h2 r
      refine ⟨fun z hz => ?_, by rw [List.any_toArray, h2]⟩
      obtain ⟨u', b', e, r'⟩ := h1 z (List.mem_toArray.mp hz)
      rw [ceq_of e r' hv]
      exact (veq_sound S 0 A.in1 u' v z x b' (by show A.units + 1 + 0 < cLine; omega) e r' hv).1
    unfold itemsOf at h1
    dsimp only at h1
    cases hH : H[j]? with
    | none => rw [hH] at h1; cases h1
    | some ob =>
      rw [hH] at h1
      cases ob with
      | list a =>
        cases h1
        obtain ⟨_, xs, n, g, r⟩ := S.obj _ _ _ hH hq'
        exact ⟨_, xs, rfl, .inl ⟨_, g, rfl, n, rfl⟩, go r⟩
      | tup a =>
        cases h1
        obtain ⟨_, xs, n, g, r⟩ := S.obj _ _ _ hH hq'
        exact ⟨_, xs, rfl, .inr ⟨_, g, rfl, n, rfl⟩, go r⟩
      | _ => cases h1
  | _ => cases h1

theorem cmp_sound {c : Cx} {prog : Program} {w : World} {A : Around} {E : Value → Shared → Prop} {s : Shared} {μ : Mu} {H : AH} (S : St c s.heap μ H) (hA : A.units + 10 < cLine) {o : Co} {op : CmpOp} {v u : V} {x y : Value} {b : Bool} {Q : Value → Shared → Prop}
    (ho : coOk o op = true) (h : opCmp o v u H = some b) (hv : RV c.B μ v x) (hu : RV c.B μ u y) (hq : Q (.bool b) s) : wpAny (model prog w) A (compareOp op x y) Q E s := by
  cases o <;> cases op <;> first | (cases ho; done) | skip
  · exact (veq_sound S 2 A v u x y b (by omega) h hv hu).2.1 prog w E Q hq
  · obtain ⟨r, h', rfl⟩ := Option.map_eq_some_iff.mp h
    exact (veq_sound S 2 A v u x y r (by omega) h' hv hu).2.2 prog w E Q hq
  · obtain ⟨m, n, rfl, rfl, h⟩ := int2_some h
    cases h; obtain ⟨t, rfl⟩ := hv; obtain ⟨t', rfl⟩ := hu
    exact lt_int hq
  · obtain ⟨m, n, rfl, rfl, h⟩ := int2_some h
    cases h; obtain ⟨t, rfl⟩ := hv; obtain ⟨t', rfl⟩ := hu
    exact gt_int hq
  · obtain ⟨m, n, rfl, rfl, h⟩ := int2_some h
    cases h; obtain ⟨t, rfl⟩ := hv; obtain ⟨t', rfl⟩ := hu
    exact ge_int hq
  · obtain ⟨l, xs, rfl, k, h1, rfl⟩ := in_told S hA h hv hu
    rcases k with k | k
    · exact in_listAt (ceq x) k h1 hq
    · exact in_tupleAt (ceq x) k h1 hq
  · obtain ⟨r, h', rfl⟩ := Option.map_eq_some_iff.mp h
    obtain ⟨l, xs, rfl, k, h1, rfl⟩ := in_told S hA h' hv hu
    rcases k with k | k
    · exact notIn_listAt (ceq x) k h1 hq
    · exact notIn_tupleAt (ceq x) k h1 hq
end Mine
end
section
open PySem PySem.W PySem.Calls PyProof.Rows PySem.SeqAt
namespace Mine

noncomputable abbrev no : Value → Shared → Prop := fun _ _ => False

structure ClsOk (c : Cx) (k : Nat) : Prop where
  ga : findIn c.K (.ref (c.cad k)) "__getattribute__" = some (some (.builtin "object.__getattribute__"))
  gt : findIn c.K (.ref (c.cad k)) "__getattr__" = some none
  sa : findIn c.K (.ref (c.cad k)) "__setattr__" = some (some (.builtin "object.__setattr__"))
  cd : ∃ cd, clsIn c.K (c.cad k) = some cd ∧ cd.hasDict = true
  over : plainOver c.K (c.cad k) = true
  fl : ∀ nm ∈ c.names, findIn c.K (.ref (c.cad k)) nm = some none
  mak : makesIn c.K (c.cad k) = true

structure Gd (c : Cx) (D : Nm) (fad : Nat → Addr) (T : Tab) : Prop where
  X : c.K.In c.B
  big : ∃ o, c.B.get? sysModules = some o
  mg : ∃ mg, c.B.Ns mainGlobals mg ∧ (∀ (i : Nat) (n : Str), D.gn[i]? = some n → mg n = some (.ref (fad i))) ∧ (∀ (i : Nat) (n : Str), D.cn[i]? = some n → mg n = some (.ref (c.cad i))) ∧
    mg "len" = none ∧ mg "list" = none ∧ mg "range" = none
  mb : ∃ mb, c.B.Ns builtinsNs mb ∧ mb "len" = some (.builtin "len") ∧ mb "list" = some (.type "list") ∧ mb "range" = some (.type "range")
  lim : c.B.NoLimit
  fns : ∀ (i : Nat) (n : Str), D.gn[i]? = some n → fnIn c.K (fad i) = true
  nd : c.names.Nodup
  nms : D.fld = c.names
  cls : ∀ k, k < c.nc → ClsOk c k
  cn : ∀ (i : Nat) (n : Str), D.cn[i]? = some n → i < c.nc
  meth : ∀ (k m g : Nat) (n : Str), k < c.nc → T.meth k m = some g → D.mn[m]? = some n → findIn c.K (.ref (c.cad k)) n = some (some (.ref (fad g))) ∧ isFn c.K (.ref (fad g)) = true ∧ fnIn c.K (fad g) = true ∧ n ∉ c.names
  init : ∀ (k g : Nat), T.init k = some g → findIn c.K (.ref (c.cad k)) "__init__" = some (some (.ref (fad g))) ∧ isFn c.K (.ref (fad g)) = true

/-- the room that is left -/
noncomputable def Room (d u : Nat) (A : Around) : Prop := A.handled = none ∧ A.depth + d < recursionLimit ∧ A.units + u < cLine
theorem Room.less {d u d' u' : Nat} {A : Around} (h : Room d u A) (hd : d' ≤ d) (hu : u' ≤ u) : Room d' u' A := ⟨h.1, by have := h.2.1; omega, by have := h.2.2; omega⟩

/-- what an evaluation leaves -/
noncomputable def Rt (c : Cx) (s : Shared) (μ : Mu) (P : V → AH → Prop) (val : Value) (s' : Shared) : Prop :=
  ∃ v H' μ' h' t', s' = { s with heap := h', toks := t' } ∧ P v H' ∧ RV c.B μ' v val ∧ St c h' μ' H' ∧ Ext [] μ s.heap μ' h'
noncomputable def RtB (c : Cx) (s : Shared) (μ : Mu) (P : Bool → AH → Prop) (b : Bool) (s' : Shared) : Prop :=
  ∃ H' μ' h' t', s' = { s with heap := h', toks := t' } ∧ P b H' ∧ St c h' μ' H' ∧ Ext [] μ s.heap μ' h'
noncomputable def RtT (c : Cx) (s : Shared) (μ : Mu) (P : V → AH → Prop) (b : Bool) (s' : Shared) : Prop :=
  ∃ v H' μ' h' t', s' = { s with heap := h', toks := t' } ∧ P v H' ∧ truth v H' = some b ∧ St c h' μ' H' ∧ Ext [] μ s.heap μ' h'
noncomputable def RtL (c : Cx) (s : Shared) (μ : Mu) (P : List V → AH → Prop) (xs : List Value) (s' : Shared) : Prop :=
  ∃ vs H' μ' h' t', s' = { s with heap := h', toks := t' } ∧ P vs H' ∧ RVs c.B μ' vs xs ∧ St c h' μ' H' ∧ Ext [] μ s.heap μ' h'

theorem wp_go {α : Type} {M : Model} {A : Around} {t : Sem α} {Q Q' : α → Shared → Prop} {s : Shared} (h : wpAny M A t Q no s) (k : ∀ a s', Q a s' → Q' a s') : wpAny M A t Q' no s := wpAny_mono h k fun _ _ x => x

theorem wp_rt {M : Model} {A : Around} {t : Sem Value} {c : Cx} {s s₀ : Shared} {μ : Mu} {P : V → AH → Prop} {Q : Value → Shared → Prop} {E : Value → Shared → Prop} (h : wpAny M A t (Rt c s μ P) no s₀)
    (k : ∀ val v H' μ' h' t', P v H' → RV c.B μ' v val → St c h' μ' H' → Ext [] μ s.heap μ' h' → Q val { s with heap := h', toks := t' }) : wpAny M A t Q E s₀ :=
  wpAny_mono h (fun val _ hr => by
    obtain ⟨v, H', μ', h', t', rfl, a, b, c, d⟩ := hr
    exact k val v H' μ' h' t' a b c d) fun _ _ x => x.elim
theorem wp_rb {M : Model} {A : Around} {t : Sem Bool} {c : Cx} {s s₀ : Shared} {μ : Mu} {P : Bool → AH → Prop} {Q : Bool → Shared → Prop} {E : Value → Shared → Prop} (h : wpAny M A t (RtB c s μ P) no s₀)
    (k : ∀ val H' μ' h' t', P val H' → St c h' μ' H' → Ext [] μ s.heap μ' h' → Q val { s with heap := h', toks := t' }) : wpAny M A t Q E s₀ :=
  wpAny_mono h (fun val _ hr => by
    obtain ⟨H', μ', h', t', rfl, a, c, d⟩ := hr
    exact k val H' μ' h' t' a c d) fun _ _ x => x.elim
theorem wp_rT {M : Model} {A : Around} {t : Sem Bool} {c : Cx} {s s₀ : Shared} {μ : Mu} {P : V → AH → Prop} {Q : Bool → Shared → Prop} {E : Value → Shared → Prop} (h : wpAny M A t (RtT c s μ P) no s₀)
    (k : ∀ val v H' μ' h' t', P v H' → truth v H' = some val → St c h' μ' H' → Ext [] μ s.heap μ' h' → Q val { s with heap := h', toks := t' }) : wpAny M A t Q E s₀ :=
  wpAny_mono h (fun val _ hr => by
    obtain ⟨v, H', μ', h', t', rfl, a, b, c, d⟩ := hr
    exact k val v H' μ' h' t' a b c d) fun _ _ x => x.elim
theorem wp_rl {M : Model} {A : Around} {t : Sem (List Value)} {c : Cx} {s s₀ : Shared} {μ : Mu} {P : List V → AH → Prop} {Q : List Value → Shared → Prop} {E : Value → Shared → Prop} (h : wpAny M A t (RtL c s μ P) no s₀)
    (k : ∀ val v H' μ' h' t', P v H' → RVs c.B μ' v val → St c h' μ' H' → Ext [] μ s.heap μ' h' → Q val { s with heap := h', toks := t' }) : wpAny M A t Q E s₀ :=
  wpAny_mono h (fun val _ hr => by
    obtain ⟨v, H', μ', h', t', rfl, a, b, c, d⟩ := hr
    exact k val v H' μ' h' t' a b c d) fun _ _ x => x.elim

inductive Pl where
  | ns (L : Addr) (n : Str) | cell (a : Addr)
  deriving DecidableEq
noncomputable def Pl.at : Pl → Addr
  | .ns L _ => L
  | .cell a => a
noncomputable def plOk (c : Cx) (h : Heap) (μ : Mu) (v : V) : Pl → Prop
  | .ns L n => ∃ m x, h.Ns L m ∧ m n = some x ∧ RV c.B μ v x
  | .cell a => ∃ x, h.IsCell a (some x) ∧ RV c.B μ v x
noncomputable def plThere (h : Heap) : Pl → Prop
  | .ns L _ => ∃ m, h.Ns L m
  | .cell a => ∃ v, h.IsCell a v

/-- the slots' places bear the slots -/
structure Fm (c : Cx) (h : Heap) (μ : Mu) (pls : List Pl) (l : Loc) : Prop where
  val : ∀ (i : Nat) (v : V), l[i]? = some (some v) → ∃ pl, pls[i]? = some pl ∧ plOk c h μ v pl
  there : ∀ pl ∈ pls, plThere h pl
  apart : ∀ pl ∈ pls, pl.at ∉ foot μ ∧ c.B.get? pl.at = none

theorem plOk.keep {c : Cx} {h h' : Heap} {μ μ' : Mu} {v : V} {pl : Pl} (p : plOk c h μ v pl) (he : ∃ e, μ' = μ ++ e) (hk : ∀ o, h.get? pl.at = some o → h'.get? pl.at = some o) : plOk c h' μ' v pl := by
  cases pl with
  | ns L n =>
    obtain ⟨m, x, ⟨o, a, b, ho, r⟩, e, q⟩ := p
    exact ⟨m, x, ⟨o, a, b, hk o ho, r⟩, e, q.mono he⟩
  | cell a =>
    obtain ⟨x, ⟨o, ho, r⟩, q⟩ := p
    exact ⟨x, ⟨o, hk o ho, r⟩, q.mono he⟩
theorem plThere.keep {h h' : Heap} {pl : Pl} (p : plThere h pl) (hk : ∀ o, h.get? pl.at = some o → h'.get? pl.at = some o) : plThere h' pl := by
  cases pl with
  | ns L n => obtain ⟨m, ⟨o, a, b, ho, r⟩⟩ := p; exact ⟨m, ⟨o, a, b, hk o ho, r⟩⟩
  | cell a => obtain ⟨x, ⟨o, ho, r⟩⟩ := p; exact ⟨x, ⟨o, hk o ho, r⟩⟩
theorem plThere.obj {h : Heap} {pl : Pl} (p : plThere h pl) : ∃ o, h.get? pl.at = some o := by
  cases pl with
  | ns L n => obtain ⟨m, o, a, b, ho, r⟩ := p; exact ⟨o, ho⟩
  | cell a => obtain ⟨v, o, ho, r⟩ := p; exact ⟨o, ho⟩
theorem Fm.ext {c : Cx} {h h' : Heap} {μ μ' : Mu} {pls : List Pl} {l : Loc} (F : Fm c h μ pls l) (X : Ext [] μ h μ' h') : Fm c h' μ' pls l := by
  have k : ∀ pl ∈ pls, ∀ o, h.get? pl.at = some o → h'.get? pl.at = some o := fun pl hp o e => X.keep _ _ e (F.apart pl hp).1 (by simp)
  refine ⟨fun i v e => ?_, fun pl hp => (F.there pl hp).keep (k pl hp), fun pl hp => ⟨?_, (F.apart pl hp).2⟩⟩
  · obtain ⟨pl, hp, q⟩ := F.val i v e
    exact ⟨pl, hp, q.keep X.ex (k pl (List.mem_of_getElem? hp))⟩
  · obtain ⟨o, ho⟩ := (F.there pl hp).obj
    exact (X.off ho (F.apart pl hp).1 (by simp)).1

/-- a block's environment: the names that it sees, and where the slots lie -/
structure En (env : Env) (names : Names) (sl : List Str) (pls : List Pl) : Prop where
  fn : env.scope.kind = .function
  nms : env.scope.names = names
  gl : env.globals = mainGlobals
  bl : env.builtins = builtinsNs
  loc : ∀ (i : Nat) (n : Str), sl[i]? = some n → names.lookup n = some .local → pls[i]? = some (.ns env.locals n)
  cel : ∀ (i : Nat) (n : Str), sl[i]? = some n → names.lookup n = some .cell ∨ names.lookup n = some .free → ∃ a, pls[i]? = some (.cell a) ∧ env.cells.lookup n = some a
  nd : sl.Nodup
  len : pls.length = sl.length
  one : ∀ (i j : Nat) (p q : Pl), pls[i]? = some p → pls[j]? = some q → p = q → i = j

/-- the calls are what `cl` says -/
noncomputable def ClOk (c : Cx) (fad : Nat → Addr) (cl : Cl) (d u : Nat) : Prop :=
  ∀ g args H P, cl g args H P → ∀ A, Room d u A → ∀ s μ xs, St c s.heap μ H → RVs c.B μ args xs →
    codeAny (model c.prog c.w) A (.call (.ref (fad g)) ⟨xs, []⟩) (fun r s' => match r with | .ok (.ret val) => Rt c s μ P val s' | _ => False) s

section
variable (c : Cx) (D : Nm) (fad : Nat → Addr) (T : Tab) (cl : Cl) (d u : Nat)
noncomputable def SdE (x : X) : Prop := ∀ A env names sl pls, En env names sl pls → Room (d + 4) (u + 30) A → ∀ e, trE D names sl x e = true → ∀ s μ H l P, St c s.heap μ H → Fm c s.heap μ pls l →
  vcE T cl x l H P → wpAny (model c.prog c.w) A (eval e env) (Rt c s μ P) no s
noncomputable def SdT (x : X) : Prop := ∀ A env names sl pls, En env names sl pls → Room (d + 4) (u + 30) A → ∀ e, trE D names sl x e = true → ∀ s μ H l P, (∀ v H, P v H → ∃ b, truth v H = some b) → St c s.heap μ H → Fm c s.heap μ pls l →
  vcE T cl x l H P → wpAny (model c.prog c.w) A (isTrue e env (eval e env)) (RtT c s μ P) no s
noncomputable def SdX (x : X) : Prop := SdE c D T cl d u x ∧ SdT c D T cl d u x
end

variable {c : Cx} {D : Nm} {fad : Nat → Addr} {T : Tab} {cl : Cl} {d u : Nat}

/-- a truth -/
theorem truth_sound {prog : Program} {w : World} {A : Around} {E : Value → Shared → Prop} {s : Shared} {μ : Mu} {H : AH} (S : St c s.heap μ H) {v : V} {x : Value} {b : Bool} {Q : Bool → Shared → Prop}
    (h : truth v H = some b) (hv : RV c.B μ v x) (hq : ∀ t, Q b { s with toks := t }) : wpAny (model prog w) A (truthy x) Q E s := by
  cases v <;> simp only [truth] at h <;> first | (cases h; done) | skip
  · cases h; cases hv
    exact truthy_none (hq s.toks)
  · cases h; cases hv
    exact wpAny_truthy_bool (hq s.toks)
  · cases h; obtain ⟨t, rfl⟩ := hv
    exact truthy_int (hq s.toks)
  · rename_i i
    obtain ⟨p, hp, rfl⟩ := hv
    cases hH : H[i]? with
    | none => simp [hH] at h
    | some ob =>
      cases ob <;> simp only [hH] at h <;> first | (cases h; done) | skip
      split at h
      · rename_i vs hl
        cases h
        obtain ⟨_, xs, n, g, r⟩ := S.obj _ _ _ hH hp
        refine wpAny_truthy_list ⟨_, g, rfl, n, rfl⟩ (by simp only [List.size_toArray, r.length]; unfold lid at hl; omega) ?_
        have : xs.toArray.isEmpty = vs.isEmpty := by
          have := r.length
          cases xs <;> cases vs <;> simp at this ⊢
        rw [this]
        exact hq _
      · cases h

/-- any word's test, by its value -/
theorem sdT_of {x : X} (h : SdE c D T cl d u x) (he : ∀ names sl e, trE D names sl x e = true → ∀ env whole, isTrue e env whole = (do let v ← whole; standAt e.pos; holding [v] (truthy v))) : SdX c D T cl d u x := by
  refine ⟨h, fun A env names sl pls En R e ht s μ H l P hT S F hv => ?_⟩
  refine wpAny_isTrue_value ?_ (he names sl e ht env _)
  refine wp_rt (h A env names sl pls En R e ht s μ H l _ S F hv) fun val v H' μ' h' t' hP rv S' X => ?_
  obtain ⟨b, hb⟩ := hT _ _ hP
  exact truth_sound S' hb rv fun t => ⟨v, H', μ', h', t, rfl, hP, hb, S', X⟩

theorem SdX.test {x : X} (h : SdX c D T cl d u x) {A : Around} {env : Env} {names : Names} {sl : List Str} {pls : List Pl} (En : En env names sl pls) (R : Room (d + 4) (u + 30) A) {e : Expr} (ht : trE D names sl x e = true) {s : Shared} {μ : Mu} {H : AH} {l : Loc} {P : Bool → AH → Prop}
    (S : St c s.heap μ H) (F : Fm c s.heap μ pls l) (hv : tst (vcE T cl x l H) P) : wpAny (model c.prog c.w) A (isTrue e env (eval e env)) (RtB c s μ P) no s := by
  refine wp_rT (h.2 A env names sl pls En R e ht s μ H l _ (fun v H hP => hP.imp fun _ y => y.1) S F hv) fun b v H' μ' h' t' hx6 hb S' X => ?_
  obtain ⟨b', hb', hP⟩ := hx6
  rw [hb] at hb'; cases hb'
  exact ⟨H', μ', h', t', rfl, hP, S', X⟩

end Mine
end
section
open PySem PySem.W PySem.Calls PyProof.Rows PySem.SeqAt
namespace Mine
variable {c : Cx} {D : Nm} {fad : Nat → Addr} {T : Tab} {cl : Cl} {d u : Nat}

theorem En.kind {env : Env} {names : Names} {sl : List Str} {pls : List Pl} (En : En env names sl pls) (n : Str) : env.kindOf n = names.lookup n := by unfold Env.kindOf; rw [En.nms]

theorem isTrue_plain_Name (id : Str) (p : Pos) (env : Env) (whole : Sem Value) : isTrue (.Name id p) env whole = (do let v ← whole; standAt (Expr.Name id p).pos; holding [v] (truthy v)) := rfl

theorem sd_loc (i : Nat) : SdX c D T cl d u (.loc i) := by
  refine sdT_of ?_ ?_
  · intro A env names sl pls En R e ht s μ H l P S F hv
    refine vName_el ht fun id pos ht => ?_
    simp only [Bool.and_eq_true, beq_iff_eq] at ht
    obtain ⟨⟨hs, hp⟩, hk⟩ := ht
    obtain ⟨v, hl, hP⟩ := hv
    obtain ⟨pl, hpl, q⟩ := F.val i v hl
    simp only [plainN, Bool.and_eq_true, Bool.not_eq_true'] at hp
    have fin : ∀ x, RV c.B μ v x → Rt c s μ P x s := fun x r => ⟨v, H, μ, s.heap, s.toks, rfl, hP, r, S, .refl⟩
    have hd : (id == ("__debug__" : Str)) = false := hp.1
    have hc : (id == ("__classdict__" : Str)) = false := hp.2
    unfold slotK at hk
    split at hk
    · rename_i hn
      have := En.loc i id hs hn
      rw [hpl] at this; cases this
      obtain ⟨m, x, hN, hm, r⟩ := q
      exact wpAny_Name (wpAny_loadName_local En.fn ((En.kind id).trans hn) hN hm (fin x r)) hd
    · rename_i hn
      obtain ⟨a, ha, hcl⟩ := En.cel i id hs (.inl hn)
      rw [hpl] at ha; cases ha
      obtain ⟨x, hC, r⟩ := q
      exact wpAny_Name (wpAny_loadName_cell En.fn ((En.kind id).trans hn) hcl hC (fin x r)) hd
    · rename_i hn
      obtain ⟨a, ha, hcl⟩ := En.cel i id hs (.inr hn)
      rw [hpl] at ha; cases ha
      obtain ⟨x, hC, r⟩ := q
      exact wpAny_Name (wpAny_loadName_free En.fn ((En.kind id).trans hn) hcl hC (fin x r) hc) hd
    · cases hk
  · intro names sl e ht env whole
    refine vName_el ht fun _ _ ht => ?_
    rfl

theorem sd_cint (i : Int) : SdX c D T cl d u (.cint i) := by
  refine sdT_of ?_ ?_
  · intro A env names sl pls En R e ht s μ H l P S F hv
    refine vInt_el ht fun _ _ _ ht => ?_


    obtain rfl := eq_of_beq ht
    exact wpAny_Constant_int ⟨_, H, μ, s.heap, _, rfl, hv, ⟨_, rfl⟩, S, .refl⟩
  · intro names sl e ht env whole
    refine vInt_el ht fun _ _ _ ht => ?_
    rfl
theorem sd_cstr (i : Str) : SdX c D T cl d u (.cstr i) := by
  refine sdT_of ?_ ?_
  · intro A env names sl pls En R e ht s μ H l P S F hv
    refine vStr_el ht fun _ _ _ ht => ?_


    obtain rfl := eq_of_beq ht
    exact wpAny_Constant_str ⟨_, H, μ, s.heap, _, rfl, hv, ⟨_, rfl⟩, S, .refl⟩
  · intro names sl e ht env whole
    refine vStr_el ht fun _ _ _ ht => ?_
    rfl
theorem sd_cbool (i : Bool) : SdX c D T cl d u (.cbool i) := by
  refine sdT_of ?_ ?_
  · intro A env names sl pls En R e ht s μ H l P S F hv
    refine vBl_el ht fun _ _ _ ht => ?_


    obtain rfl := eq_of_beq ht
    exact wpAny_Constant_bool ⟨_, H, μ, s.heap, _, rfl, hv, rfl, S, .refl⟩
  · intro names sl e ht env whole
    refine vBl_el ht fun _ _ _ ht => ?_
    rfl
theorem sd_etup : SdX c D T cl d u .etup := ⟨fun _ _ _ _ _ _ _ _ _ _ _ _ _ _ _ _ hv => hv.elim, fun _ _ _ _ _ _ _ _ _ _ _ _ _ _ _ _ _ hv => hv.elim⟩
theorem sd_stuck : SdX c D T cl d u .stuck := ⟨fun _ _ _ _ _ _ _ _ _ _ _ _ _ _ _ _ hv => hv.elim, fun _ _ _ _ _ _ _ _ _ _ _ _ _ _ _ _ _ hv => hv.elim⟩

theorem sd_neg {a : X} (ha : SdX c D T cl d u a) : SdX c D T cl d u (.neg a) := by
  refine sdT_of ?_ ?_
  · intro A env names sl pls En R e ht s μ H l P S F hv
    refine vUnO_el ht fun e pos ht => ?_

    refine wpAny_UnaryOp (wp_rt (ha.1 A env names sl pls En R e ht s μ H l _ S F hv) fun val v H' μ' h' t' hx6 hx7 S' X => ?_)
    obtain ⟨i, rfl, hP⟩ := hx6
    obtain ⟨t, rfl⟩ := hx7
    exact neg_int ⟨_, H', μ', h', _, rfl, hP, ⟨_, rfl⟩, S', X⟩
  · intro names sl e ht env whole
    refine vUnO_el ht fun e pos ht => ?_

    rfl

theorem sd_not {a : X} (ha : SdX c D T cl d u a) : SdX c D T cl d u (.not a) := by
  refine ⟨?_, ?_⟩
  · intro A env names sl pls En R e ht s μ H l P S F hv
    refine vUnO_el ht fun e pos ht => ?_

    refine wpAny_UnaryOp (wp_rt (ha.1 A env names sl pls En R e ht s μ H l _ S F hv) fun val v H' μ' h' t' hx6 rv S' X => ?_)
    obtain ⟨b, hb, hP⟩ := hx6
    exact not_of (truth_sound S' hb rv fun t => ⟨_, H', μ', h', t, rfl, hP, rfl, S', X⟩)
  · intro A env names sl pls En R e ht s μ H l P hT S F hv
    refine vUnO_el ht fun e pos ht => ?_

    refine wpAny_isTrue_Not (wp_rb (ha.test En R ht S F hv) fun b H' μ' h' t' hP S' X => ?_)
    exact ⟨.bool (!b), H', μ', h', t', rfl, hP, rfl, S', X⟩

theorem lid_le : lid ≤ sizeLine := by rw [sizeLine_eq]; decide
theorem lid_small : (lid : Int) < 2 ^ 63 := by decide

/-- a new list stands -/
theorem St.newList {s : Shared} {μ : Mu} {H : AH} (S : St c s.heap μ H) {vs : List V} {xs : List Value} (r : RVs c.B μ vs xs) :
    St c (s.heap.push { cls := .type "list", data := .seq xs.toArray }) (μ ++ [(s.heap.objs.size, none)]) (H ++ [.list vs]) ∧ Ext [] μ s.heap (μ ++ [(s.heap.objs.size, none)]) (s.heap.push { cls := .type "list", data := .seq xs.toArray }) :=
  S.push (fun _ _ e => Heap.get?_push_of_some _ e) (fun a ha => by
    have ha : a = s.heap.objs.size := by simpa [feet] using ha
    exact Nat.le_of_eq ha.symm) (by simp [feet]) ⟨rfl, xs, 0, Heap.get?_push_size _ rfl, r.mono ⟨_, rfl⟩⟩
theorem St.newTup {s : Shared} {μ : Mu} {H : AH} (S : St c s.heap μ H) {vs : List V} {xs : List Value} (r : RVs c.B μ vs xs) :
    St c (s.heap.push { cls := .type "tuple", data := .seq xs.toArray }) (μ ++ [(s.heap.objs.size, none)]) (H ++ [.tup vs]) ∧ Ext [] μ s.heap (μ ++ [(s.heap.objs.size, none)]) (s.heap.push { cls := .type "tuple", data := .seq xs.toArray }) :=
  S.push (fun _ _ e => Heap.get?_push_of_some _ e) (fun a ha => by
    have ha : a = s.heap.objs.size := by simpa [feet] using ha
    exact Nat.le_of_eq ha.symm) (by simp [feet]) ⟨rfl, xs, 0, Heap.get?_push_size _ rfl, r.mono ⟨_, rfl⟩⟩
theorem RV.last {B : Heap} {μ : Mu} {H : AH} {a : Addr} {o : Option Addr} (hl : μ.length = H.length) : RV B (μ ++ [(a, o)]) (.ref H.length) (.ref a) :=
  ⟨(a, o), by rw [← hl]; simp, rfl⟩

/-- an operator of two plain operands -/
theorem bin_sound {A : Around} {s : Shared} {μ : Mu} {H : AH} (S : St c s.heap μ H) {o : Bo} {op : Operator} {v w : V} {x y : Value} {r : V × AH} {P : V → AH → Prop}
    (ho : boOk o op = true) (h : opBin o v w H = some r) (hv : RV c.B μ v x) (hw : RV c.B μ w y) (hP : P r.1 r.2) : wpAny (model c.prog c.w) A (binaryOp op x y) (Rt c s μ P) no s := by
  cases o <;> cases op <;> first | (cases ho; done) | skip
  · unfold opBin addV at h
    have lists : (getL v H).bind (fun a => (getL w H).bind fun b => if a.length + b.length ≤ lid then some (V.ref H.length, H ++ [.list (a ++ b)]) else none) = some r → wpAny (model c.prog c.w) A (binaryOp .Add x y) (Rt c s μ P) no s := by
      intro h
      obtain ⟨a, h1, h⟩ := Option.bind_eq_some_iff.mp h
      obtain ⟨b, h2, h⟩ := Option.bind_eq_some_iff.mp h
      obtain ⟨hl, h⟩ := of_ite h
      cases h
      obtain ⟨i, rfl, e⟩ := getL_some h1
      obtain ⟨j, rfl, e'⟩ := getL_some h2
      obtain ⟨p, hp, rfl⟩ := hv
      obtain ⟨q, hq, rfl⟩ := hw
      obtain ⟨_, xs, n, g, r⟩ := S.obj _ _ _ e hp
      obtain ⟨_, ys, m, g', r'⟩ := S.obj _ _ _ e' hq
      refine _root_.PySem.P.add_list (l := p.1) (b := q.1) (items := xs.toArray) (items2 := ys.toArray) g g' ?_ (by simp only [List.size_toArray, r.length, r'.length]; exact Nat.le_trans hl lid_le)
      rw [List.append_toArray]
      obtain ⟨S', X⟩ := S.newList (r.append r')
      exact ⟨_, _, _, _, s.toks, rfl, hP, RV.last S.len, S', X⟩
    cases v with
    | int a =>
      obtain ⟨b, h1, h2⟩ := Option.map_eq_some_iff.mp h
      cases h2; cases asI_some h1; obtain ⟨t, rfl⟩ := hv; obtain ⟨t', rfl⟩ := hw
      exact add_int ⟨_, H, μ, s.heap, _, rfl, hP, ⟨_, rfl⟩, S, .refl⟩
    | str a =>
      obtain ⟨b, h1, h2⟩ := Option.bind_eq_some_iff.mp h
      obtain ⟨hl, h3⟩ := of_ite h2
      cases h3; cases asS_some h1; obtain ⟨t, rfl⟩ := hv; obtain ⟨t', rfl⟩ := hw
      exact add_str (fun t' tk => ⟨_, H, μ, s.heap, tk, rfl, hP, ⟨_, rfl⟩, S, .refl⟩) (Nat.le_trans hl lid_le)
    | _ => exact lists h
  · obtain ⟨a, b, rfl, rfl, h⟩ := int2_some h
    cases h; obtain ⟨t, rfl⟩ := hv; obtain ⟨t', rfl⟩ := hw
    exact sub_int ⟨_, H, μ, s.heap, _, rfl, hP, ⟨_, rfl⟩, S, .refl⟩
  · obtain ⟨a, b, rfl, rfl, h1⟩ := int2_some h
    obtain ⟨hb, h2⟩ := of_ite h1
    cases h2; obtain ⟨t, rfl⟩ := hv; obtain ⟨t', rfl⟩ := hw
    exact floordiv_int (by omega) ⟨_, H, μ, s.heap, _, rfl, hP, ⟨_, rfl⟩, S, .refl⟩ (.inl (PyProof.noPylong_small (by have := hb.2; unfold lid at this; omega)))
  · obtain ⟨a, b, rfl, rfl, h1⟩ := int2_some h
    by_cases hb : b = 0
    · rw [if_pos hb] at h1; cases h1
    · rw [if_neg hb] at h1
      cases h1; obtain ⟨t, rfl⟩ := hv; obtain ⟨t', rfl⟩ := hw
      exact mod_int hb ⟨_, H, μ, s.heap, _, rfl, hP, ⟨_, rfl⟩, S, .refl⟩
end Mine
end
section
open PySem PySem.W PySem.Calls PyProof.Rows PySem.SeqAt
namespace Mine
variable {c : Cx} {D : Nm} {fad : Nat → Addr} {T : Tab} {cl : Cl} {d u : Nat}

theorem Rt.more {s : Shared} {μ μ' : Mu} {h' : Heap} {t' : Nat} {P : V → AH → Prop} {val : Value} {s' : Shared} (X : Ext [] μ s.heap μ' h') (r : Rt c { s with heap := h', toks := t' } μ' P val s') : Rt c s μ P val s' := by
  obtain ⟨v, H', μ'', h'', t'', rfl, hP, rv, S', X'⟩ := r
  exact ⟨v, H', μ'', h'', t'', rfl, hP, rv, S', X.trans X'⟩
theorem RtT.more {s : Shared} {μ μ' : Mu} {h' : Heap} {t' : Nat} {P : V → AH → Prop} {val : Bool} {s' : Shared} (X : Ext [] μ s.heap μ' h') (r : RtT c { s with heap := h', toks := t' } μ' P val s') : RtT c s μ P val s' := by
  obtain ⟨v, H', μ'', h'', t'', rfl, hP, hb, S', X'⟩ := r
  exact ⟨v, H', μ'', h'', t'', rfl, hP, hb, S', X.trans X'⟩
theorem RtB.more {s : Shared} {μ μ' : Mu} {h' : Heap} {t' : Nat} {P : Bool → AH → Prop} {val : Bool} {s' : Shared} (X : Ext [] μ s.heap μ' h') (r : RtB c { s with heap := h', toks := t' } μ' P val s') : RtB c s μ P val s' := by
  obtain ⟨H', μ'', h'', t'', rfl, hP, S', X'⟩ := r
  exact ⟨H', μ'', h'', t'', rfl, hP, S', X.trans X'⟩
theorem RtL.more {s : Shared} {μ μ' : Mu} {h' : Heap} {t' : Nat} {P : List V → AH → Prop} {val : List Value} {s' : Shared} (X : Ext [] μ s.heap μ' h') (r : RtL c { s with heap := h', toks := t' } μ' P val s') : RtL c s μ P val s' := by
  obtain ⟨v, H', μ'', h'', t'', rfl, hP, rv, S', X'⟩ := r
  exact ⟨v, H', μ'', h'', t'', rfl, hP, rv, S', X.trans X'⟩
theorem units_of {A : Around} (R : Room (d + 4) (u + 30) A) : A.units + 10 < cLine := by have := R.2.2; omega

theorem sd_bin {o : Bo} {a b : X} (ha : SdX c D T cl d u a) (hb : SdX c D T cl d u b) : SdX c D T cl d u (.bin o a b) := by
  refine sdT_of ?_ ?_
  · intro A env names sl pls En R e ht s μ H l P S F hv
    refine vBin_el ht fun x op y pos ht => ?_
    simp only [Bool.and_eq_true] at ht
    refine wpAny_BinOp (wp_rt (ha.1 A env names sl pls En R x ht.1.2 s μ H l _ S F hv) fun va v H' μ' h' t' hP rv S' X => ?_)
    refine wp_rt (hb.1 A env names sl pls En R y ht.2 _ μ' H' l _ S' (F.ext X) hP) fun vb w H'' μ'' h'' t'' hx6 rw' S'' X' => ?_
    obtain ⟨r, e, hP⟩ := hx6
    exact wp_go (bin_sound S'' ht.1.1 e (rv.mono X'.ex) rw' hP) fun val s' r => Rt.more X (Rt.more X' r)
  · intro names sl e ht env whole
    refine vBin_el ht fun _ _ _ _ ht => ?_
    rfl

theorem sd_cmp {o : Co} {a b : X} (ha : SdX c D T cl d u a) (hb : SdX c D T cl d u b) : SdX c D T cl d u (.cmp o a b) := by
  refine ⟨?_, ?_⟩
  · intro A env names sl pls En R e ht s μ H l P S F hv
    refine vCmp1_el ht fun x op y pos ht => ?_
    simp only [Bool.and_eq_true, Bool.not_eq_true'] at ht
    refine wpAny_Compare1 (wp_rt (ha.1 A env names sl pls En R x ht.1.2 s μ H l _ S F hv) fun va v H' μ' h' t' hP rv S' X => ?_) ht.1.1.2
    refine wp_rt (hb.1 A env names sl pls En R y ht.2 _ μ' H' l _ S' (F.ext X) hP) fun vb w H'' μ'' h'' t'' hx6 rw' S'' X' => ?_
    obtain ⟨r, e, hP⟩ := hx6
    exact cmp_sound S'' (units_of R) ht.1.1.1 e (rv.mono X'.ex) rw' ⟨_, H'', μ'', h'', t'', rfl, hP, rfl, S'', X.trans X'⟩
  · intro A env names sl pls En R e ht s μ H l P hT S F hv
    refine vCmp1_el ht fun x op y pos ht => ?_
    simp only [Bool.and_eq_true, Bool.not_eq_true'] at ht
    refine wpAny_isTrue_Compare1 (wp_rt (ha.1 A env names sl pls En R x ht.1.2 s μ H l _ S F hv) fun va v H' μ' h' t' hP rv S' X => ?_) ht.1.1.2
    refine wp_rt (hb.1 A env names sl pls En R y ht.2 _ μ' H' l _ S' (F.ext X) hP) fun vb w H'' μ'' h'' t'' hx6 rw' S'' X' => ?_
    obtain ⟨r, e, hP⟩ := hx6
    exact cmp_sound S'' (units_of R) ht.1.1.1 e (rv.mono X'.ex) rw' (wpAny_truthy_bool ⟨.bool r, H'', μ'', h'', t'', rfl, hP, rfl, S'', X.trans X'⟩)

theorem eval_Compare2 (l : Expr) (op op' : CmpOp) (r r' : Expr) (pos : Pos) (env : Env) (h : behindInMarks op' r' = false) : eval (.Compare l [op, op'] [r, r'] pos) env = (do
    let a ← eval l env
    let b ← holding [a] (eval r env)
    standAt pos
    let c ← holding [a, b] (compareOp op a b)
    release [a, b] [c]
    if ← holding [c, b] (truthy c) then (do
      let z ← holding [b] (eval r' env)
      standAt pos
      operate [b, z] (compareOp op' b z)) else pure c) := by
  show (do compareChain pos (← eval l env) [op, op'] [eval r env, markedBehindIn op' r' (eval r' env)]) = _
  rw [markedBehindIn_of_false h]
  rfl
theorem isTrue_Compare2 (l : Expr) (op op' : CmpOp) (r r' : Expr) (pos : Pos) (env : Env) (whole : Sem Value) (h : behindInMarks op' r' = false) : isTrue (.Compare l [op, op'] [r, r'] pos) env whole = (do
    let a ← eval l env
    let b ← holding [a] (eval r env)
    standAt pos
    let c ← holding [a, b] (compareOp op a b)
    release [a, b] [c]
    if ← holding [c, b] (truthy c) then (do
      let z ← holding [b] (eval r' env)
      standAt pos
      let c ← operate [b, z] (compareOp op' b z)
      holding [c] (truthy c)) else pure false) := by
  show (do testChain pos (← eval l env) [op, op'] [eval r env, markedBehindIn op' r' (eval r' env)]) = _
  rw [markedBehindIn_of_false h]
  rfl
theorem sd_cmp2 {o p : Co} {a b z : X} (ha : SdX c D T cl d u a) (hb : SdX c D T cl d u b) (hz : SdX c D T cl d u z) : SdX c D T cl d u (.cmp2 a o b p z) := by
  refine ⟨?_, ?_⟩
  · intro A env names sl pls En R e ht s μ H l P S F hv
    refine vCmp2_el ht fun x op op' y y' pos ht => ?_
    simp only [Bool.and_eq_true, Bool.not_eq_true'] at ht
    obtain ⟨⟨⟨⟨⟨o1, o2⟩, o3⟩, t1⟩, t2⟩, t3⟩ := ht
    rw [eval_Compare2 _ _ _ _ _ _ _ o3]
    refine wpAny_bind (wp_rt (ha.1 A env names sl pls En R x t1 s μ H l _ S F hv) fun va v H' μ' h' t' hP rv S' X => ?_)
    refine wpAny_bind (wpAny_holding (wp_rt (hb.1 A env names sl pls En R y t2 _ μ' H' l _ S' (F.ext X) hP) fun vb w H'' μ'' h'' t'' hx6 rw' S'' X' => ?_))
    obtain ⟨r, e, hP⟩ := hx6
    refine wpAny_bind (wpAny_standAt (wpAny_bind (wpAny_holding ?_)))
    refine cmp_sound S'' (units_of R) o1 e (rv.mono X'.ex) rw' ?_
    refine wpAny_bind (wpAny_release (wpAny_bind (wpAny_holding (wpAny_truthy_bool ?_))))
    cases r with
    | false => exact wpAny_pure ⟨_, H'', μ'', h'', t'', rfl, hP, rfl, S'', X.trans X'⟩
    | true =>
      refine wpAny_bind (wpAny_holding (wp_rt (hz.1 A env names sl pls En R y' t3 _ μ'' H'' l _ S'' (F.ext (X.trans X')) hP) fun vc q H3 μ3 h3 t3' hx6 rq S3 X3 => ?_))
      obtain ⟨r, e, hP⟩ := hx6
      exact wpAny_bind (wpAny_standAt (wpAny_operating (cmp_sound S3 (units_of R) o2 e (rw'.mono X3.ex) rq ⟨_, H3, μ3, h3, t3', rfl, hP, rfl, S3, (X.trans X').trans X3⟩)))
  · intro A env names sl pls En R e ht s μ H l P hT S F hv
    refine vCmp2_el ht fun x op op' y y' pos ht => ?_
    simp only [Bool.and_eq_true, Bool.not_eq_true'] at ht
    obtain ⟨⟨⟨⟨⟨o1, o2⟩, o3⟩, t1⟩, t2⟩, t3⟩ := ht
    rw [isTrue_Compare2 _ _ _ _ _ _ _ _ o3]
    refine wpAny_bind (wp_rt (ha.1 A env names sl pls En R x t1 s μ H l _ S F hv) fun va v H' μ' h' t' hP rv S' X => ?_)
    refine wpAny_bind (wpAny_holding (wp_rt (hb.1 A env names sl pls En R y t2 _ μ' H' l _ S' (F.ext X) hP) fun vb w H'' μ'' h'' t'' hx6 rw' S'' X' => ?_))
    obtain ⟨r, e, hP⟩ := hx6
    refine wpAny_bind (wpAny_standAt (wpAny_bind (wpAny_holding ?_)))
    refine cmp_sound S'' (units_of R) o1 e (rv.mono X'.ex) rw' ?_
    refine wpAny_bind (wpAny_release (wpAny_bind (wpAny_holding (wpAny_truthy_bool ?_))))
    cases r with
    | false => exact wpAny_pure ⟨_, H'', μ'', h'', t'', rfl, hP, rfl, S'', X.trans X'⟩
    | true =>
      refine wpAny_bind (wpAny_holding (wp_rt (hz.1 A env names sl pls En R y' t3 _ μ'' H'' l _ S'' (F.ext (X.trans X')) hP) fun vc q H3 μ3 h3 t3' hx6 rq S3 X3 => ?_))
      obtain ⟨r, e, hP⟩ := hx6
      exact wpAny_bind (wpAny_standAt (wpAny_bind (wpAny_operating (cmp_sound S3 (units_of R) o2 e (rw'.mono X3.ex) rq (wpAny_holding (wpAny_truthy_bool ⟨.bool r, H3, μ3, h3, t3', rfl, hP, rfl, S3, (X.trans X').trans X3⟩))))))

theorem sd_ite {a b z : X} (ha : SdX c D T cl d u a) (hb : SdX c D T cl d u b) (hz : SdX c D T cl d u z) : SdX c D T cl d u (.ite a b z) := by
  refine ⟨?_, ?_⟩
  · intro A env names sl pls En R e ht s μ H l P S F hv
    refine vIte_el ht fun t x y pos ht => ?_
    simp only [Bool.and_eq_true] at ht
    obtain ⟨⟨t1, t2⟩, t3⟩ := ht
    refine wpAny_IfExp (wp_rb (ha.test En R t1 S F hv) fun b H' μ' h' t' hP S' X => ?_)
    cases b with
    | true => exact wp_go (hb.1 A env names sl pls En R x t2 _ μ' H' l _ S' (F.ext X) hP) fun val s' r => Rt.more X r
    | false => exact wp_go (hz.1 A env names sl pls En R y t3 _ μ' H' l _ S' (F.ext X) hP) fun val s' r => Rt.more X r
  · intro A env names sl pls En R e ht s μ H l P hT S F hv
    refine vIte_el ht fun t x y pos ht => ?_
    simp only [Bool.and_eq_true] at ht
    obtain ⟨⟨t1, t2⟩, t3⟩ := ht
    refine isTrue_IfExp (wp_rb (ha.test En R t1 S F hv) fun b H' μ' h' t' hP S' X => ?_)
    cases b with
    | true => exact wp_go (hb.2 A env names sl pls En R x t2 _ μ' H' l _ hT S' (F.ext X) hP) fun val s' r => RtT.more X r
    | false => exact wp_go (hz.2 A env names sl pls En R y t3 _ μ' H' l _ hT S' (F.ext X) hP) fun val s' r => RtT.more X r

/-! ## lists of words -/

section
variable (c : Cx) (D : Nm) (T : Tab) (cl : Cl) (d u : Nat)
noncomputable def SdXs : Xs → Prop
  | .nil => True
  | .cons x xs => SdX c D T cl d u x ∧ SdXs xs
end

theorem starEach_cons {e : Expr} (h : notStar e = true) (rest : List Expr) (env : Env) : starEach (e :: rest) env = (false, eval e env) :: starEach rest env := by
  cases e <;> first | rfl | cases h

theorem spliced_sound : ∀ {xs : Xs}, SdXs c D T cl d u xs → ∀ A env names sl pls, En env names sl pls → Room (d + 4) (u + 30) A → ∀ es, trEs D names sl xs es = true → ∀ pos s μ H l P, St c s.heap μ H → Fm c s.heap μ pls l →
    vcEs T cl xs l H P → wpAny (model c.prog c.w) A (spliced (backTo pos (starEach es env))) (RtL c s μ P) no s
  | .nil, _, A, env, names, sl, pls, En, R, es, ht, pos, s, μ, H, l, P, S, F, hv => by
    cases es with
    | nil => exact spliced_nil ⟨[], H, μ, s.heap, s.toks, rfl, hv, trivial, S, .refl⟩
    | cons _ _ => simp [trEs] at ht
  | .cons x xs, hx, A, env, names, sl, pls, En, R, es, ht, pos, s, μ, H, l, P, S, F, hv => by
    cases es with
    | nil => simp [trEs] at ht
    | cons e es =>
      simp only [trEs, Bool.and_eq_true] at ht
      rw [starEach_cons ht.1.1]
      refine spliced_cons (wp_rt (hx.1.1 A env names sl pls En R e ht.1.2 s μ H l _ S F hv) fun va v H' μ' h' t' hP rv S' X => ?_)
      refine wp_rl (spliced_sound hx.2 A env names sl pls En R es ht.2 pos _ μ' H' l _ S' (F.ext X) hP) fun vs ws H'' μ'' h'' t'' hP rs S'' X' => ?_
      exact ⟨v :: ws, H'', μ'', h'', t'', rfl, hP, ⟨rv.mono X'.ex, rs⟩, S'', X.trans X'⟩

theorem and_sound : ∀ {xs : Xs}, SdXs c D T cl d u xs → ∀ A env names sl pls, En env names sl pls → Room (d + 4) (u + 30) A → ∀ es, trEs D names sl xs es = true → ∀ pos s μ H l P, St c s.heap μ H → Fm c s.heap μ pls l →
    vcAnd T cl xs l H P → wpAny (model c.prog c.w) A (boolOp pos .And (evalEach es env)) (Rt c s μ P) no s
  | .nil, _, _, _, _, _, _, _, _, _, _, _, _, _, _, _, _, _, _, hv => hv.elim
  | .cons x .nil, hx, A, env, names, sl, pls, En, R, es, ht, pos, s, μ, H, l, P, S, F, hv => by
    match es, ht with
    | [e], ht =>
      simp only [trEs, Bool.and_eq_true] at ht
      exact hx.1.1 A env names sl pls En R e ht.1.2 s μ H l _ S F hv
    | [], ht => simp [trEs] at ht
    | _ :: _ :: _, ht => simp [trEs] at ht
  | .cons x (.cons y ys), hx, A, env, names, sl, pls, En, R, es, ht, pos, s, μ, H, l, P, S, F, hv => by
    match es, ht with
    | [], ht => simp [trEs] at ht
    | [e], ht => simp [trEs] at ht
    | e :: e' :: es, ht =>
      rw [trEs] at ht
      simp only [Bool.and_eq_true] at ht
      show wpAny _ _ (do
        let v ← eval e env
        standAt pos
        let t ← holding [v] (truthy v)
        match BoolOp.And, t with
        | .And, false | .Or, true => pure v
        | _, _ => boolOp pos .And (evalEach (e' :: es) env)) _ _ s
      refine wpAny_bind (wp_rt (hx.1.1 A env names sl pls En R e ht.1.2 s μ H l _ S F hv) fun va v H' μ' h' t' hx6 rv S' X => ?_)
      obtain ⟨b, hb, hP⟩ := hx6
      refine wpAny_bind (wpAny_standAt (wpAny_bind (wpAny_holding (truth_sound S' hb rv fun t => ?_))))
      cases b with
      | false => exact wpAny_pure ⟨v, H', μ', h', t, rfl, hP, rv, S', X⟩
      | true => exact wp_go (and_sound hx.2 A env names sl pls En R (e' :: es) ht.2 pos _ μ' H' l P S' (F.ext X) hP) fun val s' r => Rt.more X r
theorem or_sound : ∀ {xs : Xs}, SdXs c D T cl d u xs → ∀ A env names sl pls, En env names sl pls → Room (d + 4) (u + 30) A → ∀ es, trEs D names sl xs es = true → ∀ pos s μ H l P, St c s.heap μ H → Fm c s.heap μ pls l →
    vcOr T cl xs l H P → wpAny (model c.prog c.w) A (boolOp pos .Or (evalEach es env)) (Rt c s μ P) no s
  | .nil, _, _, _, _, _, _, _, _, _, _, _, _, _, _, _, _, _, _, hv => hv.elim
  | .cons x .nil, hx, A, env, names, sl, pls, En, R, es, ht, pos, s, μ, H, l, P, S, F, hv => by
    match es, ht with
    | [e], ht =>
      simp only [trEs, Bool.and_eq_true] at ht
      exact hx.1.1 A env names sl pls En R e ht.1.2 s μ H l _ S F hv
    | [], ht => simp [trEs] at ht
    | _ :: _ :: _, ht => simp [trEs] at ht
  | .cons x (.cons y ys), hx, A, env, names, sl, pls, En, R, es, ht, pos, s, μ, H, l, P, S, F, hv => by
    match es, ht with
    | [], ht => simp [trEs] at ht
    | [e], ht => simp [trEs] at ht
    | e :: e' :: es, ht =>
      rw [trEs] at ht
      simp only [Bool.and_eq_true] at ht
      show wpAny _ _ (do
        let v ← eval e env
        standAt pos
        let t ← holding [v] (truthy v)
        match BoolOp.Or, t with
        | .And, false | .Or, true => pure v
        | _, _ => boolOp pos .Or (evalEach (e' :: es) env)) _ _ s
      refine wpAny_bind (wp_rt (hx.1.1 A env names sl pls En R e ht.1.2 s μ H l _ S F hv) fun va v H' μ' h' t' hx6 rv S' X => ?_)
      obtain ⟨b, hb, hP⟩ := hx6
      refine wpAny_bind (wpAny_standAt (wpAny_bind (wpAny_holding (truth_sound S' hb rv fun t => ?_))))
      cases b with
      | true => exact wpAny_pure ⟨v, H', μ', h', t, rfl, hP, rv, S', X⟩
      | false => exact wp_go (or_sound hx.2 A env names sl pls En R (e' :: es) ht.2 pos _ μ' H' l P S' (F.ext X) hP) fun val s' r => Rt.more X r

theorem wpAny_allTrue_Or_cons' {M : Model} {A : Around} {E : Value → Shared → Prop} {s : Shared} {env : Env} {x : Expr} {rest : List Expr} {Q : Bool → Shared → Prop}
    (h : wpAny M A (isTrue x env (eval x env)) (fun b s₁ => if b then Q true s₁ else wpAny M A (allTrue .Or rest env) Q E s₁) E s) : wpAny M A (allTrue .Or (x :: rest) env) Q E s := by
  show wpAny M A (do
    match BoolOp.Or, ← isTrue x env (eval x env) with
    | .And, false => pure false
    | .Or, true => pure true
    | _, _ => allTrue .Or rest env) Q E s
  refine wpAny_bind (wpAny_mono h (fun b s' h' => ?_) fun _ _ e => e)
  cases b with
  | true => exact wpAny_pure h'
  | false => exact h'

theorem andT_sound : ∀ {xs : Xs}, SdXs c D T cl d u xs → ∀ A env names sl pls, En env names sl pls → Room (d + 4) (u + 30) A → ∀ es, trEs D names sl xs es = true → ∀ s μ H l P, (∀ v H, P v H → ∃ b, truth v H = some b) → St c s.heap μ H → Fm c s.heap μ pls l →
    vcAnd T cl xs l H P → wpAny (model c.prog c.w) A (allTrue .And es env) (RtT c s μ P) no s
  | .nil, _, _, _, _, _, _, _, _, _, _, _, _, _, _, _, _, _, _, hv => hv.elim
  | .cons x .nil, hx, A, env, names, sl, pls, En, R, es, ht, s, μ, H, l, P, hT, S, F, hv => by
    match es, ht with
    | [e], ht =>
      simp only [trEs, Bool.and_eq_true] at ht
      refine wpAny_allTrue_And_cons (wp_go (hx.1.2 A env names sl pls En R e ht.1.2 s μ H l P hT S F hv) fun b s' r => ?_)
      cases b with
      | true => exact wpAny_allTrue_And_nil r
      | false => exact r
    | [], ht => simp [trEs] at ht
    | _ :: _ :: _, ht => simp [trEs] at ht
  | .cons x (.cons y ys), hx, A, env, names, sl, pls, En, R, es, ht, s, μ, H, l, P, hT, S, F, hv => by
    match es, ht with
    | [], ht => simp [trEs] at ht
    | [e], ht => simp [trEs] at ht
    | e :: e' :: es, ht =>
      rw [trEs] at ht
      simp only [Bool.and_eq_true] at ht
      refine wpAny_allTrue_And_cons (wp_rT (hx.1.2 A env names sl pls En R e ht.1.2 s μ H l _ (fun v H hP => hP.imp fun _ y => y.1) S F hv) fun b v H' μ' h' t' hx6 hb S' X => ?_)
      obtain ⟨b', hb', hP⟩ := hx6
      rw [hb] at hb'; cases hb'
      cases b with
      | false => exact ⟨v, H', μ', h', t', rfl, hP, hb, S', X⟩
      | true => exact wp_go (andT_sound hx.2 A env names sl pls En R (e' :: es) ht.2 _ μ' H' l P hT S' (F.ext X) hP) fun val s' r => RtT.more X r
theorem orT_sound : ∀ {xs : Xs}, SdXs c D T cl d u xs → ∀ A env names sl pls, En env names sl pls → Room (d + 4) (u + 30) A → ∀ es, trEs D names sl xs es = true → ∀ s μ H l P, (∀ v H, P v H → ∃ b, truth v H = some b) → St c s.heap μ H → Fm c s.heap μ pls l →
    vcOr T cl xs l H P → wpAny (model c.prog c.w) A (allTrue .Or es env) (RtT c s μ P) no s
  | .nil, _, _, _, _, _, _, _, _, _, _, _, _, _, _, _, _, _, _, hv => hv.elim
  | .cons x .nil, hx, A, env, names, sl, pls, En, R, es, ht, s, μ, H, l, P, hT, S, F, hv => by
    match es, ht with
    | [e], ht =>
      simp only [trEs, Bool.and_eq_true] at ht
      refine wpAny_allTrue_Or_cons' (wp_go (hx.1.2 A env names sl pls En R e ht.1.2 s μ H l P hT S F hv) fun b s' r => ?_)
      cases b with
      | false => exact wpAny_allTrue_Or_nil r
      | true => exact r
    | [], ht => simp [trEs] at ht
    | _ :: _ :: _, ht => simp [trEs] at ht
  | .cons x (.cons y ys), hx, A, env, names, sl, pls, En, R, es, ht, s, μ, H, l, P, hT, S, F, hv => by
    match es, ht with
    | [], ht => simp [trEs] at ht
    | [e], ht => simp [trEs] at ht
    | e :: e' :: es, ht =>
      rw [trEs] at ht
      simp only [Bool.and_eq_true] at ht
      refine wpAny_allTrue_Or_cons' (wp_rT (hx.1.2 A env names sl pls En R e ht.1.2 s μ H l _ (fun v H hP => hP.imp fun _ y => y.1) S F hv) fun b v H' μ' h' t' hx6 hb S' X => ?_)
      obtain ⟨b', hb', hP⟩ := hx6
      rw [hb] at hb'; cases hb'
      cases b with
      | true => exact ⟨v, H', μ', h', t', rfl, hP, hb, S', X⟩
      | false => exact wp_go (orT_sound hx.2 A env names sl pls En R (e' :: es) ht.2 _ μ' H' l P hT S' (F.ext X) hP) fun val s' r => RtT.more X r

theorem sd_and {xs : Xs} (hx : SdXs c D T cl d u xs) : SdX c D T cl d u (.and xs) := by
  refine ⟨?_, ?_⟩
  · intro A env names sl pls En R e ht s μ H l P S F hv
    refine vBoolO_el ht fun _ _ ht => ?_
    exact and_sound hx A env names sl pls En R _ ht _ s μ H l P S F hv
  · intro A env names sl pls En R e ht s μ H l P hT S F hv
    refine vBoolO_el ht fun _ _ ht => ?_
    exact wpAny_isTrue_BoolOp (andT_sound hx A env names sl pls En R _ ht s μ H l P hT S F hv)
theorem sd_or {xs : Xs} (hx : SdXs c D T cl d u xs) : SdX c D T cl d u (.or xs) := by
  refine ⟨?_, ?_⟩
  · intro A env names sl pls En R e ht s μ H l P S F hv
    refine vBoolO_el ht fun _ _ ht => ?_
    exact or_sound hx A env names sl pls En R _ ht _ s μ H l P S F hv
  · intro A env names sl pls En R e ht s μ H l P hT S F hv
    refine vBoolO_el ht fun _ _ ht => ?_
    exact wpAny_isTrue_BoolOp (orT_sound hx A env names sl pls En R _ ht s μ H l P hT S F hv)

end Mine
end
section
open PySem PySem.W PySem.Calls PyProof.Rows PySem.SeqAt
namespace Mine
variable {c : Cx} {D : Nm} {fad : Nat → Addr} {T : Tab} {cl : Cl} {d u : Nat}

theorem push_same {s : Shared} {μ : Mu} {H : AH} (S : St c s.heap μ H) (o : Obj) : St c (s.heap.push o) μ H ∧ Ext [] μ s.heap μ (s.heap.push o) :=
  ⟨S.same (fun _ _ e => Heap.get?_push_of_some _ e), ⟨⟨[], by simp, by simp [foot]⟩, fun _ _ e _ _ => Heap.get?_push_of_some _ e⟩⟩

/-! ## `x in ("a", "b")` -/
noncomputable def StrL : List Str → List Value → Prop
  | [], [] => True
  | s :: ss, x :: xs => (∃ t, x = .str s t) ∧ StrL ss xs
  | _, _ => False
theorem StrL.length : ∀ {ss : List Str} {xs : List Value}, StrL ss xs → xs.length = ss.length
  | [], [], _ => rfl
  | _ :: _, _ :: _, ⟨_, r⟩ => by simp [StrL.length r]
  | [], _ :: _, h => h.elim
  | _ :: _, [], h => h.elim
theorem StrL.any (x : Str) (t : Tok) : ∀ {ss : List Str} {xs : List Value}, StrL ss xs → xs.any (ceq (.str x t)) = ss.contains x ∧ ∀ y ∈ xs, ∃ a t, y = .str a t
  | [], [], _ => ⟨rfl, fun _ h => (nomatch h)⟩
  | s :: ss, _ :: xs, ⟨⟨t', rfl⟩, r⟩ => by
    obtain ⟨h1, h2⟩ := StrL.any x t r
    refine ⟨?_, fun y hy => ?_⟩
    · rw [List.any_cons, h1, List.contains_cons]
      congr 1
      show (s == x) = (x == s)
      exact Bool.eq_iff_iff.mpr ⟨fun h => by rw [beq_iff_eq.mp h]; exact beq_self_eq_true _, fun h => by rw [beq_iff_eq.mp h]; exact beq_self_eq_true _⟩
    · rcases List.mem_cons.mp hy with rfl | hy
      · exact ⟨s, t', rfl⟩
      · exact h2 y hy
  | [], _ :: _, h => h.elim
  | _ :: _, [], h => h.elim
theorem strIs_some {s : Str} {e : Expr} (h : strIs s e = true) : ∃ n p, e = .Constant (.str s) n p := by
  cases e with
  | Constant k n p =>
    cases k with
    | str t => obtain rfl := eq_of_beq (h : (s == t) = true); exact ⟨n, p, rfl⟩
    | _ => cases h
  | _ => cases h
theorem strs_spliced {M : Model} {A : Around} {env : Env} {pos : Pos} : ∀ {ss : List Str} {es : List Expr}, strsOk ss es = true → ∀ (s : Shared) (Q : List Value → Shared → Prop), (∀ xs t, StrL ss xs → Q xs { s with toks := t }) →
    wpAny M A (spliced (backTo pos (starEach es env))) Q no s
  | [], [], _, s, Q, h => spliced_nil (h [] s.toks trivial)
  | [], _ :: _, ht, _, _, _ => (nomatch (ht : false = true))
  | _ :: _, [], ht, _, _, _ => (nomatch (ht : false = true))
  | x :: ss, e :: es, ht, s, Q, h => by
    replace ht := Bool.and_eq_true_iff.mp ht
    obtain ⟨n, p, rfl⟩ := strIs_some ht.1
    exact spliced_cons (wpAny_Constant_str (k := n) (pos := p) (strs_spliced ht.2 _ _ fun xs t r => h _ t ⟨⟨_, rfl⟩, r⟩))

theorem inS_core {A : Around} {s : Shared} {μ : Mu} {H : AH} (S : St c s.heap μ H) (hA : A.units + 10 < cLine) {env : Env} {ss : List Str} {es : List Expr} {k : Nat} {pos : Pos} (ho : strsOk ss es = true) (hl : ss.length ≤ lid)
    {neg : Bool} {op : CmpOp} (hop : coOk (if neg then .notin else .isin) op = true) {x : Str} {t : Tok} {Q : Value → Shared → Prop}
    (hQ : ∀ h' t', St c h' μ H → Ext [] μ s.heap μ h' → Q (.bool (neg ^^ ss.contains x)) { s with heap := h', toks := t' }) :
    wpAny (model c.prog c.w) A (eval (.Tuple es k pos) env) (fun b s₂ => wpAny (model c.prog c.w) A (compareOp op (.str x t) b) Q no s₂) no s := by
  refine Tuple_ (strs_spliced ho s _ fun xs t₁ r => ?_)
  refine wpAny_newTuple ?_ (by rw [r.length]; exact Nat.le_trans hl lid_le)
  obtain ⟨S', X⟩ := push_same (s := { s with toks := t₁ }) S { cls := .type "tuple", data := .seq xs.toArray }
  obtain ⟨h1, h2⟩ := r.any x t
  have hT : (s.heap.push { cls := .type "tuple", data := .seq xs.toArray }).IsTuple s.heap.objs.size xs.toArray := ⟨_, Heap.get?_push_size _ rfl, rfl, 0, rfl⟩
  have he : ∀ y, y ∈ xs.toArray → EqAt A.in1 { s with heap := s.heap.push { cls := .type "tuple", data := .seq xs.toArray }, toks := t₁ } y (.str x t) (ceq (.str x t) y) := fun y hy => by
    obtain ⟨a, t', rfl⟩ := h2 y (by simpa using hy)
    exact EqAt.str_str a t' x t
  cases neg with
  | false =>
    cases op <;> first | (cases hop; done) | skip
    refine in_tupleAt (ceq (.str x t)) hT he ?_
    rw [List.any_toArray, h1]
    have := hQ _ t₁ S' X
    rwa [Bool.false_xor] at this
  | true =>
    cases op <;> first | (cases hop; done) | skip
    refine notIn_tupleAt (ceq (.str x t)) hT he ?_
    rw [List.any_toArray, h1]
    have := hQ _ t₁ S' X
    rwa [Bool.true_xor] at this

theorem marks_tuple (op : CmpOp) (es : List Expr) (k : Nat) (p : Pos) : behindInMarks op (.Tuple es k p) = false := rfl
theorem marks_list (op : CmpOp) (es : List Expr) (p : Pos) : behindInMarks op (.List es p) = false := rfl

theorem sd_inS {neg : Bool} {a : X} {ss : List Str} (ha : SdX c D T cl d u a) : SdX c D T cl d u (.inS neg a ss) := by
  refine ⟨?_, ?_⟩
  · intro A env names sl pls En R e ht s μ H l P S F hv
    refine vCmpT_el ht fun x op es k p pos ht => ?_
    simp only [Bool.and_eq_true, decide_eq_true_eq] at ht
    obtain ⟨⟨⟨t1, t2⟩, t3⟩, t4⟩ := ht
    refine wpAny_Compare1 (wp_rt (ha.1 A env names sl pls En R x t4 s μ H l _ S F hv) fun va v H' μ' h' t' hx6 hx7 S' X => ?_) (marks_tuple ..)
    obtain ⟨y, rfl, hP⟩ := hx6
    obtain ⟨t, rfl⟩ := hx7
    exact inS_core S' (units_of R) t2 t3 t1 fun h'' t'' S'' X' => ⟨_, H', μ', h'', t'', rfl, hP, rfl, S'', X.trans X'⟩
  · intro A env names sl pls En R e ht s μ H l P hT S F hv
    refine vCmpT_el ht fun x op es k p pos ht => ?_
    simp only [Bool.and_eq_true, decide_eq_true_eq] at ht
    obtain ⟨⟨⟨t1, t2⟩, t3⟩, t4⟩ := ht
    refine wpAny_isTrue_Compare1 (wp_rt (ha.1 A env names sl pls En R x t4 s μ H l _ S F hv) fun va v H' μ' h' t' hx6 hx7 S' X => ?_) (marks_tuple ..)
    obtain ⟨y, rfl, hP⟩ := hx6
    obtain ⟨t, rfl⟩ := hx7
    exact inS_core S' (units_of R) t2 t3 t1 fun h'' t'' S'' X' => wpAny_truthy_bool ⟨.bool _, H', μ', h'', t'', rfl, hP, rfl, S'', X.trans X'⟩

/-! ## `x == []` -/
theorem nil_core {A : Around} {s : Shared} {μ : Mu} {H : AH} (S : St c s.heap μ H) (hA : A.units + 10 < cLine) {env : Env} {pos : Pos} {v : V} {x : Value} {vs : List V} (hv : getL v H = some vs) (rv : RV c.B μ v x)
    {neg : Bool} {op : CmpOp} (hop : coOk (if neg then .ne else .eq) op = true) {Q : Value → Shared → Prop}
    (hQ : ∀ h' t', St c h' μ H → Ext [] μ s.heap μ h' → Q (.bool (neg ^^ vs.isEmpty)) { s with heap := h', toks := t' }) :
    wpAny (model c.prog c.w) A (eval (.List [] pos) env) (fun b s₂ => wpAny (model c.prog c.w) A (compareOp op x b) Q no s₂) no s := by
  obtain ⟨i, rfl, e⟩ := getL_some hv
  obtain ⟨p, hp, rfl⟩ := rv
  refine List_ (spliced_nil (wpAny_newList ?_ (by rw [List.length_nil]; exact Nat.zero_le _)))
  obtain ⟨S', X⟩ := push_same S { cls := .type "list", data := .seq ([] : List Value).toArray }
  obtain ⟨_, xs, n, g, r⟩ := S'.obj _ _ _ e hp
  have l1 : (s.heap.push { cls := .type "list", data := .seq ([] : List Value).toArray }).IsList p.1 xs.toArray := ⟨_, g, rfl, n, rfl⟩
  have l2 : (s.heap.push { cls := .type "list", data := .seq ([] : List Value).toArray }).IsList s.heap.objs.size ([] : List Value).toArray := ⟨_, Heap.get?_push_size _ rfl, rfl, 0, rfl⟩
  have hq := hQ _ s.toks S' X
  have hu : A.units < cLine := by omega
  cases vs with
  | nil =>
    have : xs = [] := by have := r.length; simpa using this
    subst this
    cases neg with
    | false =>
      cases op <;> first | (cases hop; done) | skip
      exact RcAt.lists (s := { s with heap := _ }) (e := fun _ => true) l1 l2 rfl hu (fun j h1 _ => absurd h1 (by simp)) _ _ _ _ hq
    | true =>
      cases op <;> first | (cases hop; done) | skip
      exact RcNeAt.lists (s := { s with heap := _ }) (e := fun _ => true) l1 l2 rfl hu (fun j h1 _ => absurd h1 (by simp)) _ _ _ _ hq
  | cons w ws =>
    have hs : (xs.toArray.size != ([] : List Value).toArray.size) = true := by simp [r.length]
    cases neg with
    | false =>
      cases op <;> first | (cases hop; done) | skip
      exact RcAt.lists_lengths (s := { s with heap := _ }) l1 l2 hs hu _ _ _ _ hq
    | true =>
      cases op <;> first | (cases hop; done) | skip
      exact RcNeAt.lists_lengths (s := { s with heap := _ }) l1 l2 hs hu _ _ _ _ hq

theorem sd_nil {neg : Bool} {a : X} (ha : SdX c D T cl d u a) : SdX c D T cl d u (.nil neg a) := by
  refine ⟨?_, ?_⟩
  · intro A env names sl pls En R e ht s μ H l P S F hv
    refine vCmpN_el ht fun x op p pos ht => ?_
    simp only [Bool.and_eq_true] at ht
    refine wpAny_Compare1 (wp_rt (ha.1 A env names sl pls En R x ht.2 s μ H l _ S F hv) fun va v H' μ' h' t' hx6 rv S' X => ?_) (marks_list ..)
    obtain ⟨vs, hvs, hlen, hP⟩ := hx6
    exact nil_core S' (units_of R) hvs rv ht.1 fun h'' t'' S'' X' => ⟨_, H', μ', h'', t'', rfl, hP, rfl, S'', X.trans X'⟩
  · intro A env names sl pls En R e ht s μ H l P hT S F hv
    refine vCmpN_el ht fun x op p pos ht => ?_
    simp only [Bool.and_eq_true] at ht
    refine wpAny_isTrue_Compare1 (wp_rt (ha.1 A env names sl pls En R x ht.2 s μ H l _ S F hv) fun va v H' μ' h' t' hx6 rv S' X => ?_) (marks_list ..)
    obtain ⟨vs, hvs, hlen, hP⟩ := hx6
    exact nil_core S' (units_of R) hvs rv ht.1 fun h'' t'' S'' X' => wpAny_truthy_bool ⟨.bool _, H', μ', h'', t'', rfl, hP, rfl, S'', X.trans X'⟩

/-! ## displays -/
theorem RVs_len_le {μ : Mu} {vs : List V} {xs : List Value} (r : RVs c.B μ vs xs) (h : vs.length ≤ lid) : xs.length ≤ sizeLine := by rw [r.length]; exact Nat.le_trans h lid_le

theorem sd_tup {xs : Xs} (hx : SdXs c D T cl d u xs) : SdX c D T cl d u (.tup xs) := by
  refine sdT_of ?_ ?_
  · intro A env names sl pls En R e ht s μ H l P S F hv
    refine vTup_el ht fun es k pos ht => ?_
    refine Tuple_ (wp_rl (spliced_sound hx A env names sl pls En R es ht pos s μ H l _ S F hv) fun vals vs H' μ' h' t' hx6 rs S' X => ?_)
    obtain ⟨hl, hP⟩ := hx6
    obtain ⟨S'', X'⟩ := St.newTup (s := { s with heap := h', toks := t' }) S' rs
    exact wpAny_newTuple ⟨_, _, _, _, t', rfl, hP, RV.last S'.len, S'', X.trans X'⟩ (RVs_len_le rs hl)
  · intro names sl e ht env whole
    refine vTup_el ht fun _ _ _ ht => ?_
    rfl
theorem sd_lst {xs : Xs} (hx : SdXs c D T cl d u xs) : SdX c D T cl d u (.lst xs) := by
  refine sdT_of ?_ ?_
  · intro A env names sl pls En R e ht s μ H l P S F hv
    refine vList_el ht fun es pos ht => ?_
    refine List_ (wp_rl (spliced_sound hx A env names sl pls En R es ht pos s μ H l _ S F hv) fun vals vs H' μ' h' t' hx6 rs S' X => ?_)
    obtain ⟨hl, hP⟩ := hx6
    obtain ⟨S'', X'⟩ := St.newList (s := { s with heap := h', toks := t' }) S' rs
    exact wpAny_newList ⟨_, _, _, _, t', rfl, hP, RV.last S'.len, S'', X.trans X'⟩ (RVs_len_le rs hl)
  · intro names sl e ht env whole
    refine vList_el ht fun _ _ ht => ?_
    rfl

/-! ## items and slices -/
theorem items_some {v : V} {H : AH} {vs : List V} (h : itemsOf v H = some vs) : ∃ i, v = .ref i ∧ (H[i]? = some (.list vs) ∨ H[i]? = some (.tup vs)) := by
  unfold itemsOf at h
  cases v <;> try (cases h; done)
  rename_i i
  dsimp only at h
  split at h
  · rename_i e; cases h; exact ⟨i, rfl, .inl e⟩
  · rename_i e; cases h; exact ⟨i, rfl, .inr e⟩
  · cases h
theorem Ints.rvs {B : Heap} {μ : Mu} : ∀ {ns : List Int} {xs : List Value}, Ints ns xs → RVs B μ (ns.map V.int) xs
  | [], [], _ => trivial
  | _ :: _, _ :: _, ⟨a, b⟩ => ⟨a, Ints.rvs b⟩
  | [], _ :: _, h => h.elim
  | _ :: _, [], h => h.elim
/-- where the items stand -/
theorem items_at {h : Heap} {μ : Mu} {H : AH} {v : V} {x : Value} {vs : List V} (S : St c h μ H) (rv : RV c.B μ v x) (e : itemsB v H = some vs) :
    ∃ a xs n, x = .ref a ∧ RVs c.B μ vs xs ∧ (h.IsList a xs.toArray ∨ h.get? a = some (tupOf xs n)) := by
  have gen : itemsOf v H = some vs → ∃ a xs n, x = .ref a ∧ RVs c.B μ vs xs ∧ (h.IsList a xs.toArray ∨ h.get? a = some (tupOf xs n)) := fun e => by
    obtain ⟨j, rfl, hj⟩ := items_some e
    obtain ⟨p, hp, rfl⟩ := rv
    rcases hj with hj | hj
    · obtain ⟨_, xs, n, g, q⟩ := S.obj _ _ _ hj hp
      exact ⟨p.1, xs, n, rfl, q, .inl ⟨_, g, rfl, n, rfl⟩⟩
    · obtain ⟨_, xs, n, g, q⟩ := S.obj _ _ _ hj hp
      exact ⟨p.1, xs, n, rfl, q, .inr g⟩
  cases v <;> first | exact gen e | skip
  obtain ⟨a, xs, rfl, ⟨o, hB, hc⟩, hi⟩ := rv
  cases e
  exact ⟨a, xs, 0, rfl, hi.rvs, .inl ⟨o, S.base _ _ hB, hc⟩⟩
theorem subscripted_plain {sl : Expr} (h : notStar sl = true) (o i : Value) : subscripted sl false o i = operate [o, i] (getItem o i) := by
  cases sl <;> first | rfl | cases h

theorem sd_idx {a i : X} (ha : SdX c D T cl d u a) (hi : SdX c D T cl d u i) : SdX c D T cl d u (.idx a i) := by
  refine sdT_of ?_ ?_
  · intro A env names sl pls En R e ht s μ H l P S F hv
    refine vSub_el ht fun x y pos ht => ?_
    simp only [Bool.and_eq_true] at ht
    refine Subscript_ (wp_rt (ha.1 A env names sl pls En R x ht.1.2 s μ H l _ S F hv) fun va v H' μ' h' t' hP rv S' X => ?_)
    refine wp_rt (hi.1 A env names sl pls En R y ht.2 _ μ' H' l _ S' (F.ext X) hP) fun vb w H'' μ'' h'' t'' hx6 rw' S'' X' => ?_
    obtain ⟨r, e, hPr⟩ := hx6
    have rv' := rv.mono X'.ex
    unfold itemAt at e
    split at e
    · rename_i vs k hit
      obtain ⟨t, rfl⟩ := rw'
      obtain ⟨pa, xs, n, rfl, q, hj⟩ := items_at S'' rv' hit
      split at e
      · rename_i hlen
        have h63 : (lid : Int) < 2 ^ 63 := lid_small
        have hsz : xs.length = vs.length := q.length
        rcases hj with hL | g
        · split at e
          · rename_i h0
            split at e
            · rename_i hk
              obtain ⟨z, hz, rz⟩ := q.get e
              exact tail_any (s := { s with heap := h'', toks := t'' }) hL.typeIs slot_list_getitem.lookup (wpAny_getItem_list hL h0 (by omega) (by simpa using hz) ⟨r, H'', μ'', h'', t'', rfl, hPr, rz, S'', X.trans X'⟩) (subscripted_plain ht.1.1 _ _)
            · cases e
          · rename_i h0
            split at e
            · rename_i h1
              obtain ⟨z, hz, rz⟩ := q.get e
              have hsz' : xs.toArray.size = vs.length := by simp [hsz]
              exact tail_any (s := { s with heap := h'', toks := t'' }) hL.typeIs slot_list_getitem.lookup (wpAny_getItem_list_neg hL (by omega) (by rw [hsz']; exact h1) (by omega) (by rw [hsz']; simpa using hz) ⟨r, H'', μ'', h'', t'', rfl, hPr, rz, S'', X.trans X'⟩) (subscripted_plain ht.1.1 _ _)
            · cases e
        · have hL : IsTup h'' pa xs.toArray := ⟨_, g, rfl, n, rfl⟩
          split at e
          · rename_i h0
            split at e
            · rename_i hk
              obtain ⟨z, hz, rz⟩ := q.get e
              exact item_tupleT (s := { s with heap := h'', toks := t'' }) (j := k.toNat) hL (by omega) (by omega) (seqIndex_of h0 (by have := (List.getElem?_eq_some_iff.mp hz).1; omega)) hz ⟨r, H'', μ'', h'', t'', rfl, hPr, rz, S'', X.trans X'⟩ (subscripted_plain ht.1.1 _ _)
            · cases e
          · rename_i h0
            split at e
            · rename_i h1
              obtain ⟨z, hz, rz⟩ := q.get e
              exact item_tupleT (s := { s with heap := h'', toks := t'' }) (j := (k + vs.length).toNat) hL (by omega) (by omega) (by rw [hsz]; exact MeetsSeq.seqIndex_neg (by omega) (by omega)) hz ⟨r, H'', μ'', h'', t'', rfl, hPr, rz, S'', X.trans X'⟩ (subscripted_plain ht.1.1 _ _)
            · cases e
      · cases e
    · cases e
  · intro names sl e ht env whole
    refine vSub_el ht fun _ _ _ ht => ?_
    rfl
end Mine
end
section
open PySem PySem.W PySem.Calls PyProof.Rows PySem.SeqAt
namespace Mine
variable {c : Cx} {D : Nm} {fad : Nat → Addr} {T : Tab} {cl : Cl} {d u : Nat}

theorem subscripted_slice (lo hi : Option Expr) (p : Pos) (o i : Value) : subscripted (.Slice lo hi none p) false o i = operate [i, o] (getItem o i) := by rfl

/-- a slice's tail -/
theorem slice_tail {A : Around} {s : Shared} {μ : Mu} {H : AH} {P : V → AH → Prop} {x : Expr} {lo hi : Option Expr} {pos : Pos} {i : Nat} {vs us : List V} {y vl vu : Value} {a b : Option Int}
    (S : St c s.heap μ H) (hv : H[i]? = some (.list vs)) (rv : RV c.B μ (.ref i) y) (hl : vs.length ≤ lid) (pl : IsPart vl a) (pu : IsPart vu b)
    (hp : ∀ xs : List Value, RVs c.B μ vs xs → ∃ zs : List Value, slicePick xs.toArray a b none = zs.toArray ∧ RVs c.B μ us zs) (hP : P (.ref H.length) (H ++ [.list us]))
    (Q : Value → Shared → Prop) (hq : ∀ val s', Rt c s μ P val s' → Q val s') :
    wpAny (model c.prog c.w) A (subscriptTail x (.Slice lo hi none pos) y (.ref s.heap.objs.size)) Q no { s with heap := s.heap.push { cls := .type "slice", data := .fields #[vl, vu, .none] } } := by
  obtain ⟨p, hp', rfl⟩ := rv
  obtain ⟨S', X⟩ := push_same S { cls := .type "slice", data := .fields #[vl, vu, .none] }
  obtain ⟨_, xs, n, g, q⟩ := S'.obj _ _ _ hv hp'
  obtain ⟨zs, hz, rz⟩ := hp xs q
  have hL : (s.heap.push { cls := .type "slice", data := .fields #[vl, vu, .none] }).IsList p.1 xs.toArray := ⟨_, g, rfl, n, rfl⟩
  refine tail_any (s := { s with heap := _ }) hL.typeIs slot_list_getitem.lookup (wpAny_getItem_list_slice hL (Heap.IsSliceOf.new _ _ _ _) pl pu .none (by simp) ?_ (by simp only [List.size_toArray, q.length]; exact Nat.le_trans hl lid_le)) (subscripted_slice ..)
  rw [hz]
  obtain ⟨S'', X'⟩ := St.newList (s := { s with heap := _ }) S' rz
  exact hq _ _ ⟨_, _, _, _, s.toks, rfl, hP, RV.last S'.len, S'', X.trans X'⟩

theorem sd_whole {a : X} (ha : SdX c D T cl d u a) : SdX c D T cl d u (.whole a) := by
  refine sdT_of ?_ ?_
  · intro A env names sl pls En R e ht s μ H l P S F hv
    refine vWhole_el ht fun x p pos ht => ?_
    refine Subscript_ (wp_rt (ha.1 A env names sl pls En R x ht s μ H l _ S F hv) fun va v H' μ' h' t' hx6 rv S' X => ?_)
    obtain ⟨vs, hvs, hl, hP⟩ := hx6
    obtain ⟨i, rfl, hi⟩ := getL_some hvs
    refine wpAny_Slice (wpAny_evalPart_none (wpAny_evalPart_none (wpAny_evalPart_none ?_)))
    exact slice_tail (s := { s with heap := h', toks := t' }) S' hi rv hl .none .none (fun xs q => ⟨xs, slicePick_all _, q⟩) hP _ fun val s' r => Rt.more X r
  · intro names sl e ht env whole
    refine vWhole_el ht fun _ _ _ ht => ?_
    rfl

theorem sd_upto {a i : X} (ha : SdX c D T cl d u a) (hi : SdX c D T cl d u i) : SdX c D T cl d u (.upto a i) := by
  refine sdT_of ?_ ?_
  · intro A env names sl pls En R e ht s μ H l P S F hv
    refine vUpto_el ht fun x y p pos ht => ?_
    simp only [Bool.and_eq_true] at ht
    refine Subscript_ (wp_rt (ha.1 A env names sl pls En R x ht.1 s μ H l _ S F hv) fun va v H' μ' h' t' hP rv S' X => ?_)
    refine wpAny_Slice (wpAny_evalPart_none (wpAny_evalPart_some (wp_rt (hi.1 A env names sl pls En R y ht.2 _ μ' H' l _ S' (F.ext X) hP) fun vb w H'' μ'' h'' t'' hx6 hx7 S'' X' => ?_)))
    obtain ⟨vs, n, hvs, hl, rfl, h0, h1, hPr⟩ := hx6
    obtain ⟨tk, rfl⟩ := hx7
    obtain ⟨j, rfl, hj⟩ := getL_some hvs
    refine wpAny_evalPart_none ?_
    obtain ⟨m, rfl⟩ := Int.eq_ofNat_of_zero_le h0
    exact slice_tail (s := { s with heap := h'', toks := t'' }) S'' hj (rv.mono X'.ex) hl .none (.int _ _) (fun xs q => ⟨xs.take m, slicePick_upto' _ _, q.take m⟩) hPr _ fun val s' r => Rt.more X (Rt.more X' r)
  · intro names sl e ht env whole
    refine vUpto_el ht fun _ _ _ _ ht => ?_
    rfl

theorem sd_part {a i j : X} (ha : SdX c D T cl d u a) (hi : SdX c D T cl d u i) (hj : SdX c D T cl d u j) : SdX c D T cl d u (.part a i j) := by
  refine sdT_of ?_ ?_
  · intro A env names sl pls En R e ht s μ H l P S F hv
    refine vPart_el ht fun x y z p pos ht => ?_
    simp only [Bool.and_eq_true] at ht
    refine Subscript_ (wp_rt (ha.1 A env names sl pls En R x ht.1.1 s μ H l _ S F hv) fun va v H' μ' h' t' hP rv S' X => ?_)
    refine wpAny_Slice (wpAny_evalPart_some (wp_rt (hi.1 A env names sl pls En R y ht.1.2 _ μ' H' l _ S' (F.ext X) hP) fun vb w H'' μ'' h'' t'' hP rw' S'' X' => ?_))
    refine wpAny_evalPart_some (wp_rt (hj.1 A env names sl pls En R z ht.2 _ μ'' H'' l _ S'' ((F.ext X).ext X') hP) fun vc w' H3 μ3 h3 t3 hx6 hx7 S3 X3 => ?_)
    obtain ⟨vs, m, n, hvs, hl, rfl, rfl, h0, h1, h2, hPr⟩ := hx6
    obtain ⟨tk, rfl⟩ := hx7
    obtain ⟨tk', rfl⟩ := rw'
    obtain ⟨j, rfl, hj⟩ := getL_some hvs
    refine wpAny_evalPart_none ?_
    obtain ⟨m, rfl⟩ := Int.eq_ofNat_of_zero_le h0
    obtain ⟨n, rfl⟩ := Int.eq_ofNat_of_zero_le (Int.le_trans h0 h1)
    refine slice_tail (s := { s with heap := h3, toks := t3 }) S3 hj ((rv.mono X'.ex).mono X3.ex) hl (.int _ _) (.int _ _) (fun xs q => ⟨(xs.take n).drop m, ?_, (q.take n).drop m⟩) hPr _ fun val s' r => Rt.more X (Rt.more X' (Rt.more X3 r))
    have := q.length
    rw [slicePick_run _ _ _ (by simp only [List.size_toArray]; omega) (by omega), List.drop_take]
  · intro names sl e ht env whole
    refine vPart_el ht fun _ _ _ _ _ ht => ?_
    rfl

/-! ## attributes -/
theorem base_ok {o : Expr} (h : baseOk o = true) (n : Str) (env : Env) (whole : Sem Value) : attributeBase o n env whole = whole := by
  cases o <;> first | (cases h; done) | rfl
theorem In_of (G : Gd c D fad T) {h : Heap} {μ : Mu} {H : AH} (S : St c h μ H) : c.K.In h := fun a o e => S.base a o (G.X a o e)
theorem RV.handed {μ : Mu} {v : V} {x : Value} (r : RV c.B μ v x) : handedIn x = true := by
  cases v
  · cases r; rfl
  · cases r; rfl
  · obtain ⟨t, rfl⟩ := r; rfl
  · obtain ⟨t, rfl⟩ := r; rfl
  · obtain ⟨p, _, rfl⟩ := r; rfl
  · obtain ⟨p, rfl, _⟩ := r; rfl
  · obtain ⟨p, _, rfl, _⟩ := r; rfl

theorem REs.find {μ : Mu} (hn : c.names.Nodup) : ∀ {fs : List (Nat × V)} {es : List DictEntry} {f : Nat} {nm : Str}, REs c μ fs es → c.names[f]? = some nm →
    match lk f fs with
    | some v => ∃ e, es.find? (fun e => e.key.isStr nm) = some e ∧ RV c.B μ v e.val
    | none => es.find? (fun e => e.key.isStr nm) = none ∧ (es.any fun e => e.refKey) = false
  | [], [], _, _, _, _ => ⟨rfl, rfl⟩
  | (g, v) :: fs, e :: es, f, nm, ⟨⟨nm', t, x, a, he, r⟩, rs⟩, hf => by
    subst he
    have ih := REs.find hn rs hf
    unfold lk
    by_cases hg : g = f
    · subst hg
      rw [if_pos rfl]
      rw [hf] at a; cases a
      exact ⟨_, by rw [List.find?_cons_of_pos (by simp [Value.isStr])], r⟩
    · rw [if_neg hg]
      have hne : (Value.str nm' t).isStr nm = false := by
        have : nm' ≠ nm := fun e => by
          subst e
          obtain ⟨h1, e1⟩ := List.getElem?_eq_some_iff.mp a
          obtain ⟨h2, e2⟩ := List.getElem?_eq_some_iff.mp hf
          exact hg ((List.getElem_inj hn).mp (e1.trans e2.symm))
        simpa [Value.isStr] using this
      cases hk : lk f fs with
      | some w =>
        rw [hk] at ih
        obtain ⟨e, h1, h2⟩ := ih
        exact ⟨e, by rw [List.find?_cons_of_neg (by simp [hne])]; exact h1, h2⟩
      | none =>
        rw [hk] at ih
        refine ⟨by rw [List.find?_cons_of_neg (by simp [hne])]; exact ih.1, ?_⟩
        rw [List.any_cons, ih.2]
        rfl
  | [], _ :: _, _, _, x, _ => x.elim
  | _ :: _, [], _, _, x, _ => x.elim

theorem getA_some {v r : V} {f : Nat} {H : AH} (h : getA v f H = some r) : ∃ i k fs, v = .ref i ∧ H[i]? = some (.inst k fs) ∧ lk f fs = some r := by
  unfold getA at h
  cases v <;> try (cases h; done)
  rename_i i
  dsimp only at h
  split at h
  · rename_i e; exact ⟨i, _, _, rfl, e, h⟩
  · cases h

theorem inst_at {h : Heap} {μ : Mu} {H : AH} (S : St c h μ H) {i k : Nat} {fs : List (Nat × V)} {p : Addr × Option Addr} (hi : H[i]? = some (.inst k fs)) (hp : μ[i]? = some p) :
    k < c.nc ∧ ∃ dx es n, p.2 = some dx ∧ W.InstAt h p.1 (instObj (c.cad k) dx) (c.cad k) (some (dictOf es n)) ∧ REs c μ fs es := by
  obtain ⟨hk, dx, es, n, e, g, g', q⟩ := S.obj _ _ _ hi hp
  exact ⟨hk, dx, es, n, e, ⟨g, rfl, rfl, g'⟩, q⟩

theorem attr_sound (G : Gd c D fad T) {A : Around} {s : Shared} {μ : Mu} {H : AH} (S : St c s.heap μ H) {v r : V} {x : Value} {f : Nat} {nm : Str} {Q : Value → Shared → Prop} {ex : Bool}
    (h : getA v f H = some r) (hf : c.names[f]? = some nm) (rv : RV c.B μ v x) (hq : ∀ y t, RV c.B μ r y → Q y { s with toks := t }) : wpAny (model c.prog c.w) A (getAttr x nm ex) Q no s := by
  obtain ⟨i, k, fs, rfl, hi, hk⟩ := getA_some h
  obtain ⟨p, hp, rfl⟩ := rv
  obtain ⟨hkc, dx, es, n, e, I, q⟩ := inst_at S hi hp
  have K := G.cls k hkc
  have hfind := q.find G.nd hf
  rw [hk] at hfind
  obtain ⟨ent, h1, h2⟩ := hfind
  obtain ⟨cd, hcd, hhd⟩ := K.cd
  refine get_value (In_of G S) I K.ga (findObj_own (attr := none) (by unfold hasDictIn; rw [hcd]; exact hhd) (K.fl nm (List.mem_of_getElem? hf)) rfl ?_) h2.handed (hq _ _ h2)
  show lookIn nm (dictOf es n) = _
  unfold lookIn
  simp only [dictOf, h1]

theorem sd_attr (G : Gd c D fad T) {a : X} {f : Nat} (ha : SdX c D T cl d u a) : SdX c D T cl d u (.attr a f) := by
  refine sdT_of ?_ ?_
  · intro A env names sl pls En R e ht s μ H l P S F hv
    refine vAttr_el ht fun x nm pos ht => ?_
    simp only [Bool.and_eq_true, beq_iff_eq] at ht
    rw [arm_eval_Attribute, base_ok ht.1.2]
    refine wpAny_bind (wp_rt (ha.1 A env names sl pls En R x ht.2 s μ H l _ S F hv) fun va v H' μ' h' t' hx6 rv S' X => ?_)
    obtain ⟨r, hg, hP⟩ := hx6
    refine wpAny_bind (wpAny_standAt (wpAny_bind (wpAny_holding (attr_sound G (s := { s with heap := h', toks := t' }) S' hg (by rw [← G.nms]; exact ht.1.1) rv fun y t r => ?_))))
    exact wpAny_bind (wpAny_letTemporaryGo (wpAny_pure ⟨_, H', μ', h', t, rfl, hP, r, S', X⟩))
  · intro names sl e ht env whole
    refine vAttr_el ht fun _ _ _ ht => ?_
    rfl
end Mine
end
section
open PySem PySem.W PySem.Calls PyProof.Rows PySem.SeqAt
namespace Mine
variable {c : Cx} {D : Nm} {fad : Nat → Addr} {T : Tab} {cl : Cl} {d u : Nat}

theorem under_make_room {A : Around} {C : Addr} {vals : List Value} (R : Room (d + 4) (u + 30) A) : Room d u (A.under (.builtin "type.__call__" ⟨.ref C :: vals, []⟩)) := by
  refine ⟨R.1, ?_, ?_⟩
  · have hw : (A.under (.builtin "type.__call__" ⟨.ref C :: vals, []⟩)).depth = A.depth + 1 := by rfl
    have := R.2.1
    omega
  · rw [units_under_make]
    have := R.2.2
    omega

theorem keep_fn {K : Frag} {f : Addr} (h : fnIn K f = true) : keepIn K (.ref f) = true := by
  unfold fnIn at h
  unfold keepIn
  split at h
  · rename_i e; simp only [e]
  · cases h
theorem keep_cls {K : Frag} {C : Addr} (h : makesIn K C = true) : keepIn K (.ref C) = true := by
  unfold makesIn at h
  unfold keepIn
  split at h
  · rename_i e
    simp only [Bool.and_eq_true] at h
    simp only [e]
    exact h.1.2
  · cases h

theorem args_plain {names : Names} {sl : List Str} : ∀ {xs : Xs} {es : List Expr}, trEs D names sl xs es = true → ∀ (pos : Pos) (env : Env), (backTo pos (starEach es env)).any (·.1) = false ∧ (backTo pos (starEach es env)).all (fun x => !x.1) = true
  | .nil, [], _, _, _ => ⟨rfl, rfl⟩
  | .nil, _ :: _, h, _, _ => by simp [trEs] at h
  | .cons _ _, [], h, _, _ => by simp [trEs] at h
  | .cons x xs, e :: es, h, pos, env => by
    simp only [trEs, Bool.and_eq_true] at h
    rw [starEach_cons h.1.1]
    obtain ⟨h1, h2⟩ := args_plain h.2 pos env
    exact ⟨h1, h2⟩

theorem evalArgs_sound {xs : Xs} (hx : SdXs c D T cl d u xs) {A : Around} {env : Env} {names : Names} {sl : List Str} {pls : List Pl} (En : En env names sl pls) (R : Room (d + 4) (u + 30) A) {es : List Expr} (ht : trEs D names sl xs es = true)
    {pos : Pos} {s : Shared} {μ : Mu} {H : AH} {l : Loc} {P : List V → AH → Prop} (S : St c s.heap μ H) (F : Fm c s.heap μ pls l) (hv : vcEs T cl xs l H P) {f : Value} :
    wpAny (model c.prog c.w) A (evalArgs f true (backTo pos (starEach es env)) []) (fun a s' => ∃ vals, a = ⟨vals, []⟩ ∧ RtL c s μ P vals s') no s := by
  cases es with
  | nil =>
    cases xs with
    | nil => exact evalArgs_nil3 ⟨[], rfl, [], H, μ, s.heap, s.toks, rfl, hv, trivial, S, .refl⟩
    | cons _ _ => simp [trEs] at ht
  | cons e es =>
    cases xs with
    | nil => simp [trEs] at ht
    | cons x xs =>
      have h1 : notStar e = true := by simp only [trEs, Bool.and_eq_true] at ht; exact ht.1.1
      have := spliced_sound hx A env names sl pls En R (e :: es) ht pos s μ H l P S F hv
      rw [starEach_cons h1] at this ⊢
      exact evalArgs_plain (wp_go this fun vals s' r => ⟨vals, rfl, r⟩)

/-- a call of a function or a class: its arguments, then the call -/
theorem callWith_sound (G : Gd c D fad T) {xs : Xs} (hx : SdXs c D T cl d u xs) {A : Around} {env : Env} {names : Names} {sl : List Str} {pls : List Pl} (En : En env names sl pls) (R : Room (d + 4) (u + 30) A) {es : List Expr} (ht : trEs D names sl xs es = true)
    {pos : Pos} {s : Shared} {μ : Mu} {H : AH} {l : Loc} {P : List V → AH → Prop} (S : St c s.heap μ H) (F : Fm c s.heap μ pls l) (hv : vcEs T cl xs l H P) {f : Value} {first : List Value} {Q : Value → Shared → Prop} (hk : keepIn c.K f = true)
    (h : ∀ vals s', RtL c s μ P vals s' → wpAny (model c.prog c.w) A (call f (first ++ vals) []) Q no s') :
    wpAny (model c.prog c.w) A (callWith pos f first (backTo pos (starEach es env)) []) Q no s := by
  refine callWith_of (P := c.K.In) (by rw [(args_plain ht pos env).1]; rfl) (keeps_K hk) (wp_go (evalArgs_sound hx En R ht S F hv) fun a s' hr => ?_)
  obtain ⟨vals, rfl, r⟩ := hr
  refine ⟨?_, h vals s' r⟩
  obtain ⟨vs, H', μ', h', t', rfl, hP, rs, S', X⟩ := r
  exact In_of G S'

theorem global_fn (G : Gd c D fad T) {h : Heap} {μ : Mu} {H : AH} (S : St c h μ H) {mg : Str → Option Value} (e : c.B.Ns mainGlobals mg) : h.Ns mainGlobals mg := by
  obtain ⟨o, a, b, ho, r⟩ := e
  exact ⟨o, a, b, S.base _ _ ho, r⟩
theorem plainN_debug {id : Str} (h : plainN id = true) : (id == ("__debug__" : Str)) = false := by
  simp only [plainN, Bool.and_eq_true, Bool.not_eq_true'] at h
  exact h.1

theorem sd_call (G : Gd c D fad T) (C : ClOk c fad cl d u) {g : Nat} {xs : Xs} (hx : SdXs c D T cl d u xs) : SdX c D T cl d u (.call g xs) := by
  refine sdT_of ?_ ?_
  · intro A env names sl pls En R e ht s μ H l P S F hv
    refine vCallN_el ht fun id p es pos ht => ?_
    simp only [Bool.and_eq_true, beq_iff_eq] at ht
    obtain ⟨⟨⟨t1, t2⟩, t3⟩, t4⟩ := ht
    obtain ⟨mg, hmg, hg, _⟩ := G.mg
    refine wpAny_Call_NameR (Name_function_global En.fn ((En.kind id).trans t3) (loadGlobal_global (v := .ref (fad g)) (by rw [En.gl]; exact global_fn G S hmg) (hg g id t1) ?_) (plainN_debug t2))
    refine callWith_sound G hx En R t4 S F hv (keep_fn (G.fns g id t1)) fun vals s' r => ?_
    obtain ⟨vs, H', μ', h', t', rfl, hP, rs, S', X⟩ := r
    refine wpAny_call (codeAny_mono (C g vs H' P hP A (R.less (by omega) (by omega)) _ μ' vals S' rs) fun r s' hr => ?_)
    cases r with
    | error e => exact hr.elim
    | ok fl => cases fl <;> first | exact hr.elim | skip
               exact Rt.more X hr
  · intro names sl e ht env whole
    refine vCallN_el ht fun _ _ _ _ ht => ?_
    rfl

theorem few_ok {names : Names} {sl : List Str} {xs : Xs} {es : List Expr} (ht : trEs D names sl xs es = true) {apos pos : Pos} (hl : lineOk apos pos es.length = true) (env : Env) :
    methodCallForm (es.length + ([] : List Keyword).length) (backTo pos (starEach es env)) (backToKw pos (keywordEach [] env)) = true ∧ (apos.endLine == pos.line) = true := by
  simp only [lineOk, Bool.and_eq_true, decide_eq_true_eq] at hl
  refine ⟨?_, hl.1⟩
  unfold methodCallForm
  rw [(args_plain ht pos env).2]
  show (true && decide (es.length + 0 + 0 < 30)) = true
  simp; omega

theorem clsOf_some {v : V} {k : Nat} {H : AH} (h : clsOf v H = some k) : ∃ i fs, v = .ref i ∧ H[i]? = some (.inst k fs) := by
  unfold clsOf at h
  cases v <;> try (cases h; done)
  rename_i i
  dsimp only at h
  split at h
  · rename_i e; cases h; exact ⟨i, _, rfl, e⟩
  · cases h

theorem sd_meth (G : Gd c D fad T) (C : ClOk c fad cl d u) {a : X} {m : Nat} {xs : Xs} (ha : SdX c D T cl d u a) (hx : SdXs c D T cl d u xs) : SdX c D T cl d u (.meth a m xs) := by
  refine sdT_of ?_ ?_
  · intro A env names sl pls En R e ht s μ H l P S F hv
    refine vCallA_el ht fun o n apos es pos ht => ?_
    simp only [Bool.and_eq_true, beq_iff_eq] at ht
    obtain ⟨⟨⟨⟨t1, t2⟩, t3⟩, t4⟩, t5⟩ := ht
    obtain ⟨f1, f2⟩ := few_ok t5 t3 env
    rw [arm_eval_Call, base_ok t2]
    refine wpAny_bind (wp_rt (ha.1 A env names sl pls En R o t4 s μ H l _ S F hv) fun va v H' μ' h' t' hx6 rv S' X => ?_)
    obtain ⟨k, g, hk, hg, hP⟩ := hx6
    refine wpAny_bind (wpAny_standAt ?_)
    unfold methodCall
    rw [f1]
    obtain ⟨i, fs, rfl, hi⟩ := clsOf_some hk
    obtain ⟨p, hp, rfl⟩ := id rv
    obtain ⟨hkc, dx, des, nn, e, I, q⟩ := inst_at S' hi hp
    obtain ⟨m1, m2, m3, m4⟩ := G.meth k m g n hkc hg t1
    have K := G.cls k hkc
    refine wpAny_bind (wpAny_holding ?_)
    show wpAny (model c.prog c.w) A (getMethod _ _ _) _ _ _
    refine method_fn (In_of G S') I K.ga K.gt m1 (eq_of_beq m2) ?_ ?_
    · show (lookIn n (dictOf des nn)).map _ = _
      have : des.find? (fun e => e.key.isStr n) = none ∧ (des.any fun e => e.refKey) = false := by
        clear hi I
        induction fs generalizing des with
        | nil => cases des with
          | nil => exact ⟨rfl, rfl⟩
          | cons _ _ => exact q.elim
        | cons x fs ih =>
          cases des with
          | nil => exact q.elim
          | cons e des =>
            obtain ⟨⟨nm', tk, y, h1, rfl, h2⟩, q⟩ := q
            obtain ⟨i1, i2⟩ := ih des q
            have hne : (Value.str nm' tk).isStr n = false := by
              have : nm' ≠ n := fun e => m4 (e ▸ List.mem_of_getElem? h1)
              simpa [Value.isStr] using this
            refine ⟨by rw [List.find?_cons_of_neg (by simp [hne])]; exact i1, ?_⟩
            rw [List.any_cons, i2]; rfl
      unfold lookIn
      simp only [this.1, this.2]
      rfl
    · have : methodCallPos true o env apos pos = pure pos := by
        unfold methodCallPos
        rw [f2]; rfl
      refine wpAny_bind ?_
      rw [this]
      refine wpAny_pure ?_
      refine callWith_sound G (first := [.ref p.1]) (s := { s with heap := h', toks := t' }) hx En R t5 S' (F.ext X) hP (keep_fn m3) fun vals s' r => ?_
      obtain ⟨vs, H'', μ'', h'', t'', rfl, hP, rs, S'', X'⟩ := r
      refine wpAny_call (codeAny_mono (C g (.ref i :: vs) H'' P hP A (R.less (by omega) (by omega)) _ μ'' (.ref p.1 :: vals) S'' ⟨rv.mono X'.ex, rs⟩) fun r s' hr => ?_)
      cases r with
      | error e => exact hr.elim
      | ok fl => cases fl <;> first | exact hr.elim | skip
                 exact Rt.more X (Rt.more X' hr)
  · intro names sl e ht env whole
    refine vCallA_el ht fun _ _ _ _ _ ht => ?_
    rfl
end Mine
end
section
open PySem PySem.W PySem.Calls PyProof.Rows PySem.SeqAt
namespace Mine
variable {c : Cx} {D : Nm} {fad : Nat → Addr} {T : Tab} {cl : Cl} {d u : Nat}

theorem sd_new (G : Gd c D fad T) (C : ClOk c fad cl d u) {g : Nat} {xs : Xs} (hx : SdXs c D T cl d u xs) : SdX c D T cl d u (.new g xs) := by
  refine sdT_of ?_ ?_
  · intro A env names sl pls En R e ht s μ H l P S F hv
    refine vCallN_el ht fun id p es pos ht => ?_
    simp only [Bool.and_eq_true, beq_iff_eq] at ht
    obtain ⟨⟨⟨t1, t2⟩, t3⟩, t4⟩ := ht
    obtain ⟨mg, hmg, _, hg, _⟩ := G.mg
    have K := G.cls g (G.cn g id t1)
    refine wpAny_Call_NameR (Name_function_global En.fn ((En.kind id).trans t3) (loadGlobal_global (v := .ref (c.cad g)) (by rw [En.gl]; exact global_fn G S hmg) (hg g id t1) ?_) (plainN_debug t2))
    refine callWith_sound G hx En R t4 S F hv (keep_cls K.mak) fun vals s' r => ?_
    obtain ⟨vs, H', μ', h', t', rfl, ⟨f, hf, hcl⟩, rs, S', X⟩ := r
    obtain ⟨i1, i2⟩ := G.init g f hf
    obtain ⟨S2, X2⟩ := S'.push (h' := (h'.push emptyDict).push (instObj (c.cad g) h'.objs.size)) (p := (h'.objs.size + 1, some h'.objs.size)) (o := .inst g [])
      (fun _ _ e => Heap.get?_push_of_some _ (Heap.get?_push_of_some _ e)) 
      (fun a ha => by
        have ha : a = h'.objs.size + 1 ∨ a = h'.objs.size := by simpa [feet] using ha
        rcases ha with rfl | rfl
        · exact Nat.le_succ _
        · exact Nat.le_refl _) (by simp [feet])
      ⟨G.cn g id t1, h'.objs.size, [], 0, rfl, by
        have := Heap.get?_push_size (h'.push emptyDict) (o := instObj (c.cad g) h'.objs.size) rfl
        rwa [Heap.size_push] at this, Heap.get?_push_of_some _ (Heap.get?_push_size _ rfl), trivial⟩
    refine wpAny_call (make_core (makes_of (In_of G S') K.mak) (looks_findIn (In_of G S') i1) (fun self => bind_fn (In_of G S') self (eq_of_beq i2)) (.inl rfl) ?_)
    refine codeAny_mono (C f (.ref H'.length :: vs) _ _ hcl _ (under_make_room R) _ _ (.ref (h'.objs.size + 1) :: vals) S2 ⟨RV.last S'.len, rs.mono X2.ex⟩) fun r s' hr => ?_
    cases r with
    | error e => exact hr.elim
    | ok fl =>
      cases fl <;> first | exact hr.elim | skip
      obtain ⟨v, H3, μ3, h3, t3, rfl, ⟨rfl, hP⟩, rv, S3, X3⟩ := hr
      exact ⟨rv, _, H3, μ3, h3, t3, rfl, hP, (RV.last S'.len).mono X3.ex, S3, X.trans (X2.trans X3)⟩
  · intro names sl e ht env whole
    refine vCallN_el ht fun _ _ _ _ ht => ?_
    rfl

theorem builtin_name (G : Gd c D fad T) {A : Around} {env : Env} {names : Names} {sl : List Str} {pls : List Pl} (En : En env names sl pls) {s : Shared} {μ : Mu} {H : AH} (S : St c s.heap μ H) {id : Str} {v : Value} {p : Pos} {Q : Value → Shared → Prop}
    (hk : names.lookup id = some .globalImplicit) (h : (id = ("len" : Str) ∧ v = .builtin "len") ∨ (id = ("list" : Str) ∧ v = .type "list") ∨ (id = ("range" : Str) ∧ v = .type "range")) (hq : Q v s) :
    wpAny (model c.prog c.w) A (eval (.Name id p) env) Q no s := by
  obtain ⟨mg, hmg, _, _, g1, g2, g3⟩ := G.mg
  obtain ⟨mb, hmb, b1, b2, b3⟩ := G.mb
  have hmg' : s.heap.Ns env.globals mg := by rw [En.gl]; exact global_fn G S hmg
  have hmb' : s.heap.Ns env.builtins mb := by
    rw [En.bl]
    obtain ⟨o, a, b, ho, r⟩ := hmb
    exact ⟨o, a, b, S.base _ _ ho, r⟩
  rcases h with ⟨rfl, rfl⟩ | ⟨rfl, rfl⟩ | ⟨rfl, rfl⟩
  · exact Name_function_global En.fn ((En.kind _).trans hk) (loadGlobal_builtin hmg' g1 hmb' b1 hq)
  · exact Name_function_global En.fn ((En.kind _).trans hk) (loadGlobal_builtin hmg' g2 hmb' b2 hq)
  · exact Name_function_global En.fn ((En.kind _).trans hk) (loadGlobal_builtin hmg' g3 hmb' b3 hq)

theorem star1 {e : Expr} (h : notStar e = true) (pos : Pos) (env : Env) : backTo pos (starEach [e] env) = [(false, eval e env)] := by
  rw [starEach_cons h]; rfl
theorem star2 {e e' : Expr} (h : notStar e = true) (h' : notStar e' = true) (pos : Pos) (env : Env) : backTo pos (starEach [e, e'] env) = [(false, eval e env), (false, eval e' env)] := by
  rw [starEach_cons h, starEach_cons h']; rfl

theorem sd_len (G : Gd c D fad T) {a : X} (ha : SdX c D T cl d u a) : SdX c D T cl d u (.len a) := by
  refine sdT_of ?_ ?_
  · intro A env names sl pls En R e ht s μ H l P S F hv
    refine vCallN1_el ht fun id p x pos ht => ?_
    simp only [Bool.and_eq_true, beq_iff_eq] at ht
    obtain ⟨⟨⟨t1, t2⟩, t3⟩, t4⟩ := ht
    refine wpAny_Call_NameR (builtin_name G En S t2 (.inl ⟨t1, rfl⟩) ?_)
    rw [star1 t3]
    refine callWith_builtin1 (wp_rt (ha.1 A env names sl pls En R x t4 s μ H l _ S F hv) fun va v H' μ' h' t' hx6 rv S' X => ?_)
    obtain ⟨vs, hvs, hl, hP⟩ := hx6
    obtain ⟨pa, xs, n, rfl, q, hj⟩ := items_at S' rv hvs
    have h63 : (lid : Int) < 2 ^ 63 := lid_small
    have := q.length
    rcases hj with g | g
    · refine call_len_list (s := { s with heap := h', toks := t' }) (items := xs.toArray) g (by simp only [List.size_toArray]; omega) ⟨.int vs.length, H', μ', h', _, rfl, hP, ?_, S', X⟩
      exact ⟨_, by rw [List.size_toArray, this]⟩
    · refine PySem.P.len_tuple (s := { s with heap := h', toks := t' }) (items := xs.toArray) (n := n) g (by simp only [List.size_toArray]; omega) ⟨.int vs.length, H', μ', h', _, rfl, hP, ?_, S', X⟩
      exact ⟨_, by rw [List.size_toArray, this]⟩
  · intro names sl e ht env whole
    refine vCallN1_el ht fun _ _ _ _ ht => ?_
    rfl

theorem sd_mkl (G : Gd c D fad T) {a : X} (ha : SdX c D T cl d u a) : SdX c D T cl d u (.mkl a) := by
  refine sdT_of ?_ ?_
  · intro A env names sl pls En R e ht s μ H l P S F hv
    refine vCallN1_el ht fun id p x pos ht => ?_
    simp only [Bool.and_eq_true, beq_iff_eq] at ht
    obtain ⟨⟨⟨t1, t2⟩, t3⟩, t4⟩ := ht
    refine wpAny_Call_NameR (builtin_name G En S t2 (.inr (.inl ⟨t1, rfl⟩)) ?_)
    rw [star1 t3]
    refine callWith_excType rfl (evalArgs_plain (spliced_cons (wp_go (ha.1 A env names sl pls En R x t4 s μ H l _ S F hv) fun va s' hr => spliced_nil ?_)))
    obtain ⟨v, H', μ', h', t', rfl, ⟨rfl, hP⟩, ⟨b, rfl, o, hb, hc, n, hd⟩, S', X⟩ := hr
    refine call_list_seq b (s := { s with heap := h', toks := t' }) (.inr rfl) (S'.base _ _ hb) hc hd (fun h'' c' hk hg => ?_) (by simp)
    obtain ⟨S'', X'⟩ := S'.push (h' := h'') (p := (h'.objs.size, none)) (o := .list []) hk (fun a ha => by
      have ha : a = h'.objs.size := by simpa [feet] using ha
      exact Nat.le_of_eq ha.symm) (by simp [feet]) ⟨rfl, [], c', hg, trivial⟩
    exact ⟨_, _, _, h'', t', rfl, hP, RV.last S'.len, S'', X.trans X'⟩
  · intro names sl e ht env whole
    refine vCallN1_el ht fun _ _ _ _ ht => ?_
    rfl

theorem sd_dnil : SdX c D T cl d u .dnil := by
  refine sdT_of ?_ ?_
  · intro A env names sl pls En R e ht s μ H l P S F hv
    refine vDnil_el ht fun pos ht => ?_
    refine wpAny_Dict_empty ?_

    obtain ⟨S', X⟩ := S.push (h' := s.heap.push { cls := .type "dict", data := .dict #[] }) (p := (s.heap.objs.size, none)) (o := .dict []) (fun _ _ e => Heap.get?_push_of_some _ e) (fun a ha => by
      have ha : a = s.heap.objs.size := by simpa [feet] using ha
      exact Nat.le_of_eq ha.symm) (by simp [feet])
      ⟨rfl, [], Heap.DictOf.new _, trivial⟩
    exact ⟨_, _, _, _, s.toks, rfl, hv, RV.last S.len, S', X⟩
  · intro names sl e ht env whole
    refine vDnil_el ht fun _ ht => ?_
    rfl
end Mine
end
section
open PySem PySem.W PySem.Calls PyProof.Rows PySem.SeqAt
namespace Mine
variable {c : Cx} {D : Nm} {fad : Nat → Addr} {T : Tab} {cl : Cl} {d u : Nat}

theorem St.turnList {h : Heap} {μ : Mu} {H : AH} (S : St c h μ H) {i : Nat} {p : Addr × Option Addr} {us : List V} {xs ys : List Value} {n : Nat} (hp : μ[i]? = some p) (hn : p.2 = none)
    (g : IsL h p.1 xs.toArray n) (f : Array Value → Array Value) (hf : f xs.toArray = ys.toArray) (r : RVs c.B μ us ys) :
    St c (h.update p.1 (Obj.mapSeq f)) μ (H.set i (.list us)) ∧ Ext [] μ h μ (h.update p.1 (Obj.mapSeq f)) :=
  S.set hp (a := p.1) (List.mem_cons_self) (fun b x hb e => Heap.get?_update_of_ne _ (fun z => hb z.symm) e)
    ⟨hn, ys, _, by have := IsL.update g f; rw [hf] at this; exact this, r⟩

/-- a method of a list -/
theorem list_method {A : Around} {env : Env} {names : Names} {sl : List Str} {pls : List Pl} (En : En env names sl pls) (R : Room (d + 4) (u + 30) A) {a : X} (ha : SdX c D T cl d u a) {o : Expr} (ht : trE D names sl a o = true) {n : Str} {id : String} {apos pos : Pos} {es : List Expr} {k : Nat}
    (slot : Slot "list" n id) (hty : typeOf (.builtin id) = pure (.type "method_descriptor")) (hb : baseOk o = true) (hl : lineOk apos pos k = true) (hk : k = es.length) (hall : ∀ e ∈ es, notStar e = true)
    {s : Shared} {μ : Mu} {H : AH} {l : Loc} {P : V → AH → Prop} (S : St c s.heap μ H) (F : Fm c s.heap μ pls l) (hP : ∀ v H, P v H → (getL v H).isSome = true) (hv : vcE T cl a l H P) {Q : Value → Shared → Prop}
    (h : ∀ i p H' μ' h' t' vs xs n, P (.ref i) H' → St c h' μ' H' → Ext [] μ s.heap μ' h' → μ'[i]? = some p → H'[i]? = some (.list vs) → p.2 = none → IsL h' p.1 xs.toArray n → RVs c.B μ' vs xs →
      wpAny (model c.prog c.w) A (callWith pos (.builtin id) [.ref p.1] (backTo pos (starEach es env)) []) Q no { s with heap := h', toks := t' }) :
    wpAny (model c.prog c.w) A (eval (.Call (.Attribute o n apos) es [] pos) env) Q no s := by
  have hs : ∀ es : List Expr, (∀ e ∈ es, notStar e = true) → (backTo pos (starEach es env)).all (fun x => !x.1) = true := by
    intro es
    induction es with
    | nil => exact fun _ => rfl
    | cons e es ih => exact fun h => by rw [starEach_cons (h e (List.mem_cons_self))]; exact ih fun e' h' => h e' (List.mem_cons_of_mem _ h')
  simp only [lineOk, Bool.and_eq_true, decide_eq_true_eq] at hl
  refine wpAny_Call_method (base_ok hb _ _ _) ?_ hl.1 PySem.F.plainAttrs_list slot hty (wp_go (ha.1 A env names sl pls En R o ht s μ H l _ S F hv) fun va s' hr => ?_)
  · rw [hs es hall]
    show (true && true && decide (es.length + 0 + 0 < 30)) = true
    have := hl.2
    simp; omega
  · obtain ⟨v, H', μ', h', t', rfl, hPv, rv, S', X⟩ := hr
    obtain ⟨vs, hvs⟩ := Option.isSome_iff_exists.mp (hP _ _ hPv)
    obtain ⟨i, rfl, hi⟩ := getL_some hvs
    obtain ⟨p, hp, rfl⟩ := rv
    obtain ⟨hn, xs, n, g, q⟩ := S'.obj _ _ _ hi hp
    exact ⟨⟨_, g, rfl⟩, fun a ea => by cases ea; exact ⟨_, g, rfl⟩, h i p H' μ' h' t' vs xs n hPv S' X hp hi hn g q⟩

theorem at_list {h : Heap} {μ : Mu} {H : AH} (S : St c h μ H) {i : Nat} {b : Addr} {vs : List V} (rv : RV c.B μ (.ref i) (.ref b)) (hi : H[i]? = some (.list vs)) :
    ∃ p xs n, b = p.1 ∧ μ[i]? = some p ∧ p.2 = none ∧ IsL h p.1 xs.toArray n ∧ RVs c.B μ vs xs := by
  obtain ⟨p, hp, e⟩ := rv
  injection e with e
  obtain ⟨hn, xs, n, g, q⟩ := S.obj _ _ _ hi hp
  exact ⟨p, xs, n, e, hp, hn, g, q⟩

theorem sd_app {a x : X} (ha : SdX c D T cl d u a) (hx : SdX c D T cl d u x) : SdX c D T cl d u (.app a x) := by
  refine sdT_of ?_ ?_
  · intro A env names sl pls En R e ht s μ H l P S F hv
    refine vCallA1_el ht fun o n apos e pos ht => ?_
    simp only [Bool.and_eq_true, beq_iff_eq] at ht
    obtain ⟨⟨⟨⟨⟨rfl, t1⟩, t2⟩, t3⟩, t4⟩, t5⟩ := ht
    refine list_method En R ha t4 PySem.F.slot_list_append PySem.F.type_list_append t1 t2 rfl (by simpa using t3) S F (fun v H h => h.1) hv fun i p H' μ' h' t' vs xs n hP S' X hp hi hn g q => ?_
    rw [star1 t3]
    refine _root_.PySem.P.append_list (wp_rt (hx.1 A env names sl pls En R e t5 _ μ' H' l _ S' (F.ext X) hP.2) fun vb w H'' μ'' h'' t'' hx6 rw' S'' X' => ?_)
    obtain ⟨j, us, e1, hj, hl, hP⟩ := hx6
    cases e1
    obtain ⟨p', ys, m, e2, hp', hn', g', q'⟩ := at_list S'' (RV.mono X'.ex (v := .ref i) ⟨p, hp, rfl⟩) hj
    rw [e2]
    refine ⟨ys.toArray, m, by simp only [List.size_toArray, q'.length]; exact Nat.le_trans hl lid_le, g', ?_⟩
    obtain ⟨S3, X3⟩ := S''.turnList (us := us ++ [w]) (ys := ys ++ [vb]) hp' hn' g' (fun xs => xs.push vb) (by simp) (q'.append ⟨rw', trivial⟩)
    exact ⟨.none, _, μ'', _, t'', rfl, hP, rfl, S3, X.trans (X'.trans X3)⟩
  · intro names sl e ht env whole
    refine vCallA1_el ht fun _ _ _ _ _ ht => ?_
    rfl

theorem sd_pop {a : X} (ha : SdX c D T cl d u a) : SdX c D T cl d u (.pop a) := by
  refine sdT_of ?_ ?_
  · intro A env names sl pls En R e ht s μ H l P S F hv
    refine vCallA0_el ht fun o n apos pos ht => ?_
    simp only [Bool.and_eq_true, beq_iff_eq] at ht
    obtain ⟨⟨⟨rfl, t1⟩, t2⟩, t4⟩ := ht
    refine list_method (es := []) En R ha t4 PySem.F.slot_list_pop PySem.F.type_list_pop t1 t2 rfl (by simp) S F (fun v H h => by obtain ⟨i, vs, u, rfl, h1, _⟩ := h; simp [getL, h1]) hv fun i p H' μ' h' t' vs xs n hP S' X hp hi hn g q => ?_
    obtain ⟨j, us, z, e1, hj, hl, hP⟩ := hP
    cases e1
    rw [hi] at hj; cases hj
    obtain ⟨ys, y, rfl, q1, q2⟩ := q.snoc
    have hlen := q1.length
    refine _root_.PySem.P.pop_list (s := { s with heap := h', toks := t' }) (y := y) g (by simp) ?_ (by simp only [List.size_toArray, List.length_append, List.length_cons, List.length_nil, hlen]; have := lid_le; rw [sizeLine_eq] at *; unfold lid at *; omega)
    obtain ⟨S3, X3⟩ := S'.turnList (us := us) (ys := ys) hp hn g (fun xs' => xs'.eraseIdxIfInBounds ((ys ++ [y]).toArray.size - 1)) (by simp [List.eraseIdx_append_of_length_le]) q1
    exact ⟨z, _, μ', _, t', rfl, hP, q2, S3, X.trans X3⟩
  · intro names sl e ht env whole
    refine vCallA0_el ht fun _ _ _ _ ht => ?_
    rfl

theorem sd_index {a x : X} (ha : SdX c D T cl d u a) (hx : SdX c D T cl d u x) : SdX c D T cl d u (.index a x) := by
  refine sdT_of ?_ ?_
  · intro A env names sl pls En R e ht s μ H l P S F hv
    refine vCallA1_el ht fun o n apos e pos ht => ?_
    simp only [Bool.and_eq_true, beq_iff_eq] at ht
    obtain ⟨⟨⟨⟨⟨rfl, t1⟩, t2⟩, t3⟩, t4⟩, t5⟩ := ht
    refine list_method En R ha t4 PySem.F.slot_list_index PySem.F.type_list_index t1 t2 rfl (by simpa using t3) S F (fun v H h => h.1) hv fun i p H' μ' h' t' vs xs n hP S' X hp hi hn g q => ?_
    rw [star1 t3]
    refine _root_.PySem.P.index_list (wp_rt (hx.1 A env names sl pls En R e t5 _ μ' H' l _ S' (F.ext X) hP.2) fun vb w H'' μ'' h'' t'' hx6 hx7 S'' X' => ?_)
    obtain ⟨us, k, j, hu, rfl, hl, hall, hidx, hlt, hP⟩ := hx6
    obtain ⟨tk, rfl⟩ := hx7
    obtain ⟨i', e1, hj⟩ := getL_some hu
    cases e1
    obtain ⟨p', ys, m, e2, hp', hn', g', q'⟩ := at_list S'' (RV.mono X'.ex (v := .ref i) ⟨p, hp, rfl⟩) hj
    rw [e2]
    have hlen := q'.length
    -- every item is an int
    have hint : ∀ (m : Nat) (hm : m < us.length), ∃ z t, us[m] = .int z ∧ ys[m]'(by rw [hlen]; exact hm) = .int z t := fun m hm => by
      obtain ⟨y, hy, ry⟩ := q'.get (List.getElem?_eq_getElem hm)
      obtain ⟨z, hz⟩ := hall us[m] (List.getElem_mem hm)
      rw [hz] at ry
      obtain ⟨t, rfl⟩ := ry
      exact ⟨z, t, hz, by rw [List.getElem?_eq_getElem (by rw [hlen]; exact hm)] at hy; exact Option.some.inj hy⟩
    have hk : us[j] = .int k := by subst hidx; exact List.getElem_idxOf hlt
    refine ⟨ys.toArray, m, ceq (.int k tk), j, by simp [hlen, hlt], g', fun y hy => ?_, by unfold lid at hl; omega, ?_, fun m hm hmj => ?_, ?_⟩
    · obtain ⟨m, hm, rfl⟩ := List.getElem_of_mem (by simpa using hy)
      obtain ⟨z, t, h1, h2⟩ := hint m (by rw [← hlen]; exact hm)
      rw [h2]
      exact MeetsSeq.EqGives.int _ _ _ _
    · obtain ⟨z, t, h1, h2⟩ := hint j hlt
      rw [h1] at hk; cases hk
      simp only [List.getElem_toArray, h2]
      show (k == k) = true
      simp
    · have hm' : m < us.length := by rw [← hlen]; simpa using hm
      obtain ⟨z, t, h1, h2⟩ := hint m hm'
      simp only [List.getElem_toArray, h2]
      show (z == k) = false
      have : us[m] ≠ .int k := by
        subst hidx
        have := List.not_of_lt_findIdx (p := (· == V.int k)) (xs := us) (i := m) (by simpa [List.idxOf] using hmj)
        simpa using this
      rw [h1] at this
      simpa using this
    · exact ⟨.int j, H'', μ'', h'', _, rfl, hP, ⟨_, rfl⟩, S'', X.trans X'⟩
  · intro names sl e ht env whole
    refine vCallA1_el ht fun _ _ _ _ _ ht => ?_
    rfl

theorem sd_ext {a x : X} (ha : SdX c D T cl d u a) (hx : SdX c D T cl d u x) : SdX c D T cl d u (.ext a x) := by
  refine sdT_of ?_ ?_
  · intro A env names sl pls En R e ht s μ H l P S F hv
    refine vCallA1_el ht fun o n apos e pos ht => ?_
    simp only [Bool.and_eq_true, beq_iff_eq] at ht
    obtain ⟨⟨⟨⟨⟨rfl, t1⟩, t2⟩, t3⟩, t4⟩, t5⟩ := ht
    refine list_method En R ha t4 PySem.F.slot_list_extend PySem.F.type_list_extend t1 t2 rfl (by simpa using t3) S F (fun v H h => h.1) hv fun i p H' μ' h' t' vs xs n hP S' X hp hi hn g q => ?_
    rw [star1 t3]
    refine _root_.PySem.P.extend_list (wp_rt (hx.1 A env names sl pls En R e t5 _ μ' H' l _ S' (F.ext X) hP.2) fun vb w H'' μ'' h'' t'' hx6 rw' S'' X' => ?_)
    obtain ⟨j, us, zs, e1, hj, hz, hne, hl, hP⟩ := hx6
    cases e1
    obtain ⟨p', ys, m, e2, hp', hn', g', q'⟩ := at_list S'' (RV.mono X'.ex (v := .ref i) ⟨p, hp, rfl⟩) hj
    obtain ⟨j', rfl, hj'⟩ := getL_some hz
    obtain ⟨p2, hp2, rfl⟩ := id rw'
    obtain ⟨p3, ys2, m2, e3, hp3, hn3, g3, q3⟩ := at_list S'' rw' hj'
    rw [e2]
    have h1 := q'.length
    have h2 := q3.length
    have hl' := lid_le
    refine ⟨p2.1, ys.toArray, ys2.toArray, m, m2, by simp only [List.size_toArray]; omega, by simp only [List.size_toArray]; omega, ?_, rfl, g', by rw [e3]; exact g3, ?_⟩
    · have : Builtin.List.listTooLong (ys.toArray.size + ys2.toArray.size) = false := by
        simp only [List.size_toArray, h1, h2]
        simp only [Builtin.List.listTooLong]
        exact decide_eq_false (by omega)
      rw [this]; simp
    · obtain ⟨S3, X3⟩ := S''.turnList (us := us ++ zs) (ys := ys ++ ys2) hp' hn' g' (fun xs => xs ++ ys2.toArray) (by simp) (q'.append q3)
      exact ⟨.none, _, μ'', _, t'', rfl, hP, rfl, S3, X.trans (X'.trans X3)⟩
  · intro names sl e ht env whole
    refine vCallA1_el ht fun _ _ _ _ _ ht => ?_
    rfl

theorem ins_call {prog : Program} {w : World} {A : Around} {s : Shared} {l : Addr} {ys : Array Value} {m : Nat} {k : Int} {tk : Tok} {vc : Value} {Q : Value → Shared → Prop} (g : IsL s.heap l ys m) (h0 : 0 ≤ k) (hc0 : ¬((!Builtin.List.listFitsIndex k) = true)) (hs0 : ys.size ≤ sizeLine)
    (hq : Q .none { s with heap := s.heap.update l (Obj.mapSeq fun xs => (xs.extract 0 (min k.toNat xs.size)).push vc ++ xs.extract (min k.toNat xs.size)) }) : wpAny (model prog w) A (call (.builtin "list.insert") [.ref l, .int k tk, vc]) Q no s := by
  refine call_meets PySem.F.slot_list_insert ⟨_, g, rfl⟩ PySem.F.entry_list_insert (PySem.F.args_list_insert_3 _ _ _) (AutoSeq1.list_insert_list_int_val_1 l ys m k tk vc hc0 hs0) ⟨g, ?_⟩
  have : ¬ (k < 0) := by omega
  simp only [this, if_false]
  exact hq

theorem sd_ins {a i x : X} (ha : SdX c D T cl d u a) (hi : SdX c D T cl d u i) (hx : SdX c D T cl d u x) : SdX c D T cl d u (.ins a i x) := by
  refine sdT_of ?_ ?_
  · intro A env names sl pls En R e ht s μ H l P S F hv
    refine vCallA2_el ht fun o n apos e1 e2 pos ht => ?_
    simp only [Bool.and_eq_true, beq_iff_eq] at ht
    obtain ⟨⟨⟨⟨⟨⟨⟨rfl, t1⟩, t2⟩, t3⟩, t4⟩, t5⟩, t6⟩, t7⟩ := ht
    refine list_method En R ha t5 PySem.F.slot_list_insert PySem.F.type_list_insert t1 t2 rfl (by simp [t3, t4]) S F (fun v H h => h.1) hv fun i p H' μ' h' t' vs xs n hP S' X hp hii hn g q => ?_
    rw [star2 t3 t4]
    refine callWith_builtin rfl (evalArgs_plain (spliced_cons (wp_rt (hi.1 A env names sl pls En R e1 t6 _ μ' H' l _ S' (F.ext X) hP.2) fun vb w H'' μ'' h'' t'' hP rw' S'' X' => ?_)))
    refine spliced_cons (wp_go (hx.1 A env names sl pls En R e2 t7 _ μ'' H'' l _ S'' ((F.ext X).ext X') hP) fun vc s' hr => spliced_nil ?_)
    obtain ⟨w2, H3, μ3, h3, t3, rfl, ⟨j, us, k, e1, hj, hl, rfl, h0, h1, hP⟩, rw2, S3, X3⟩ := hr
    cases e1
    obtain ⟨tk, rfl⟩ := rw'
    obtain ⟨p', ys, m, e2, hp', hn', g', q'⟩ := at_list S3 (RV.mono X3.ex (RV.mono X'.ex (v := .ref i) ⟨p, hp, rfl⟩)) hj
    have hlen := q'.length
    obtain ⟨k, rfl⟩ := Int.eq_ofNat_of_zero_le h0
    rw [e2]
    have hfit : Builtin.List.listFitsIndex (k : Int) = true := by
      unfold Builtin.List.listFitsIndex
      unfold lid at hl
      simp only [Bool.and_eq_true, decide_eq_true_eq]
      omega
    have hc0 : ¬((!Builtin.List.listFitsIndex (k : Int)) = true) := by rw [hfit]; simp
    have hs0 : ys.toArray.size ≤ sizeLine := by rw [List.size_toArray, hlen]; exact Nat.le_trans hl lid_le
    refine ins_call (s := { s with heap := h3, toks := t3 }) g' h0 hc0 hs0 ?_
    obtain ⟨S4, X4⟩ := S3.turnList (us := us.take k ++ w2 :: us.drop k) (ys := ys.take k ++ vc :: ys.drop k) hp' hn' g' (fun xs => (xs.extract 0 (min ((k : Int)).toNat xs.size)).push vc ++ xs.extract (min ((k : Int)).toNat xs.size)) (by
      have : min k ys.length = k := by omega
      simp [this, List.extract_eq_take_drop, List.take_of_length_le]) ((q'.take k).append (⟨rw2, q'.drop k⟩ : RVs c.B μ3 (w2 :: us.drop k) (vc :: ys.drop k)))
    exact ⟨.none, _, μ3, _, t3, rfl, hP, rfl, S4, X.trans (X'.trans (X3.trans X4))⟩
  · intro names sl e ht env whole
    refine vCallA2_el ht fun _ _ _ _ _ _ ht => ?_
    rfl

theorem any_method {A : Around} {env : Env} {names : Names} {sl : List Str} {pls : List Pl} (En : En env names sl pls) (R : Room (d + 4) (u + 30) A) {a : X} (ha : SdX c D T cl d u a) {o : Expr} (ht : trE D names sl a o = true) {n : Str} {Ty id : String} {apos pos : Pos} {es : List Expr} {k : Nat}
    (pa : PlainAttrs Ty) (slot : Slot Ty n id) (hty : typeOf (.builtin id) = pure (.type "method_descriptor")) (hb : baseOk o = true) (hl : lineOk apos pos k = true) (hk : k = es.length) (hall : ∀ e ∈ es, notStar e = true)
    {s : Shared} {μ : Mu} {H : AH} {l : Loc} {P : V → AH → Prop} (S : St c s.heap μ H) (F : Fm c s.heap μ pls l) (hv : vcE T cl a l H P) {Q : Value → Shared → Prop}
    (h : ∀ v x H' μ' h' t', P v H' → RV c.B μ' v x → St c h' μ' H' → Ext [] μ s.heap μ' h' → Shared.TypeIs { s with heap := h', toks := t' } x Ty ∧ (∀ (a : Addr), x = .ref a → ∃ ob, h'.get? a = some ob ∧ ob.dict = none) ∧
      wpAny (model c.prog c.w) A (callWith pos (.builtin id) [x] (backTo pos (starEach es env)) []) Q no { s with heap := h', toks := t' }) :
    wpAny (model c.prog c.w) A (eval (.Call (.Attribute o n apos) es [] pos) env) Q no s := by
  have hs : ∀ es : List Expr, (∀ e ∈ es, notStar e = true) → (backTo pos (starEach es env)).all (fun x => !x.1) = true := by
    intro es
    induction es with
    | nil => exact fun _ => rfl
    | cons e es ih => exact fun h => by rw [starEach_cons (h e (List.mem_cons_self))]; exact ih fun e' h' => h e' (List.mem_cons_of_mem _ h')
  simp only [lineOk, Bool.and_eq_true, decide_eq_true_eq] at hl
  refine wpAny_Call_method (base_ok hb _ _ _) ?_ hl.1 pa slot hty (wp_go (ha.1 A env names sl pls En R o ht s μ H l _ S F hv) fun va s' hr => ?_)
  · rw [hs es hall]
    show (true && true && decide (es.length + 0 + 0 < 30)) = true
    have := hl.2
    simp; omega
  · obtain ⟨v, H', μ', h', t', rfl, hPv, rv, S', X⟩ := hr
    exact h v va H' μ' h' t' hPv rv S' X

theorem isDict_some {v : V} {H : AH} {kvs : List (Int × V)} (h : isDict v H = some kvs) : ∃ i, v = .ref i ∧ H[i]? = some (.dict kvs) := by
  unfold isDict at h
  cases v <;> try (cases h; done)
  rename_i i
  dsimp only at h
  split at h
  · rename_i e; cases h; exact ⟨i, rfl, e⟩
  · cases h

theorem sys_ne (G : Gd c D fad T) {h : Heap} {μ : Mu} {H : AH} (S : St c h μ H) {i : Nat} {p : Addr × Option Addr} (hp : μ[i]? = some p) : (p.1 == sysModules) = false := by
  have := (S.low p.1 (mem_foot hp (List.mem_cons_self))).1
  obtain ⟨o, hb⟩ := G.big
  exact beq_eq_false_iff_ne.mpr fun e => by rw [e, hb] at this; cases this

theorem sd_dget (G : Gd c D fad T) {a i x : X} (ha : SdX c D T cl d u a) (hi : SdX c D T cl d u i) (hx : SdX c D T cl d u x) : SdX c D T cl d u (.dget a i x) := by
  refine sdT_of ?_ ?_
  · intro A env names sl pls En R e ht s μ H l P S F hv
    refine vCallA2_el ht fun o n apos e1 e2 pos ht => ?_
    simp only [Bool.and_eq_true, beq_iff_eq] at ht
    obtain ⟨⟨⟨⟨⟨⟨⟨rfl, t1⟩, t2⟩, t3⟩, t4⟩, t5⟩, t6⟩, t7⟩ := ht
    refine any_method En R ha t5 PySem.F.plainAttrs_dict PySem.F.slot_dict_get PySem.F.type_dict_get t1 t2 rfl (by simp [t3, t4]) S F hv fun v y H' μ' h' t' hP rv S' X => ?_
    obtain ⟨kvs, hkvs⟩ := Option.isSome_iff_exists.mp hP.1
    obtain ⟨j, rfl, hj⟩ := isDict_some hkvs
    obtain ⟨p, hp, rfl⟩ := rv
    obtain ⟨hn, ws, hD, hf⟩ := S'.obj _ _ _ hj hp
    have hM := hD.mapOf
    have hM0 := hM
    obtain ⟨o', es', ep', ho', hex, hrest⟩ := hM0
    refine ⟨hM.typeIs (s := { s with heap := h', toks := t' }), fun a ea => by cases ea; exact ⟨o', ho', hex.2.1⟩, ?_⟩
    rw [star2 t3 t4]
    refine callWith_builtin rfl (evalArgs_plain (spliced_cons (wp_rt (hi.1 A env names sl pls En R e1 t6 _ μ' H' l _ S' (F.ext X) hP.2) fun vb w H'' μ'' h'' t'' hP rw' S'' X' => ?_)))
    refine spliced_cons (wp_go (hx.1 A env names sl pls En R e2 t7 _ μ'' H'' l _ S'' ((F.ext X).ext X') hP) fun vc s' hr => spliced_nil ?_)
    obtain ⟨w2, H3, μ3, h3, t3, rfl, ⟨kvs', k, hkvs', rfl, hPr⟩, rw2, S3, X3⟩ := hr
    obtain ⟨tk, rfl⟩ := rw'
    obtain ⟨j', e1, hj'⟩ := isDict_some hkvs'
    cases e1
    obtain ⟨p', hp', e2⟩ := RV.mono X3.ex (RV.mono X'.ex (B := c.B) (v := .ref j) ⟨p, hp, rfl⟩)
    injection e2 with e2
    rw [e2]
    obtain ⟨hn', ws', hD', hf'⟩ := S3.obj _ _ _ hj' hp'
    have hM' := hD'.mapOf
    have hMeets := meets_dict_get_default (prog := c.prog) (w := c.w) (intKind c.prog c.w) (k := k) (key := .int k tk) p'.1 (by simp [intKind, Value.isInt]) (sys_ne G S3 hp') vc
    refine call_meetsIn (s := { s with heap := h3, toks := t3 }) PySem.F.slot_dict_get (hM'.typeIs (s := { s with heap := h3, toks := t3 })) PySem.F.entry_dict_get (PySem.F.args_dict_get_3 _ _ _) hMeets ⟨_, hM', ?_⟩
    have hk := hf'.find k
    refine ⟨_, H3, μ3, h3, _, rfl, hPr, ?_, S3, X.trans (X'.trans X3)⟩
    revert hk
    cases lkI k kvs' with
    | none => intro hk; rw [hk]; exact rw2
    | some z => rintro ⟨y, h1, h2⟩; rw [h1]; exact h2
  · intro names sl e ht env whole
    refine vCallA2_el ht fun _ _ _ _ _ _ ht => ?_
    rfl

theorem strs_RVs {B : Heap} {μ : Mu} : ∀ (tk : Nat) (xs : List Str), RVs B μ (xs.map V.str) (strsFrom tk xs)
  | _, [] => trivial
  | tk, x :: xs => ⟨⟨tk, rfl⟩, strs_RVs (tk + 1) xs⟩

theorem sd_split {a : X} (ha : SdX c D T cl d u a) : SdX c D T cl d u (.split a) := by
  refine sdT_of ?_ ?_
  · intro A env names sl pls En R e ht s μ H l P S F hv
    refine vCallA0_el ht fun o n apos pos ht => ?_
    simp only [Bool.and_eq_true, beq_iff_eq] at ht
    obtain ⟨⟨⟨rfl, t1⟩, t2⟩, t4⟩ := ht
    refine any_method (es := []) En R ha t4 PySem.F.plainAttrs_str PySem.F.slot_str_split PySem.F.type_str_split t1 t2 rfl (by simp) S F hv fun v y H' μ' h' t' hP rv S' X => ?_
    obtain ⟨x, rfl, hl, hP⟩ := hP
    obtain ⟨t, rfl⟩ := rv
    have hT : Shared.TypeIs { s with heap := h', toks := t' } (.str x t) "str" := rfl
    refine And.intro hT (And.intro (fun a ea => by cases ea) (callWith_method0 ?_))
    have hw := fact_words x
    have hs := lid_le
    have hsp : (Builtin.Str.spaceWords x (x.length + 1)).length ≤ sizeLine := by
      unfold Txt.words at hw
      split at hw
      · rename_i h; rw [eq_of_beq h]; show 1 ≤ _; have := lid_le; unfold lid at this; omega
      · unfold PySem.wordsOf at hw
        rw [List.length_map] at hw
        omega
    refine call_meets (s := { s with heap := h', toks := t' }) PySem.F.slot_str_split hT PySem.F.entry_str_split (PySem.F.args_str_split_1 _) (meets_str_split_space x t (by omega) hsp) ?_
    unfold Txt.words at hP
    by_cases h : (Builtin.Str.spaceWords x (x.length + 1) == [(0, x.length)]) = true
    · rw [if_pos h] at hP
      rw [if_pos h]
      obtain ⟨S2, X2⟩ := St.newList (s := { s with heap := h', toks := t' }) S' (vs := [.str x]) (xs := [.str x t]) ⟨⟨t, rfl⟩, trivial⟩
      exact ⟨_, _, _, _, _, rfl, hP, RV.last S'.len, S2, X.trans X2⟩
    · rw [if_neg h] at hP
      rw [if_neg h]
      obtain ⟨S2, X2⟩ := St.newList (s := { s with heap := h', toks := t' }) S' (strs_RVs t' (PySem.wordsOf x))
      exact ⟨_, _, _, _, _, rfl, hP, RV.last S'.len, S2, X.trans X2⟩
  · intro names sl e ht env whole
    refine vCallA0_el ht fun _ _ _ _ ht => ?_
    rfl
end Mine
end
section
open PySem PySem.W PySem.Calls PyProof.Rows PySem.SeqAt
namespace Mine
variable {c : Cx} {D : Nm} {fad : Nat → Addr} {T : Tab} {cl : Cl} {d u : Nat}

theorem wp_no {α : Type} {M : Model} {A : Around} {t : Sem α} {Q Q' : α → Shared → Prop} {E : Value → Shared → Prop} {s : Shared} (h : wpAny M A t Q no s) (k : ∀ a s', Q a s' → Q' a s') : wpAny M A t Q' E s := wpAny_mono h k fun _ _ x => x.elim

/-- an iterator over plain values: `At k` says that k of them have been given -/
structure Iter (c : Cx) (A : Around) (it : Addr) (xs : List V) (ok : AH → Prop) (μ1 : Mu) (At : Nat → Heap → Prop) : Prop where
  keep : ∀ k h h', At k h → (∀ o, h.get? it = some o → h'.get? it = some o) → At k h'
  there : ∀ k h, At k h → ∃ o, h.get? it = some o
  iter : ∀ k s (Q : Value → Shared → Prop) E, At k s.heap → Q (.ref it) s → wpAny (model c.prog c.w) A (pyIter (.ref it)) Q E s
  next : ∀ k x s μ H (Q : Option Value → Shared → Prop), At k s.heap → St c s.heap μ H → (∃ e, μ = μ1 ++ e) → ok H → xs[k]? = some x →
    (∀ h' v t', At (k + 1) h' → Heap.SameBut it s.heap h' → RV c.B μ x v → Q (some v) { s with heap := h', toks := t' }) → wpAny (model c.prog c.w) A (pyNext (.ref it)) Q no s
  stop : ∀ k s μ H (Q : Option Value → Shared → Prop), At k s.heap → St c s.heap μ H → (∃ e, μ = μ1 ++ e) → ok H → xs[k]? = none →
    (∀ h' t', Heap.ExtBut it s.heap h' → Q none { s with heap := h', toks := t' }) → wpAny (model c.prog c.w) A (pyNext (.ref it)) Q no s

theorem mu_ex {μ1 μ : Mu} (h : ∃ e, μ = μ1 ++ e) {i : Nat} {p : Addr × Option Addr} (hp : μ1[i]? = some p) : μ[i]? = some p := by
  obtain ⟨e, rfl⟩ := h
  rw [List.getElem?_append_left (List.getElem?_eq_some_iff.mp hp).1]; exact hp

theorem iter_list {A : Around} (hh : A.handled = none) {i : Nat} {p : Addr × Option Addr} {xs : List V} {μ1 : Mu} {H1 : AH} (hp : μ1[i]? = some p) (hi : H1[i]? = some (.list xs)) (it : Addr) :
    Iter c A it xs (fun H => objOf (.ref i) H = objOf (.ref i) H1) μ1 (fun k h => h.IsListIter it p.1 k) where
  keep := fun k h h' ⟨o, g, r⟩ hk => ⟨o, hk o g, r⟩
  there := fun k h ⟨o, g, r⟩ => ⟨o, g⟩
  iter := fun k s Q E h q => wpAny_pyIter_listiter h q
  next := fun k x s μ H Q h S he ok hx q => by
    have hi' : H[i]? = some (.list xs) := (show H[i]? = H1[i]? from ok).trans hi
    obtain ⟨_, vs, n, g, r⟩ := S.obj _ _ _ hi' (mu_ex he hp)
    obtain ⟨v, hv, rv⟩ := r.get hx
    exact wpAny_pyNext_list_item h ⟨_, g, rfl, n, rfl⟩ (by simpa using hv) fun h' a b => q h' v s.toks a b rv
  stop := fun k s μ H Q h S he ok hx q => by
    have hi' : H[i]? = some (.list xs) := (show H[i]? = H1[i]? from ok).trans hi
    obtain ⟨_, vs, n, g, r⟩ := S.obj _ _ _ hi' (mu_ex he hp)
    have hl := r.length
    exact wpAny_pyNext_list_end hh h ⟨_, g, rfl, n, rfl⟩ (by
      have := List.getElem?_eq_none_iff.mp hx
      simp; omega) fun h' a => q h' s.toks a
theorem iter_tup {A : Around} (hh : A.handled = none) {i : Nat} {p : Addr × Option Addr} {xs : List V} {μ1 : Mu} {H1 : AH} (hp : μ1[i]? = some p) (hi : H1[i]? = some (.tup xs)) (it : Addr) :
    Iter c A it xs (fun H => objOf (.ref i) H = objOf (.ref i) H1) μ1 (fun k h => h.IsTupleIter it p.1 k) where
  keep := fun k h h' ⟨o, g, r⟩ hk => ⟨o, hk o g, r⟩
  there := fun k h ⟨o, g, r⟩ => ⟨o, g⟩
  iter := fun k s Q E h q => wpAny_pyIter_tupleiter h q
  next := fun k x s μ H Q h S he ok hx q => by
    have hi' : H[i]? = some (.tup xs) := (show H[i]? = H1[i]? from ok).trans hi
    obtain ⟨_, vs, n, g, r⟩ := S.obj _ _ _ hi' (mu_ex he hp)
    obtain ⟨v, hv, rv⟩ := r.get hx
    exact wpAny_pyNext_tuple_item h ⟨_, g, rfl, n, rfl⟩ (by simpa using hv) fun h' a b => q h' v s.toks a b rv
  stop := fun k s μ H Q h S he ok hx q => by
    have hi' : H[i]? = some (.tup xs) := (show H[i]? = H1[i]? from ok).trans hi
    obtain ⟨_, vs, n, g, r⟩ := S.obj _ _ _ hi' (mu_ex he hp)
    have hl := r.length
    exact wpAny_pyNext_tuple_end hh h ⟨_, g, rfl, n, rfl⟩ (by
      have := List.getElem?_eq_none_iff.mp hx
      simp; omega) fun h' a => q h' s.toks a
theorem iter_range {A : Around} (hh : A.handled = none) (a st : Int) (n : Nat) (xs : List V) (hx : ∀ k, k < n → xs[k]? = some (.int (a + k * st))) (hn : xs.length = n) (ok : AH → Prop) (μ1 : Mu) (it : Addr) :
    Iter c A it xs ok μ1 (fun k h => IsRangeIter h it (a + k * st) ((n : Int) - k) st) where
  keep := fun k h h' g hk => hk _ g
  there := fun k h g => ⟨_, g⟩
  iter := fun k s Q E h q => wpAny_pyIter_rangeiter h q
  next := fun k x s μ H Q h S he _ hk q => by
    have hlt : k < n := by rw [← hn]; exact (List.getElem?_eq_some_iff.mp hk).1
    rw [hx k hlt] at hk; cases hk
    refine wpAny_pyNext_range_item h (by omega) fun h' g b => q h' _ (s.toks + 1) ?_ b ⟨_, rfl⟩
    have e1 : a + (k : Int) * st + st = a + ((k + 1 : Nat) : Int) * st := by rw [Int.natCast_add, Int.add_mul]; simp [Int.add_assoc]
    have e2 : (n : Int) - k - 1 = n - ((k + 1 : Nat) : Int) := by omega
    rw [← e1, ← e2]; exact g
  stop := fun k s μ H Q h S he _ hk q => by
    have : n ≤ k := by rw [← hn]; exact List.getElem?_eq_none_iff.mp hk
    exact wpAny_pyNext_range_end hh h (by omega) fun h' g => q h' s.toks g
end Mine
end
section
open PySem PySem.W PySem.Calls PyProof.Rows PySem.SeqAt
namespace Mine
variable {c : Cx} {D : Nm} {fad : Nat → Addr} {T : Tab} {cl : Cl} {d u : Nat}

/-! ## the block of a comprehension -/
theorem lookup_inner (names : Names) (n : Str) : ∀ sc : Names, (inner names sc).lookup n = (sc.lookup n).map fun k => if (k == .free && names.lookup n == some .cell) then .cell else k
  | [] => rfl
  | (y, k) :: sc => by
    unfold inner
    rw [List.map_cons]
    by_cases h : n = y
    · subst h
      dsimp only
      by_cases hc : (k == NameKind.free && List.lookup n names == some NameKind.cell) = true
      · rw [if_pos hc, List.lookup_cons_self, List.lookup_cons_self, Option.map_some, if_pos hc]
      · rw [if_neg hc, List.lookup_cons_self, List.lookup_cons_self, Option.map_some, if_neg hc]
    · have hb : (n == y) = false := beq_eq_false_iff_ne.mpr h
      have := lookup_inner names n sc
      unfold inner at this
      dsimp only
      by_cases hc : (k == NameKind.free && List.lookup y names == some NameKind.cell) = true
      · rw [if_pos hc, List.lookup_cons, List.lookup_cons, hb]; exact this
      · rw [if_neg hc, List.lookup_cons, List.lookup_cons, hb]; exact this
theorem lookup_mem {α : Type} {n : Str} {k : α} : ∀ {sc : List (Str × α)}, sc.lookup n = some k → (n, k) ∈ sc
  | [], h => by simp at h
  | (y, k') :: sc, h => by
    rw [List.lookup_cons] at h
    split at h
    · rename_i e; cases h; rw [eq_of_beq e]; exact List.mem_cons_self
    · exact List.mem_cons_of_mem _ (lookup_mem h)

structure ScOk (names : Names) (sl : List Str) (sc : Scope) (x : Str) : Prop where
  fn : sc.kind = .function
  hx : sc.names.lookup x = some .local
  cell : ∀ y ∈ sc.names, y.2 ≠ .cell
  loc : ∀ y ∈ sc.names, y.2 = .local → sc.names.lookup y.1 = some .local ∧ (y.1 = x ∨ y.1 ∉ sl)
  free : ∀ y ∈ sc.names, y.2 = .free → names.lookup y.1 = some .cell ∧ sc.names.lookup y.1 = some .free ∧ y.1 ∈ sl
theorem scOk_of {names : Names} {sl : List Str} {sc : Scope} {x : Str} (h : scopeOk names sl sc x = true) : ScOk names sl sc x := by
  unfold scopeOk at h
  simp only [Bool.and_eq_true, List.all_eq_true] at h
  obtain ⟨⟨h1, h2⟩, h3⟩ := h
  refine ⟨eq_of_beq h1, eq_of_beq h2, fun y hy => ?_, fun y hy e => ?_, fun y hy e => ?_⟩
  · have := (h3 y hy).1.1
    simpa using this
  · have := (h3 y hy).1.2
    rw [e] at this
    simp only [bne_self_eq_false, Bool.false_or, Bool.and_eq_true, beq_iff_eq, Bool.or_eq_true, Bool.not_eq_true', List.contains_eq_mem, decide_eq_false_iff_not] at this
    exact this
  · have := (h3 y hy).2
    rw [e] at this
    simp only [bne_self_eq_false, Bool.false_or, Bool.and_eq_true, beq_iff_eq, List.contains_eq_mem, decide_eq_true_eq] at this
    exact ⟨this.1.1, this.1.2, this.2⟩

theorem En.inner {env env' : Env} {names : Names} {sl : List Str} {pls : List Pl} (E : En env names sl pls) {sc : Scope} {x : Str} {slot : Nat} (O : ScOk names sl sc x) (hs : sl[slot]? = some x) {C : Addr} (hC : ∀ pl ∈ pls, pl.at ≠ C)
    (h1 : env'.scope = relabel sc env) (h2 : env'.globals = env.globals) (h3 : env'.builtins = env.builtins) (h4 : env'.locals = C) (h5 : ∀ n a, (n, NameKind.free) ∈ sc.names → env.cells.lookup n = some a → env'.cells.lookup n = some a) :
    Mine.En env' (Mine.inner names sc.names) sl (pls.set slot (.ns C x)) := by
  have hslot : slot < pls.length := by rw [E.len]; exact (List.getElem?_eq_some_iff.mp hs).1
  refine ⟨by rw [h1]; exact O.fn, ?_, h2.trans E.gl, h3.trans E.bl, fun i n hi hn => ?_, fun i n hi hn => ?_, E.nd, by rw [List.length_set]; exact E.len, fun i j p q hp hq e => ?_⟩
  · rw [h1]
    show sc.names.map _ = sc.names.map _
    refine List.map_congr_left fun y _ => ?_
    obtain ⟨n, k⟩ := y
    simp only [E.fn, E.kind]
    simp
  · rw [lookup_inner] at hn
    cases hk : sc.names.lookup n with
    | none => rw [hk] at hn; cases hn
    | some k =>
      rw [hk, Option.map_some] at hn
      have hkl : k = .local := by
        split at hn
        · cases hn
        · exact Option.some.inj hn
      subst hkl
      have hnx : n = x := ((O.loc _ (lookup_mem hk) rfl).2).resolve_right fun z => z (List.mem_of_getElem? hi)
      subst hnx
      have his : i = slot := by
        obtain ⟨a1, b1⟩ := List.getElem?_eq_some_iff.mp hi
        obtain ⟨a2, b2⟩ := List.getElem?_eq_some_iff.mp hs
        exact (List.getElem_inj E.nd).mp (b1.trans b2.symm)
      subst his
      rw [List.getElem?_set_self hslot, h4]
  · rw [lookup_inner] at hn
    cases hk : sc.names.lookup n with
    | none => rw [hk] at hn; simp at hn
    | some k =>
      rw [hk, Option.map_some] at hn
      have hkf : k = .free := by
        have hc := O.cell _ (lookup_mem hk)
        split at hn
        · rename_i hb
          simp only [Bool.and_eq_true, beq_iff_eq] at hb
          exact hb.1
        · rcases hn with hn | hn
          · exact absurd (Option.some.inj hn) hc
          · exact Option.some.inj hn
      subst hkf
      obtain ⟨f1, f2, _⟩ := O.free _ (lookup_mem hk) rfl
      obtain ⟨a, ha, hl⟩ := E.cel i n hi (.inl f1)
      have his : i ≠ slot := fun e => by
        subst e
        rw [hs] at hi; cases hi
        rw [O.hx] at f2; cases f2
      exact ⟨a, by rw [List.getElem?_set_ne his.symm]; exact ha, h5 n a (lookup_mem hk) hl⟩
  · subst e
    by_cases h1 : i = slot
    · by_cases h2 : j = slot
      · rw [h1, h2]
      · subst h1
        rw [List.getElem?_set_self hslot] at hp
        rw [List.getElem?_set_ne (Ne.symm h2)] at hq
        cases hp
        exact absurd rfl (hC _ (List.mem_of_getElem? hq))
    · by_cases h2 : j = slot
      · subst h2
        rw [List.getElem?_set_self hslot] at hq
        rw [List.getElem?_set_ne (Ne.symm h1)] at hp
        cases hq
        exact absurd rfl (hC _ (List.mem_of_getElem? hp))
      · rw [List.getElem?_set_ne (Ne.symm h1)] at hp
        rw [List.getElem?_set_ne (Ne.symm h2)] at hq
        exact E.one i j _ _ hp hq rfl

theorem Fm.inner {h : Heap} {μ : Mu} {pls : List Pl} {l : Loc} (F : Fm c h μ pls l) {slot : Nat} (hslot : slot < pls.length) {C : Addr} {x : Str} {m : Str → Option Value} {v : V} {y : Value} (hm : h.Ns C m) (hx : m x = some y) (rv : RV c.B μ v y) (ho : C ∉ foot μ ∧ c.B.get? C = none) :
    Fm c h μ (pls.set slot (.ns C x)) (l.set slot (some v)) := by
  refine ⟨fun i v' hi => ?_, fun pl hpl => ?_, fun pl hpl => ?_⟩
  · by_cases e : i = slot
    · subst e
      rw [List.getElem?_set] at hi
      simp only [if_true] at hi
      split at hi
      · cases hi
        exact ⟨_, List.getElem?_set_self hslot, m, y, hm, hx, rv⟩
      · cases hi
    · rw [List.getElem?_set_ne (Ne.symm e)] at hi
      obtain ⟨pl, hp, q⟩ := F.val i v' hi
      exact ⟨pl, by rw [List.getElem?_set_ne (Ne.symm e)]; exact hp, q⟩
  · rcases List.mem_or_eq_of_mem_set hpl with hpl | rfl
    · exact F.there pl hpl
    · exact ⟨m, hm⟩
  · rcases List.mem_or_eq_of_mem_set hpl with hpl | rfl
    · exact F.apart pl hpl
    · exact ho
theorem Fm.turn {h h' : Heap} {μ : Mu} {pls : List Pl} {l : Loc} (F : Fm c h μ pls l) {a : Addr} (ha : ∀ pl ∈ pls, pl.at ≠ a) (hk : ∀ b o, b ≠ a → h.get? b = some o → h'.get? b = some o) : Fm c h' μ pls l :=
  ⟨fun i v hi => by
    obtain ⟨pl, hp, q⟩ := F.val i v hi
    exact ⟨pl, hp, q.keep ⟨[], by simp⟩ fun o e => hk _ o (ha pl (List.mem_of_getElem? hp)) e⟩, fun pl hp => (F.there pl hp).keep fun o e => hk _ o (ha pl hp) e, F.apart⟩

/-- the cells that a block takes over -/
theorem closure_ok {names : Names} {env : Env} {sl : List Str} (hc : ∀ n ∈ sl, names.lookup n = some .cell → ∃ a, env.cells.lookup n = some a) {sc : Scope} {x : Str} (O : ScOk names sl sc x) :
    ∃ cl, closureFor sc env = pure cl ∧ ∀ n a, (n, NameKind.free) ∈ sc.names → env.cells.lookup n = some a → cl.lookup n = some a := by
  have gen : ∀ (ns : Names) (cs : List (Str × Addr)), (∀ y ∈ ns, y.2 = .free → ∃ a, env.cells.lookup y.1 = some a) → (∀ n a, cs.lookup n = some a → env.cells.lookup n = some a) →
      ∃ cl, (forIn (m := Sem) ns cs fun x (cs : List (Str × Addr)) => match x with
        | (name, kind) => if (kind == NameKind.free) = true then do
            let a ← cellOf env name
            pure (ForInStep.yield ((name, a) :: cs))
          else pure (ForInStep.yield cs)) = pure cl ∧ (∀ n a, cl.lookup n = some a → env.cells.lookup n = some a) ∧
        (∀ n, ((n, NameKind.free) ∈ ns ∨ (cs.lookup n).isSome = true) → (cl.lookup n).isSome = true) := by
    intro ns
    induction ns with
    | nil => exact fun cs _ h => ⟨cs, rfl, h, fun n hn => hn.elim (fun z => (nomatch z)) id⟩
    | cons y ns ih =>
      intro cs hf hcs
      obtain ⟨n, k⟩ := y
      by_cases hk : k = .free
      · subst hk
        obtain ⟨a, ha⟩ := hf _ List.mem_cons_self rfl
        obtain ⟨cl, h1, h2, h3⟩ := ih ((n, a) :: cs) (fun y hy => hf y (List.mem_cons_of_mem _ hy)) (fun n' a' e => by
          rw [List.lookup_cons] at e
          split at e
          · rename_i hb; cases e; rw [eq_of_beq hb]; exact ha
          · exact hcs n' a' e)
        refine ⟨cl, ?_, h2, fun n' hn' => h3 n' ?_⟩
        · rw [← h1, List.forIn_cons]
          have hco : cellOf env n = pure a := by
            unfold cellOf
            dsimp only at ha
            rw [ha]
          dsimp only
          rw [hco]
          rfl
        · rw [List.lookup_cons]
          split
          · exact .inr rfl
          · rename_i hb
            rcases hn' with hn' | hn'
            · rcases List.mem_cons.mp hn' with e | hn'
              · cases e; simp at hb
              · exact .inl hn'
            · exact .inr hn'
      · obtain ⟨cl, h1, h2, h3⟩ := ih cs (fun y hy => hf y (List.mem_cons_of_mem _ hy)) hcs
        refine ⟨cl, ?_, h2, fun n' hn' => h3 n' ?_⟩
        · rw [← h1, List.forIn_cons]
          have : (k == NameKind.free) = false := beq_eq_false_iff_ne.mpr hk
          simp only [this]
          rfl
        · rcases hn' with hn' | hn'
          · rcases List.mem_cons.mp hn' with e | hn'
            · cases e; exact absurd rfl hk
            · exact .inl hn'
          · exact .inr hn'
  obtain ⟨cl, h1, h2, h3⟩ := gen sc.names [] (fun y hy e => hc _ (O.free y hy e).2.2 (O.free y hy e).1) (fun n a e => by simp at e)
  refine ⟨cl, ?_, fun n a hn ha => ?_⟩
  · unfold closureFor
    show (do let s ← _; pure s) = _
    first
      | (rw [h1]; rfl)
      | (simp only [h1]; rfl)
  · obtain ⟨a', e⟩ := Option.isSome_iff_exists.mp (h3 n (.inl hn))
    rw [e, ← h2 n a' e, ha]
end Mine
end
section
open PySem PySem.W PySem.Calls PyProof.Rows PySem.SeqAt
namespace Mine
variable {c : Cx} {D : Nm} {fad : Nat → Addr} {T : Tab} {cl : Cl} {d u : Nat}

/-- a comprehension's loop: the iterator, the list and the block's names stand apart from what is borne -/
structure Lp (c : Cx) (it L C : Addr) (μ1 : Mu) (h1 : Heap) (pls : List Pl) (l : Loc) (acc : List V) (μ : Mu) (h : Heap) (H : AH) : Prop where
  st : St c h μ H
  x : Ext [it, L, C] μ1 h1 μ h
  off : ∀ a, a = it ∨ a = L ∨ a = C → a ∉ foot μ ∧ c.B.get? a = none
  dl : ∃ vals n, IsL h L vals.toArray n ∧ RVs c.B μ acc vals
  ns : ∃ m, h.Ns C m
  f : Fm c h μ pls l

variable {it L C : Addr} {μ1 μ μ' : Mu} {h1 h h' : Heap} {pls : List Pl} {l : Loc} {acc : List V} {H H' : AH}

theorem Lp.ext (P : Lp c it L C μ1 h1 pls l acc μ h H) (S : St c h' μ' H') (X : Ext [] μ h μ' h') (hi : ∃ o, h.get? it = some o) : Lp c it L C μ1 h1 pls l acc μ' h' H' := by
  obtain ⟨vals, n, g, q⟩ := P.dl
  obtain ⟨m, hm⟩ := P.ns
  have key : ∀ a, a = it ∨ a = L ∨ a = C → ∃ o, h.get? a = some o := fun a ha => by
    rcases ha with rfl | rfl | rfl
    · exact hi
    · exact ⟨_, g⟩
    · obtain ⟨o, _, _, ho, _⟩ := hm; exact ⟨o, ho⟩
  refine ⟨S, P.x.trans (X.widen (fun a ha => nomatch ha)), fun a ha => ?_, ⟨vals, n, X.keep _ _ g (P.off _ (.inr (.inl rfl))).1 (by simp), q.mono X.ex⟩, ⟨m, hm.at fun o e => X.keep _ _ e (P.off _ (.inr (.inr rfl))).1 (by simp)⟩, P.f.ext X⟩
  obtain ⟨o, ho⟩ := key a ha
  exact ⟨(X.off ho (P.off a ha).1 (by simp)).1, (P.off a ha).2⟩
theorem Ext.turn {own : List Addr} (x : Ext own μ1 h1 μ h) {a : Addr} (ha : a ∈ own) (hk : ∀ b o, b ≠ a → h.get? b = some o → h'.get? b = some o) : Ext own μ1 h1 μ h' :=
  ⟨x.pre, fun b o hb hm ho => hk b o (fun e => ho (e ▸ ha)) (x.keep b o hb hm ho)⟩
/-- one of the own places turns -/
theorem Lp.turn (P : Lp c it L C μ1 h1 pls l acc μ h H) {acc' : List V} {a : Addr} (ha : a = it ∨ a = L ∨ a = C) (hp : ∀ pl ∈ pls, pl.at ≠ a) (hk : ∀ b o, b ≠ a → h.get? b = some o → h'.get? b = some o)
    (hd : ∃ vals n, IsL h' L vals.toArray n ∧ RVs c.B μ acc' vals) (hn : ∃ m, h'.Ns C m) : Lp c it L C μ1 h1 pls l acc' μ h' H :=
  ⟨P.st.off (own := [a]) (fun b hb => by rw [List.mem_singleton.mp hb]; exact P.off a ha) (fun b o hb e => hk b o (fun z => hb (by rw [z]; exact List.mem_singleton_self _)) e), P.x.turn (by simpa using ha) hk, P.off, hd, hn, P.f.turn hp hk⟩

theorem ifs_sound {cond : X} (hc : SdX c D T cl d u cond) {A : Around} {env : Env} {names : Names} {sl : List Str} (En : En env names sl pls) (R : Room (d + 4) (u + 30) A) {ifs : List Expr}
    (ht : ifsTr ifs (isT cond) (fun e => trE D names sl cond e) = true)
    {s : Shared} (S : St c s.heap μ H) (F : Fm c s.heap μ pls l) {P : Bool → AH → Prop} (hv : tst (vcE T cl cond l H) P) :
    wpAny (model c.prog c.w) A (forIn ifs true fun e r => if r = true then do
        let ok ← PySem.isTrue e env (eval e env)
        pure (ForInStep.yield ok)
      else pure (ForInStep.yield r)) (RtB c s μ P) no s := by
  match ifs, ht with
  | [], ht =>
    have : cond = .cbool true := isT_eq ht
    subst this
    obtain ⟨b, hb, hP⟩ := hv
    cases hb
    exact wpAny_pure ⟨H, μ, s.heap, s.toks, rfl, hP, S, .refl⟩
  | [e], ht =>
    have ht : trE D names sl cond e = true := ht
    rw [List.forIn_cons]
    refine wpAny_bind ?_
    rw [if_pos rfl]
    refine wpAny_bind (wp_go (hc.test En R ht S F hv) fun b s' hr => wpAny_pure ?_)
    show wpAny _ _ (pure b) _ _ _
    exact wpAny_pure hr
  | _ :: _ :: _, ht => exact absurd (show false = true from ht) Bool.false_ne_true

theorem list_append_call {A : Around} {s : Shared} {ys : List Value} {n : Nat} {v : Value} {Q : Value → Shared → Prop} (g : IsL s.heap L ys.toArray n) (hs : ys.length ≤ sizeLine)
    (hq : Q .none { s with heap := s.heap.update L (Obj.mapSeq fun xs => xs.push v) }) {E : Value → Shared → Prop} : wpAny (model c.prog c.w) A (call (.builtin "list.append") [.ref L, v]) Q E s :=
  call_meets PySem.F.slot_list_append ⟨_, g, rfl⟩ PySem.F.entry_list_append (PySem.F.args_list_append_2 _ _) (AutoListH.list_append_list_val_0 L ys.toArray n v (by rw [List.size_toArray]; exact hs)) ⟨g, hq⟩

theorem loop_sound {elt cond : X} (he : SdX c D T cl d u elt) (hc : SdX c D T cl d u cond) {A : Around} {env : Env} {names : Names} {sl : List Str} {x : Str} {slot : Nat} (hs : sl[slot]? = some x) (hlen : pls.length = sl.length)
    (hE : En env names sl (pls.set slot (.ns C x))) (hx : names.lookup x = some .local) (hL : env.locals = C) (R : Room (d + 4) (u + 30) A) {ifs : List Expr} {e : Expr}
    (ht : ifsTr ifs (isT cond) (fun e => trE D names sl cond e) = true) (hte : trE D names sl elt e = true)
    {xs : List V} {ok : AH → Prop} {At : Nat → Heap → Prop} (I : Iter c A it xs ok μ1 At) (h12 : it ≠ L) (h13 : it ≠ C) (h23 : L ≠ C) (hpl : ∀ pl ∈ pls, pl.at ≠ it ∧ pl.at ≠ L ∧ pl.at ≠ C)
    {P : List V → AH → Prop} {Rs : Result → Shared → Prop} {s : Shared} (hA : At 0 s.heap) (hP : Lp c it L C μ1 h1 pls l [] μ s.heap H) (hok : ok H)
    (hv : iterC (fun x H K => tst (vcE T cl cond (l.set slot (some x)) H) fun b H => if b then vcE T cl elt (l.set slot (some x)) H fun r H => K (some r) H else K none H) ok xs [] H P)
    (hR : ∀ acc μ h H t, Lp c it L C μ1 h1 pls l acc μ h H → P acc H → Rs (.ok .next) { s with heap := h, toks := t }) {px : Pos} {iter : Expr} {sc : Scope} {pos : Pos} :
    codeAny (model c.prog c.w) A (.compLoop (.ListComp e [⟨.Name x px, iter, ifs, 0⟩] sc pos) 0 (.ref it) (.ref L) env) Rs s := by
  have hslot : slot < pls.length := by rw [hlen]; exact (List.getElem?_eq_some_iff.mp hs).1
  let f := fun x H (K : Option V → AH → Prop) => tst (vcE T cl cond (l.set slot (some x)) H) fun b H => if b then vcE T cl elt (l.set slot (some x)) H fun r H => K (some r) H else K none H
  refine codeAny_compLoop_tests (fun n s' => ∃ acc μ h H t k, s' = { s with heap := h, toks := t } ∧ n + k = xs.length ∧ At k h ∧ Lp c it L C μ1 h1 pls l acc μ h H ∧ ok H ∧ iterC f ok (xs.drop k) acc H P) ?_ xs.length ⟨[], μ, s.heap, H, s.toks, 0, rfl, rfl, hA, hP, hok, hv⟩
  rintro n s' ⟨acc, μ, h, H, t, k, rfl, hn, hA, hP, hok, hv⟩
  cases hk : xs[k]? with
  | none =>
    refine wp_no (I.stop k { s with heap := h, toks := t } μ H (fun r s' => ∃ h' t', r = none ∧ s' = { s with heap := h', toks := t' } ∧ Heap.ExtBut it h h') hA hP.st hP.x.ex hok hk fun h' t' hh => ⟨h', t', rfl, rfl, hh⟩) fun r s' hr => ?_
    obtain ⟨h', t', rfl, rfl, hh⟩ := hr
    obtain ⟨vals, nn, g, q⟩ := hP.dl
    obtain ⟨m, hm⟩ := hP.ns
    rw [List.drop_eq_nil_of_le (List.getElem?_eq_none_iff.mp hk)] at hv
    exact hR acc μ h' H t' (hP.turn (.inl rfl) (fun pl hp => (hpl pl hp).1) hh ⟨vals, nn, hh _ _ h12.symm g, q⟩ ⟨m, hm.extBut hh h13.symm⟩) hv
  | some y =>
    refine wp_no (I.next k y { s with heap := h, toks := t } μ H (fun r s' => ∃ h' v t', r = some v ∧ s' = { s with heap := h', toks := t' } ∧ At (k + 1) h' ∧ Heap.SameBut it h h' ∧ RV c.B μ y v) hA hP.st hP.x.ex hok hk fun h' v t' a b r => ⟨h', v, t', rfl, rfl, a, b, r⟩) fun r s' hr => ?_
    obtain ⟨h', v, t', rfl, rfl, hA', hsb, rv⟩ := hr
    obtain ⟨hkl, hke⟩ := List.getElem?_eq_some_iff.mp hk
    have hdrop : xs.drop k = y :: xs.drop (k + 1) := by rw [List.drop_eq_getElem_cons hkl, hke]
    rw [hdrop] at hv
    obtain ⟨vals, nn, g, q⟩ := hP.dl
    obtain ⟨m, hm⟩ := hP.ns
    have hP1 : Lp c it L C μ1 h1 pls l acc μ h' H := hP.turn (.inl rfl) (fun pl hp => (hpl pl hp).1) (fun b o hb e => by rw [hsb.2 b hb]; exact e) ⟨vals, nn, by rw [IsL, hsb.2 _ h12.symm]; exact g, q⟩ ⟨m, hm.sameBut hsb h13.symm⟩
    refine assign_Name ?_
    have hkind : env.kindOf x = some .local := (hE.kind x).trans hx
    rw [storeName_local hkind (by rw [hE.fn]; rfl), hL]
    refine wpAny_nsSet (hm.sameBut hsb h13.symm) fun h2 hm2 hsb2 => ?_
    have hA2 : At (k + 1) h2 := I.keep _ _ _ hA' fun o e => by rw [hsb2.2 _ h13]; exact e
    have hP2 : Lp c it L C μ1 h1 pls l acc μ h2 H := hP1.turn (.inr (.inr rfl)) (fun pl hp => (hpl pl hp).2.2) (fun b o hb e => by rw [hsb2.2 b hb]; exact e) ⟨vals, nn, by rw [IsL, hsb2.2 _ h23, hsb.2 _ h12.symm]; exact g, q⟩ ⟨_, hm2⟩
    have F2 : Fm c h2 μ (pls.set slot (.ns C x)) (l.set slot (some y)) := hP2.f.inner hslot hm2 (by simp) rv (hP2.off C (.inr (.inr rfl)))
    refine wp_rb (ifs_sound hc hE R ht (s := { s with heap := h2, toks := t' + 1 }) hP2.st F2 hv) fun b H3 μ3 h3 t3 hb S3 X3 => ?_
    have hP3 : Lp c it L C μ1 h1 pls l acc μ3 h3 H3 := hP2.ext S3 X3 (I.there _ _ hA2)
    have hA3 : At (k + 1) h3 := I.keep _ _ _ hA2 fun o e => X3.keep _ _ e (hP2.off it (.inl rfl)).1 (by simp)
    cases b with
    | false =>
      obtain ⟨hok3, _, hv3⟩ := (show ok H3 ∧ acc.length ≤ lid ∧ iterC f ok (xs.drop (k + 1)) (acc ++ []) H3 P from hb)
      rw [List.append_nil] at hv3
      exact ⟨xs.length - (k + 1), by omega, acc, μ3, h3, H3, t3, k + 1, rfl, by omega, hA3, hP3, hok3, hv3⟩
    | true =>
      rw [if_pos rfl]
      refine wp_rt (he.1 A env names sl _ hE R e hte { s with heap := h3, toks := t3 } μ3 H3 (l.set slot (some y)) _ S3 (F2.ext X3) hb) fun val w H4 μ4 h4 t4 hx6 rw4 S4 X4 => ?_
      obtain ⟨hok4, hl4, hv4⟩ := hx6
      have hP4 : Lp c it L C μ1 h1 pls l acc μ4 h4 H4 := hP3.ext S4 X4 (I.there _ _ hA3)
      have hA4 : At (k + 1) h4 := I.keep _ _ _ hA3 fun o e => X4.keep _ _ e (hP3.off it (.inl rfl)).1 (by simp)
      obtain ⟨vals4, n4, g4, q4⟩ := hP4.dl
      obtain ⟨m4, hm4⟩ := hP4.ns
      refine list_append_call (s := { s with heap := h4, toks := t4 }) g4 (by rw [q4.length]; exact Nat.le_trans hl4 lid_le) ?_
      have hsu := Heap.SameBut.update h4 L (Obj.mapSeq fun xs => xs.push val)
      refine ⟨xs.length - (k + 1), by omega, acc ++ [w], μ4, _, H4, t4, k + 1, rfl, by omega, I.keep _ _ _ hA4 fun o e => by rw [hsu.2 _ h12]; exact e, ?_, hok4, hv4⟩
      have g5 := IsL.update g4 (fun xs => xs.push val)
      rw [List.push_toArray] at g5
      exact hP4.turn (.inr (.inl rfl)) (fun pl hp => (hpl pl hp).2.1) (fun b o hb e => by rw [hsu.2 b hb]; exact e) ⟨vals4 ++ [val], _, g5, q4.append ⟨rw4, trivial⟩⟩ ⟨m4, hm4.sameBut hsu h23.symm⟩
end Mine
end
section
open PySem PySem.W PySem.Calls PyProof.Rows PySem.SeqAt
namespace Mine
variable {c : Cx} {D : Nm} {fad : Nat → Addr} {T : Tab} {cl : Cl} {d u : Nat}
variable {it L C : Addr} {μ1 μ μ' : Mu} {h1 h h' : Heap} {pls : List Pl} {l : Loc} {acc : List V} {H H' : AH}

theorem comp_run {elt cond : X} (he : SdX c D T cl d u elt) (hc : SdX c D T cl d u cond) {A : Around} {env : Env} {names : Names} {sl : List Str} (E : En env names sl pls) (R : Room (d + 4) (u + 30) A) {x : Str} {slot : Nat} (hs : sl[slot]? = some x)
    {sc : Scope} (O : ScOk names sl sc x) {clo : List (Str × Addr)} (hclo : ∀ n a, (n, NameKind.free) ∈ sc.names → env.cells.lookup n = some a → clo.lookup n = some a) {ifs : List Expr} {e : Expr}
    (ht : ifsTr ifs (isT cond) (fun e => trE D (inner names sc.names) sl cond e) = true) (hte : trE D (inner names sc.names) sl elt e = true)
    {xs : List V} {ok : AH → Prop} {At : Nat → Heap → Prop} (I : Iter c A it xs ok μ1 At) {s : Shared} (hA : At 0 s.heap) (hit : h1.get? it = none) (hk : ∀ b o, h1.get? b = some o → s.heap.get? b = some o)
    (S : St c h1 μ1 H) (F : Fm c h1 μ1 pls l) (hok : ok H) {P : List V → AH → Prop}
    (hv : iterC (fun x H K => tst (vcE T cl cond (l.set slot (some x)) H) fun b H => if b then vcE T cl elt (l.set slot (some x)) H fun r H => K (some r) H else K none H) ok xs [] H P)
    {use : Option (Value → Sem Unit)} {Q : Value → Shared → Prop} {px : Pos} {iter : Expr} {pos : Pos}
    (hQ : ∀ L C acc μ h H t, h1.get? L = none → h1.get? C = none → L ≠ C → Lp c it L C μ1 h1 pls l acc μ h H → P acc H → compPost (model c.prog c.w) A no use Q (.ref L) C (.ok .next) { s with heap := h, toks := t }) :
    wpAny (model c.prog c.w) A (newList []) (fun acc s₃ => wpAny (model c.prog c.w) A (newFunctionEnv sc env.globals clo [] env.qual none Value.none (some env)) (fun cenv s₄ =>
      codeAny (model c.prog c.w) A (.compStart (.ListComp e [⟨.Name x px, iter, ifs, 0⟩] sc pos) 0 (.ref it) acc { scope := relabel sc env, locals := cenv.locals, globals := cenv.globals, cells := cenv.cells, qual := cenv.qual, func := cenv.func, code := cenv.code, frame := cenv.frame, builtins := cenv.builtins })
        (compPost (model c.prog c.w) A no use Q acc cenv.locals) s₄) no s₃) no s := by
  obtain ⟨oi, hoi⟩ := I.there _ _ hA
  refine wpAny_newList ?_ (by rw [List.length_nil]; exact Nat.zero_le _)
  refine wpAny_newFunctionEnv O.cell (fun x hx => nomatch hx) (fun h' hns hsb => ?_) O.fn
  -- the places
  have hkp : ∀ b o, s.heap.get? b = some o → h'.get? b = some o := fun b o e => by
    have e2 := Heap.get?_push_of_some { cls := .type "list", data := .seq ([] : List Value).toArray } e
    have hb : b ≠ (s.heap.push { cls := .type "list", data := .seq ([] : List Value).toArray }).objs.size := fun z => by
      have := Heap.lt_size e2; rw [z] at this; exact Nat.lt_irrefl _ this
    rw [hsb.2 b hb]
    exact Heap.get?_push_of_some _ e2
  have hsz : (s.heap.push { cls := .type "list", data := .seq ([] : List Value).toArray }).objs.size = s.heap.objs.size + 1 := Heap.size_push _ _
  have hL : h'.get? s.heap.objs.size = some { cls := .type "list", data := .seq ([] : List Value).toArray } := by
    rw [hsb.2 _ (by rw [hsz]; exact Nat.ne_of_lt (Nat.lt_succ_self _))]
    exact Heap.get?_push_of_some _ (Heap.get?_push_size _ rfl)
  have hlt : ∀ b o, s.heap.get? b = some o → b < s.heap.objs.size := fun b o e => Heap.lt_size e
  have nL : h1.get? s.heap.objs.size = none := by
    cases q : h1.get? s.heap.objs.size with
    | none => rfl
    | some o => exact absurd (hlt _ _ (hk _ _ q)) (Nat.lt_irrefl _)
  have nC : h1.get? (s.heap.push { cls := .type "list", data := .seq ([] : List Value).toArray }).objs.size = none := by
    rw [hsz]
    cases q : h1.get? (s.heap.objs.size + 1) with
    | none => rfl
    | some o => exact absurd (hlt _ _ (hk _ _ q)) (Nat.not_lt.mpr (Nat.le_succ _))
  have hpl : ∀ a, h1.get? a = none → ∀ pl ∈ pls, pl.at ≠ a := fun a ha pl hp z => by
    obtain ⟨o, ho⟩ := (F.there pl hp).obj
    rw [z, ha] at ho; cases ho
  have d12 : it ≠ s.heap.objs.size := Nat.ne_of_lt (hlt _ _ hoi)
  have d13 : it ≠ (s.heap.push { cls := .type "list", data := .seq ([] : List Value).toArray }).objs.size := by rw [hsz]; have := hlt _ _ hoi; exact Nat.ne_of_lt (Nat.lt_succ_of_lt this)
  have d23 : s.heap.objs.size ≠ (s.heap.push { cls := .type "list", data := .seq ([] : List Value).toArray }).objs.size := by rw [hsz]; exact Nat.ne_of_lt (Nat.lt_succ_self _)
  have k1 : ∀ b o, h1.get? b = some o → h'.get? b = some o := fun b o e => hkp b o (hk b o e)
  have S' : St c h' μ1 H := S.same k1
  have X' : Ext [] μ1 h1 μ1 h' := ⟨⟨[], by simp, by simp [foot]⟩, fun b o e _ _ => k1 b o e⟩
  have P0 : Lp c it s.heap.objs.size (s.heap.push { cls := .type "list", data := .seq ([] : List Value).toArray }).objs.size μ1 h1 pls l [] μ1 h' H := by
    refine ⟨S', X'.widen (fun a ha => nomatch ha), fun a ha => ?_, ⟨[], 0, hL, trivial⟩, ⟨_, hns⟩, F.ext X'⟩
    refine S.fresh ?_
    rcases ha with rfl | rfl | rfl
    · exact hit
    · exact nL
    · exact nC
  have E' : En { scope := relabel sc env, locals := (s.heap.push { cls := .type "list", data := .seq ([] : List Value).toArray }).objs.size, globals := env.globals, cells := clo, qual := env.qual, func := none, code := env.code, frame := env.frame, builtins := env.builtins : Env } (inner names sc.names) sl (pls.set slot (.ns (s.heap.push { cls := .type "list", data := .seq ([] : List Value).toArray }).objs.size x)) :=
    E.inner O hs (hpl _ nC) rfl rfl rfl rfl hclo
  have hx : (inner names sc.names).lookup x = some .local := by rw [lookup_inner, O.hx]; rfl
  have main : ∀ {Rs : Result → Shared → Prop}, (∀ acc μ h H t, Lp c it s.heap.objs.size (s.heap.push { cls := .type "list", data := .seq ([] : List Value).toArray }).objs.size μ1 h1 pls l acc μ h H → P acc H → Rs (.ok .next) { s with heap := h, toks := t }) →
      codeAny (model c.prog c.w) A (.compLoop (.ListComp e [⟨.Name x px, iter, ifs, 0⟩] sc pos) 0 (.ref it) (.ref s.heap.objs.size) { scope := relabel sc env, locals := (s.heap.push { cls := .type "list", data := .seq ([] : List Value).toArray }).objs.size, globals := env.globals, cells := clo, qual := env.qual, func := none, code := env.code, frame := env.frame, builtins := env.builtins }) Rs { s with heap := h' } := fun hR =>
    loop_sound (s := { s with heap := h' }) he hc hs E.len E' hx rfl R ht hte I d12 d13 d23 (fun pl hp => ⟨hpl _ hit pl hp, hpl _ nL pl hp, hpl _ nC pl hp⟩) (I.keep _ _ _ hA fun o e => hkp _ _ e) P0 hok hv hR
  have fin := main (Rs := compPost (model c.prog c.w) A no use Q (.ref s.heap.objs.size) (s.heap.push { cls := .type "list", data := .seq ([] : List Value).toArray }).objs.size) fun acc μ h H t hP hPv => hQ _ _ acc μ h H t nL nC d23 hP hPv
  exact codeAny_compStart_list fin (I.iter 0 _ _ _ (I.keep _ _ _ hA fun o e => hkp _ _ e) fin)

/-- the list that the loop has made is borne from here on -/
theorem Lp.done (P : Lp c it L C μ1 h1 pls l acc μ h H) (nI : h1.get? it = none) (nL : h1.get? L = none) (nC : h1.get? C = none) :
    St c h (μ ++ [(L, none)]) (H ++ [.list acc]) ∧ RV c.B (μ ++ [(L, none)]) (.ref H.length) (.ref L) ∧ Ext [] μ1 h1 (μ ++ [(L, none)]) h := by
  obtain ⟨vals, n, g, q⟩ := P.dl
  refine ⟨P.st.adopt (fun a ha => ?_) (by simp [feet]) ⟨rfl, vals, n, g, q.mono ⟨_, rfl⟩⟩, RV.last P.st.len, ?_⟩
  · have : a = L := by simpa [feet] using ha
    subst this
    exact P.off _ (.inr (.inl rfl))
  · refine (P.x.trans (μ'' := μ ++ [(L, none)]) (h'' := h) ⟨⟨_, rfl, fun a ha _ ho => ?_⟩, fun b o e _ _ => e⟩).widen fun a ha => ?_
    · have : a = L := by simpa [foot, feet] using ha
      subst this
      exact absurd (by simp) ho
    · right
      simp only [List.mem_cons, List.not_mem_nil, or_false] at ha
      rcases ha with rfl | rfl | rfl <;> assumption

theorem isTrue_ListComp (e : Expr) (gens : List Comprehension) (sc : Scope) (p : Pos) (env : Env) (whole : Sem Value) : isTrue (.ListComp e gens sc p) env whole = (do let v ← whole; standAt (Expr.ListComp e gens sc p).pos; holding [v] (truthy v)) := rfl

theorem notSet_folded {e : Expr} (h : notSet e = true) (env : Env) (x : Value) : foldedSetIterable e env x = pure x := by
  cases e <;> first | rfl | cases h

theorem En.cells_there {env : Env} {names : Names} {sl : List Str} {pls : List Pl} (E : En env names sl pls) : ∀ n ∈ sl, names.lookup n = some .cell → ∃ a, env.cells.lookup n = some a := fun n hn hk => by
  obtain ⟨i, hi, e⟩ := List.getElem_of_mem hn
  obtain ⟨a, _, ha⟩ := E.cel i n (by rw [List.getElem?_eq_getElem hi, e]) (.inl hk)
  exact ⟨a, ha⟩

/-- a source's iterator -/
theorem src_iter {A : Around} (hh : A.handled = none) {s : Shared} {v : V} {x : Value} {xs : List V} (S : St c s.heap μ H) (rv : RV c.B μ v x) (hi : itemsOf v H = some xs) {Q : Value → Shared → Prop} {E : Value → Shared → Prop}
    (h : ∀ o At, Iter c A s.heap.objs.size xs (fun H' => objOf v H' = objOf v H) μ At → At 0 (s.heap.push o) → o.isFreed = false → Q (.ref s.heap.objs.size) { s with heap := s.heap.push o }) :
    wpAny (model c.prog c.w) A (pyIter x) Q E s := by
  obtain ⟨i, rfl, hj⟩ := items_some hi
  obtain ⟨p, hp, rfl⟩ := rv
  clear hi
  rcases hj with hi | hi
  · obtain ⟨_, vs, n, g, q⟩ := S.obj _ _ _ hi hp
    refine wpAny_pyIter_list ⟨_, g, rfl, n, rfl⟩ (h _ _ (iter_list hh hp hi _) ⟨_, Heap.get?_push_size _ rfl, rfl, rfl⟩ rfl)
  · obtain ⟨_, vs, n, g, q⟩ := S.obj _ _ _ hi hp
    refine wpAny_pyIter_tuple ⟨_, g, rfl, n, rfl⟩ (h _ _ (iter_tup hh hp hi _) ⟨_, Heap.get?_push_size _ rfl, rfl, rfl⟩ rfl)

/-- a comprehension over a list or a tuple, whatever takes the list -/
theorem comp_core {elt cond src : X} (he : SdX c D T cl d u elt) (hc : SdX c D T cl d u cond) (hsrc : SdX c D T cl d u src) {A : Around} {env : Env} {names : Names} {sl : List Str} (E : En env names sl pls) (R : Room (d + 4) (u + 30) A) {slot : Nat} {e : Expr}
    (ht : trE D names sl (.comp elt slot src cond) e = true) {s : Shared} {P : V → AH → Prop} (S : St c s.heap μ H) (F : Fm c s.heap μ pls l) (hv : vcE T cl (.comp elt slot src cond) l H P)
    {use : Option (Value → Sem Unit)} {Q : Value → Shared → Prop}
    (hQ : ∀ L C m v H' μ' h' t', s.heap.get? C = none → C ∉ foot μ' → h'.Ns C m → P v H' → RV c.B μ' v (.ref L) → St c h' μ' H' → Ext [] μ s.heap μ' h' → compPost (model c.prog c.w) A no use Q (.ref L) C (.ok .next) { s with heap := h', toks := t' }) :
    ∃ gens sc pos elt', e = .ListComp elt' gens sc pos ∧ wpAny (model c.prog c.w) A (comprehension e sc env (firstIterPos gens pos) (newList []) (firstAsync gens) (firstIter gens env) use) Q no s := by
  refine vGen_el (trE_comp ht) fun e x px it ifs sc pos ht => ?_
  simp only [Bool.and_eq_true] at ht
  obtain ⟨⟨⟨⟨⟨t1, t2⟩, t3⟩, t4⟩, t5⟩, t7⟩ := ht
  have O := scOk_of t2
  obtain ⟨clo, hclo, hlk⟩ := closure_ok E.cells_there O
  refine ⟨_, _, _, _, rfl, ?_⟩
  refine wpAny_comprehension_free (g := ⟨.Name x px, it, ifs, 0⟩) (gs := []) rfl (fun y => notSet_folded t3 env y) hclo O.fn (fun y hy hl => (O.loc y hy hl).1) ?_
  refine wp_rt (hsrc.1 A env names sl pls E R it t4 s μ H l _ S F hv) fun va v H' μ' h' t' hx6 rv S' X => ?_
  obtain ⟨xs, hxs, hl, hP⟩ := hx6
  refine src_iter (s := { s with heap := h', toks := t' }) R.1 S' rv hxs fun o At I hA hfr => ?_
  refine comp_run he hc E R (by simpa using t1) O hlk t5 t7 I hA (get_none (Nat.le_refl _)) (fun b ob eb => Heap.get?_push_of_some _ eb) S' (F.ext X) rfl hP fun L C acc μ2 h2 H2 t2 nL nC hLC hLp hPv => ?_
  obtain ⟨S2, r2, X2⟩ := hLp.done (get_none (Nat.le_refl _)) nL nC
  obtain ⟨m, hm⟩ := hLp.ns
  have nC0 : s.heap.get? C = none := by
    cases q : s.heap.get? C with
    | none => rfl
    | some o =>
      by_cases hmu : C ∈ foot μ
      · obtain ⟨_, o', ho'⟩ := S.low _ hmu
        obtain ⟨e2, rfl, _⟩ := X.pre
        obtain ⟨_, o3, h3⟩ := S'.low C (by rw [foot_append]; exact List.mem_append_left _ hmu)
        rw [nC] at h3; cases h3
      · have := X.keep C o q hmu (by simp)
        rw [nC] at this; cases this
  refine hQ L C m _ _ _ h2 t2 nC0 ?_ hm hPv r2 S2 (X.trans X2)
  rw [foot_append]
  intro hx
  rcases List.mem_append.mp hx with hx | hx
  · exact (hLp.off C (.inr (.inr rfl))).1 hx
  · have : C = L := by simpa [foot, feet] using hx
    exact hLC this.symm

theorem SameBut_keeps {C : Addr} {h h' : Heap} (hs : Heap.SameBut C h h') : ∀ b o, b ≠ C → h.get? b = some o → h'.get? b = some o := fun b o hb e => by rw [hs.2 b hb]; exact e

/-- the block's names are let go of -/
theorem let_go {s : Shared} {v : V} {x : Value} {H' : AH} {P : V → AH → Prop} {h' h'' : Heap} {t' : Nat} (hC : s.heap.get? C = none) (hf : C ∉ foot μ') (hP : P v H') (rv : RV c.B μ' v x) (S : St c h' μ' H') (hB : c.B.get? C = none) (X : Ext [] μ s.heap μ' h') (hs : Heap.SameBut C h' h'') :
    Rt c s μ P x { s with heap := h'', toks := t' } := by
  refine ⟨v, H', μ', h'', t', rfl, hP, rv, S.off (own := [C]) (fun b hb => by rw [List.mem_singleton.mp hb]; exact ⟨hf, hB⟩) (fun b o hb e => SameBut_keeps hs b o (fun z => hb (by rw [z]; exact List.mem_singleton_self _)) e), ?_⟩
  refine ((X.widen (own' := [C]) (fun a ha => nomatch ha)).turn (List.mem_singleton_self _) (SameBut_keeps hs)).widen fun a ha => .inr ?_
  rw [List.mem_singleton.mp ha]; exact hC

theorem sd_comp {elt cond src : X} {slot : Nat} (he : SdX c D T cl d u elt) (hc : SdX c D T cl d u cond) (hsrc : SdX c D T cl d u src) : SdX c D T cl d u (.comp elt slot src cond) := by
  refine sdT_of ?_ ?_
  · intro A env names sl pls E R e ht s μ H l P S F hv
    obtain ⟨gens, sc, pos, elt', rfl, h⟩ := comp_core (use := none) (Q := Rt c s μ P) he hc hsrc E R ht S F hv fun L C m v H' μ' h' t' hC hf hm hP rv S' X =>
      ⟨m, hm, fun h'' hs => let_go hC hf hP rv S' (by
        cases q : c.B.get? C with
        | none => rfl
        | some o => rw [S.base _ _ q] at hC; cases hC) X hs⟩
    rw [arm_eval_ListComp]
    exact h
  · intro names sl e ht env whole
    refine vGen_el (trE_comp ht) fun _ _ _ _ _ _ _ ht => ?_
    rfl

/-! ## over a range -/
theorem upL_get (n : Int) (k : Nat) (h : k < n.toNat) : (upL n)[k]? = some (.int (0 + k * 1)) := by
  unfold upL
  rw [List.getElem?_map, List.getElem?_range h]
  simp
theorem upL_len (n : Int) : (upL n).length = n.toNat := by simp [upL]

theorem compR_core (G : Gd c D fad T) {elt cond hi : X} (he : SdX c D T cl d u elt) (hc : SdX c D T cl d u cond) (hhi : SdX c D T cl d u hi) {A : Around} {env : Env} {names : Names} {sl : List Str} (E : En env names sl pls) (R : Room (d + 4) (u + 30) A) {slot : Nat} {e : Expr}
    (ht : trE D names sl (.compR elt slot hi cond) e = true) {s : Shared} {P : V → AH → Prop} (S : St c s.heap μ H) (F : Fm c s.heap μ pls l) (hv : vcE T cl (.compR elt slot hi cond) l H P)
    {use : Option (Value → Sem Unit)} {Q : Value → Shared → Prop}
    (hQ : ∀ L C m v H' μ' h' t', s.heap.get? C = none → C ∉ foot μ' → h'.Ns C m → P v H' → RV c.B μ' v (.ref L) → St c h' μ' H' → Ext [] μ s.heap μ' h' → compPost (model c.prog c.w) A no use Q (.ref L) C (.ok .next) { s with heap := h', toks := t' }) :
    ∃ gens sc pos elt', e = .ListComp elt' gens sc pos ∧ wpAny (model c.prog c.w) A (comprehension e sc env (firstIterPos gens pos) (newList []) (firstAsync gens) (firstIter gens env) use) Q no s := by
  refine vGenR_el (trE_compR ht) fun e x px id pp hx pp2 ifs sc pos ht => ?_
  simp only [Bool.and_eq_true, beq_iff_eq] at ht
  obtain ⟨⟨⟨⟨⟨⟨⟨t1, t2⟩, t3⟩, t4⟩, t8⟩, t9⟩, t5⟩, t7⟩ := ht
  have O := scOk_of t2
  obtain ⟨clo, hclo, hlk⟩ := closure_ok E.cells_there O
  refine ⟨_, _, _, _, rfl, ?_⟩
  refine wpAny_comprehension_free (g := ⟨.Name x px, .Call (.Name id pp) [hx] [] pp2, ifs, 0⟩) (gs := []) rfl (fun y => rfl) hclo O.fn (fun y hy hl => (O.loc y hy hl).1) ?_
  show wpAny _ _ (eval (.Call (.Name id pp) [hx] [] pp2) env) _ _ _
  refine wpAny_Call_NameR (builtin_name G E S t4 (.inr (.inr ⟨t3, rfl⟩)) ?_)
  rw [star1 t8]
  refine callWith_excType rfl (evalArgs_plain (spliced_cons (wp_go (hhi.1 A env names sl pls E R hx t9 s μ H l _ S F hv) fun va s' hr => spliced_nil ?_)))
  obtain ⟨v, H', μ', h', t', rfl, ⟨n, rfl, h0, hl, hP⟩, ⟨tk, rfl⟩, S', X⟩ := hr
  refine call_range_1 (s := { s with heap := h', toks := t' }) ?_
  obtain ⟨S1, X1⟩ := push_same (s := { s with heap := h', toks := t' }) S' { cls := .type "range", data := .fields #[.int 0 t', .int n tk, .int 1 (t' + 1)] }
  have hn : ((n.toNat : Nat) : Int) = n := Int.toNat_of_nonneg h0
  have h63 := lid_small
  have hsm : Builtin.Range.small 0 n 1 = true := by unfold lid at hl; exact small_one (by omega) (by omega) (by omega) (by omega)
  refine wpAny_pyIter_range (s := { s with heap := _, toks := _ }) (Heap.get?_push_size _ rfl) hsm ?_
  have hrs : Builtin.Range.rangeSize 0 n 1 = n := by rw [rangeSize_one]; split <;> omega
  rw [hrs]
  have I := iter_range (c := c) R.1 0 1 n.toNat (upL n) (fun k hk => upL_get n k hk) (upL_len n) (fun _ => True) μ' (h'.push { cls := .type "range", data := .fields #[.int 0 t', .int n tk, .int 1 (t' + 1)] }).objs.size
  refine comp_run he hc E R (by simpa using t1) O hlk t5 t7 I ?_ (get_none (Nat.le_refl _)) (fun b ob eb => Heap.get?_push_of_some _ eb) S1 ((F.ext X).ext X1) trivial hP fun L C acc μ2 h2 H2 t2 nL nC hLC hLp hPv => ?_
  · have := Heap.get?_push_size (h'.push { cls := .type "range", data := .fields #[.int 0 t', .int n tk, .int 1 (t' + 1)] }) (o := { cls := .type "range_iterator", data := .fields #[rawInt 0, rawInt n, rawInt 1] }) rfl
    show IsRangeIter _ _ _ _ _
    rw [hn]
    simpa using this
  · obtain ⟨S2, r2, X2⟩ := hLp.done (get_none (Nat.le_refl _)) nL nC
    obtain ⟨m, hm⟩ := hLp.ns
    have X3 := X.trans X1
    have nC0 : s.heap.get? C = none := by
      cases q : s.heap.get? C with
      | none => rfl
      | some o =>
        by_cases hmu : C ∈ foot μ
        · obtain ⟨e2, rfl, _⟩ := X.pre
          obtain ⟨_, o3, h3⟩ := S1.low C (by rw [foot_append]; exact List.mem_append_left _ hmu)
          rw [nC] at h3; cases h3
        · have := X3.keep C o q hmu (by simp)
          rw [nC] at this; cases this
    refine hQ L C m _ _ _ h2 t2 nC0 ?_ hm hPv r2 S2 (X3.trans X2)
    rw [foot_append]
    intro hx
    rcases List.mem_append.mp hx with hx | hx
    · exact (hLp.off C (.inr (.inr rfl))).1 hx
    · have : C = L := by simpa [foot, feet] using hx
      exact hLC this.symm

theorem sd_compR (G : Gd c D fad T) {elt cond hi : X} {slot : Nat} (he : SdX c D T cl d u elt) (hc : SdX c D T cl d u cond) (hhi : SdX c D T cl d u hi) : SdX c D T cl d u (.compR elt slot hi cond) := by
  refine sdT_of ?_ ?_
  · intro A env names sl pls E R e ht s μ H l P S F hv
    obtain ⟨gens, sc, pos, elt', rfl, h⟩ := compR_core G (use := none) (Q := Rt c s μ P) he hc hhi E R ht S F hv fun L C m v H' μ' h' t' hC hf hm hP rv S' X =>
      ⟨m, hm, fun h'' hs => let_go hC hf hP rv S' (by
        cases q : c.B.get? C with
        | none => rfl
        | some o => rw [S.base _ _ q] at hC; cases hC) X hs⟩
    rw [arm_eval_ListComp]
    exact h
  · intro names sl e ht env whole
    refine vGenR_el (trE_compR ht) fun _ _ _ _ _ _ _ _ _ _ ht => ?_
    rfl
end Mine
end
section
open PySem PySem.W PySem.Calls PyProof.Rows PySem.SeqAt
namespace Mine
variable {c : Cx} {D : Nm} {fad : Nat → Addr} {T : Tab} {cl : Cl} {d u : Nat}

theorem meets_setitem (l : Addr) (items : Array Value) (n : Nat) (k : Int) (t : Tok) (v : Value) (h0 : 0 ≤ k) (h1 : k < items.size) (hfit : Builtin.List.listFitsIndex k = true) :
    Meets (Builtin.«list.__setitem__» { pos := [Value.ref l, Value.int k t, v] }) fun A R s => IsL s.heap l items n ∧ R (Except.ok (Flow.ret Value.none)) { s with heap := s.heap.update l (Obj.mapSeq fun x => x.setIfInBounds k.toNat v) } := by
  intro prog w A R s hs
  obtain ⟨g, hr⟩ := hs
  unfold Builtin.«list.__setitem__»
  refine wpAny_bind (wpAny_pure (a := (Value.ref l, [Value.int k t, v])) ?_)
  refine wpAny_bind (wpAny_listSubscript_int hfit ?_)
  refine wpAny_bind ?_
  generalize hE : (fun (e : Value) (s' : Shared) => R (Except.error e) s') = E
  generalize hF : (fun (fin : PySem.Fin) (s' : Shared) => match fin with
          | Fin.done f => R (Except.ok f) s'
          | Fin.again c' => c'.quiet = true ∧ codeAny (model prog w) A c' R s') = F
  have hit : ∀ m : Nat, m < items.size → wpAny (model prog w) A.in1 (seqItemAt l m >>= fun o => pure (o.map fun x => (m, x))) (fun a s' => ∃ y, a = some (m, y) ∧ s' = s) no s := fun m hm => by
    refine wpAny_bind (wpAny_seqItemAt g rfl ?_)
    refine wpAny_pure ⟨items[m], ?_, rfl⟩
    simp [hm]
  clear hfit
  cases k with
  | negSucc m => omega
  | ofNat m =>
    refine wp_no (hit m (by have : Int.ofNat m = (m : Int) := rfl; omega)) fun a s' hr' => ?_
    obtain ⟨y, rfl, rfl⟩ := hr'
    subst hF
    exact wpAny_bind (wpAny_setSeqItemAt g rfl (wpAny_pure hr))

theorem set_list {A : Around} {s : Shared} {l : Addr} {items : Array Value} {n : Nat} {k : Int} {t : Tok} {v : Value} {Q : Unit → Shared → Prop} (g : IsL s.heap l items n) (h0 : 0 ≤ k) (h1 : k < items.size) (hfit : Builtin.List.listFitsIndex k = true)
    (hq : Q () { s with heap := s.heap.update l (Obj.mapSeq fun x => x.setIfInBounds k.toNat v) }) : wpAny (model c.prog c.w) A (setItem (.ref l) (.int k t) v) Q no s := by
  have hT : s.TypeIs (.ref l) "list" := ⟨_, g, rfl⟩
  unfold setItem
  refine wpAny_holding (wpAny_bind (wpAny_sequenceKey hT (by decide) (wpAny_bind ?_)))
  refine wpAny_callSpecial?_slot hT PySem.F.slot_list_setitem (call_meets PySem.F.slot_list_setitem hT PySem.F.entry_list_setitem (PySem.F.args_list_setitem_3 _ _ _) (meets_setitem l items n k t v h0 h1 hfit) ⟨g, ?_⟩)
  exact wpAny_pure hq

/-- a name of an object is stored -/
theorem set_attr {A : Around} {s : Shared} {K : Frag} (X : K.In s.heap) {x C dx : Addr} {es : List DictEntry} {n : Nat} {name : Str} {v : Value} {Q : Unit → Shared → Prop} (I : W.InstAt s.heap x (instObj C dx) C (some (dictOf es n)))
    (hs : findIn K (.ref C) "__setattr__" = some (some (.builtin "object.__setattr__"))) (hp : plainOver K C = true) (hf : findIn K (.ref C) name = some none) {cd : ClassData} (hc : clsIn K C = some cd) (hd : cd.hasDict = true)
    (hk : ∀ e ∈ es, ∃ nm t, e.key = .str nm t) (hz : es.length ≤ 1000)
    (hq : Q () { s with heap := s.heap.update dx (Obj.putName name (PyData.keyHash c.w.params name) (.str name (s.toks + 1)) v), toks := s.toks + 2 }) : wpAny (model c.prog c.w) A (setAttr (.ref x) name v) Q no s := by
  refine set_plain X I hs (osa_open (s := { s with toks := s.toks + 1 }) X I hp (r := none) (by unfold takerIn; rw [hf]; rfl) fun b => ?_)
  have D : s.heap.get? dx = some (dictOf es n) := I.dict
  have hx : s.heap.get? x = some (instObj C dx) := I.at_
  have D' : (s.heap.update dx (Obj.putName name (PyData.keyHash c.w.params name) (.str name (s.toks + 1)) v)).get? dx = some (dictOf (putL name (PyData.keyHash c.w.params name) (.str name (s.toks + 1)) v es) (putN name es n)) := by
    rw [Heap.get?_update_self _ D (by rw [putName_dict]; rfl), putName_dict]
  have hlen : (putL name (PyData.keyHash c.w.params name) (.str name (s.toks + 1)) v es).length ≤ 1001 := by
    have : ∀ (h : Int) (k y : Value) (l : List DictEntry), (putL name h k y l).length ≤ l.length + 1 := by
      intro h k y l
      induction l with
      | nil => exact Nat.le_refl _
      | cons e r ih =>
        unfold putL
        split
        · simp
        · simp only [List.length_cons]; omega
    have := this (PyData.keyHash c.w.params name) (.str name (s.toks + 1)) v es
    omega
  refine wpAny_bind (wpAny_pure (wpAny_bind (wpAny_bind (wpAny_loadPart hx (wpAny_bind (Looks.here (s := { s with toks := s.toks + 1 }) (looks_clsIn (h := s.heap) X hc) ?_))))))
  rw [hd]
  refine wpAny_pure (a := some dx) (wpAny_bind (wpAny_pure (wpAny_bind ?_)))
  unfold nsSet
  refine wpAny_bind (wpAny_bind (wpAny_askSetting (wpAny_pure (wpAny_bind (wpAny_mkText (wpAny_bind (wpAny_loadPart D ?_)))))))
  have hr : (es.any fun e => e.refKey) = false := by
    rw [List.any_eq_false]
    intro e he
    obtain ⟨nm, t, e1⟩ := hk e he
    unfold DictEntry.refKey
    rw [e1]
    simp
  have cc : (!es.toArray.any (·.key.isStr name) && es.toArray.any (·.refKey)) = false := by
    rw [List.any_toArray, List.any_toArray, hr, Bool.and_false]
  dsimp only
  rw [aRefKeyMayBeTheName_at, cc]
  refine wpAny_updatePart D ?_
  refine wpAny_bind (wpAny_lookBehind D' (pastItsLine_dict (by rw [List.size_toArray, sizeLine_eq]; omega)) ?_)
  exact wpAny_pure hq
end Mine
end
section
open PySem PySem.W PySem.Calls PyProof.Rows PySem.SeqAt
namespace Mine
variable {c : Cx} {D : Nm} {fad : Nat → Addr} {T : Tab} {cl : Cl} {d u : Nat}

/-! ## statements: the translation check -/
noncomputable def notComp : Expr → Bool
  | .ListComp .. | .SetComp .. | .DictComp .. => false
  | _ => true
noncomputable def storeK : Option NameKind → Bool
  | some .local | some .cell => true
  | _ => false
mutual
noncomputable def trS (D : Nm) (names : Names) (sl : List Str) : S → Stmt → Bool
  | .expr x => fun st => wExpr st fun e => notComp e && trE D names sl x e
  | .asg i x => fun st => wAsgN st fun id e => sl[i]? == some id && storeK (names.lookup id) && trE D names sl x e
  | .setA a f x => fun st => wAsgA st fun o n e => notComp e && D.fld[f]? == some n && trE D names sl x e && trE D names sl a o
  | .setI a k x => fun st => wAsgI st fun o i e => notComp e && trE D names sl x e && trE D names sl a o && trE D names sl k i
  | .aug i o x => fun st => wAugN st fun id op e => sl[i]? == some id && plainN id && (names.lookup id == some .local) && (o == .add || o == .sub) && boOk o op && trE D names sl x e
  | .ife t a b => fun st => wIf st fun e x y => trE D names sl t e && trSs D names sl a x && trSs D names sl b y
  | .whl t b => fun st => wWhl st fun e x => trE D names sl t e && trSs D names sl b x
  | .forL slot src b => fun st => wFor st fun id it x => sl[slot]? == some id && storeK (names.lookup id) && notSet it && trE D names sl src it && trSs D names sl b x
  | .forR slot hi b => fun st => wForR st fun id rg h x => sl[slot]? == some id && storeK (names.lookup id) && rg == ("range" : Str) && names.lookup rg == some .globalImplicit && notStar h && trE D names sl hi h && trSs D names sl b x
  | .forD slot hi lo b => fun st => wForD st fun id rg h m x =>
      sl[slot]? == some id && storeK (names.lookup id) && rg == ("range" : Str) && names.lookup rg == some .globalImplicit && notStar h && notStar m && trE D names sl hi h && trE D names sl lo m && trSs D names sl b x
  | .ret x => fun st => wRet st fun o => oS o fun e => trE D names sl x e
  | .retN => fun st => wRet st fun o => oN o true
  | .stuck => fun _ => true
noncomputable def trSs (D : Nm) (names : Names) (sl : List Str) : Ss → List Stmt → Bool
  | .nil, [] => true
  | .cons s ss, t :: ts => trS D names sl s t && trSs D names sl ss ts
  | _, _ => false
end

/-! ## how a statement ends -/
noncomputable def RF (B : Heap) (μ : Mu) : Fl → Flow → Prop
  | .next, .next => True
  | .ret v, .ret x => RV B μ v x
  | _, _ => False
noncomputable def RtS (c : Cx) (pls : List Pl) (s : Shared) (μ : Mu) (P : Fl → Loc → AH → Prop) (fl : Flow) (s' : Shared) : Prop :=
  ∃ f l' H' μ' h' t', s' = { s with heap := h', toks := t' } ∧ P f l' H' ∧ RF c.B μ' f fl ∧ St c h' μ' H' ∧ Fm c h' μ' pls l' ∧ Ext (pls.map Pl.at) μ s.heap μ' h'
theorem wp_rs {M : Model} {A : Around} {t : Sem Flow} {pls : List Pl} {s s₀ : Shared} {μ : Mu} {P : Fl → Loc → AH → Prop} {Q : Flow → Shared → Prop} {E : Value → Shared → Prop} (h : wpAny M A t (RtS c pls s μ P) no s₀)
    (k : ∀ fl f l' H' μ' h' t', P f l' H' → RF c.B μ' f fl → St c h' μ' H' → Fm c h' μ' pls l' → Ext (pls.map Pl.at) μ s.heap μ' h' → Q fl { s with heap := h', toks := t' }) : wpAny M A t Q E s₀ :=
  wpAny_mono h (fun val _ hr => by
    obtain ⟨f, l', H', μ', h', t', rfl, a, b, c, d, e⟩ := hr
    exact k val f l' H' μ' h' t' a b c d e) fun _ _ x => x.elim
theorem RtS.more {pls : List Pl} {s : Shared} {μ μ' : Mu} {h' : Heap} {t' : Nat} {P : Fl → Loc → AH → Prop} {fl : Flow} {s' : Shared} (X : Ext (pls.map Pl.at) μ s.heap μ' h') (r : RtS c pls { s with heap := h', toks := t' } μ' P fl s') : RtS c pls s μ P fl s' := by
  obtain ⟨f, l', H', μ'', h'', t'', rfl, hP, rf, S', F', X'⟩ := r
  exact ⟨f, l', H', μ'', h'', t'', rfl, hP, rf, S', F', X.trans X'⟩
theorem Ext.any {own : List Addr} {μ μ' : Mu} {h h' : Heap} (x : Ext [] μ h μ' h') : Ext own μ h μ' h' := x.widen fun _ ha => nomatch ha

theorem Ns_det {h : Heap} {a : Addr} {m m' : Str → Option Value} (x : h.Ns a m) (y : h.Ns a m') : m = m' := by
  obtain ⟨o, es, ep, ho, hd, _, hf⟩ := x
  obtain ⟨o', es', ep', ho', hd', _, hf'⟩ := y
  rw [ho] at ho'; cases ho'
  rw [hd] at hd'; cases hd'
  funext n
  rw [← hf n, hf' n]
theorem Ns_Cell {h : Heap} {a : Addr} {m : Str → Option Value} {v : Option Value} (x : h.Ns a m) (y : h.IsCell a v) : False := by
  obtain ⟨o, es, ep, ho, hd, _, hf⟩ := x
  obtain ⟨o', ho', hd'⟩ := y
  rw [ho] at ho'; cases ho'
  rw [hd] at hd'; cases hd'

theorem feet_nodup {μ : Mu} (hn : (foot μ).Nodup) : ∀ {p : Addr × Option Addr}, p ∈ μ → (feet p).Nodup := by
  induction μ with
  | nil => exact fun h => nomatch h
  | cons x r ih =>
    rw [foot, List.flatMap_cons, List.nodup_append] at hn
    intro p hp
    rcases List.mem_cons.mp hp with rfl | hp
    · exact hn.1
    · exact ih hn.2.1 hp
noncomputable def Turned (h h' : Heap) (x : Value) : Pl → Prop
  | .ns L n => ∀ m, h.Ns L m → h'.Ns L (fun y => if y = n then some x else m y)
  | .cell a => h'.IsCell a (some x)
/-- a place has turned to v -/
theorem Fm.store {h h' : Heap} {μ : Mu} {pls : List Pl} {l : Loc} (F : Fm c h μ pls l) {i : Nat} {pl : Pl} (hp : pls[i]? = some pl) (one : ∀ (j : Nat) (q : Pl), pls[j]? = some q → q = pl → j = i) {v : V} {x : Value} (rv : RV c.B μ v x)
    (hsb : Heap.SameBut pl.at h h') (hn : Turned h h' x pl) : Fm c h' μ pls (l.set i (some v)) := by
  have keep : ∀ q : Pl, q.at ≠ pl.at → ∀ o, h.get? q.at = some o → h'.get? q.at = some o := fun q hq o e => by rw [hsb.2 _ hq]; exact e
  refine ⟨fun j w hj => ?_, fun q hq => ?_, F.apart⟩
  · by_cases e : j = i
    · subst e
      rw [List.getElem?_set] at hj
      simp only [if_true] at hj
      split at hj
      · cases hj
        refine ⟨pl, hp, ?_⟩
        cases pl with
        | ns L n =>
          obtain ⟨m, hm⟩ := F.there _ (List.mem_of_getElem? hp)
          exact ⟨_, x, hn m hm, by simp, rv⟩
        | cell a => exact ⟨x, hn, rv⟩
      · cases hj
    · rw [List.getElem?_set_ne (Ne.symm e)] at hj
      obtain ⟨q, hq, hqo⟩ := F.val j w hj
      refine ⟨q, hq, ?_⟩
      by_cases hat : q.at = pl.at
      · cases pl with
        | ns L n =>
          cases q with
          | ns L' n' =>
            obtain rfl : L' = L := hat
            obtain ⟨m, y, h1, h2, h3⟩ := hqo
            have hne : n' ≠ n := fun z => e (one j _ hq (by rw [z]))
            exact ⟨_, y, hn m h1, by rw [if_neg hne]; exact h2, h3⟩
          | cell a =>
            obtain rfl : a = L := hat
            obtain ⟨y, h1, _⟩ := hqo
            obtain ⟨m, hm⟩ := F.there _ (List.mem_of_getElem? hp)
            exact (Ns_Cell hm h1).elim
        | cell a =>
          cases q with
          | ns L' n' =>
            obtain rfl : L' = a := hat
            obtain ⟨m, y, h1, h2, h3⟩ := hqo
            obtain ⟨w, hw⟩ := F.there _ (List.mem_of_getElem? hp)
            exact (Ns_Cell h1 hw).elim
          | cell a' =>
            obtain rfl : a' = a := hat
            exact absurd (one j _ hq rfl) e
      · exact hqo.keep ⟨[], by simp⟩ (keep q hat)
  · by_cases hat : q.at = pl.at
    · cases pl with
      | ns L n =>
        obtain ⟨m, hm⟩ := F.there _ (List.mem_of_getElem? hp)
        cases q with
        | ns L' n' => obtain rfl : L' = L := hat; exact ⟨_, hn m hm⟩
        | cell a =>
          obtain rfl : a = L := hat
          obtain ⟨w, hw⟩ := F.there _ hq
          exact (Ns_Cell hm hw).elim
      | cell a =>
        cases q with
        | ns L' n' =>
          obtain rfl : L' = a := hat
          obtain ⟨m, hm⟩ := F.there _ hq
          obtain ⟨w, hw⟩ := F.there _ (List.mem_of_getElem? hp)
          exact (Ns_Cell hm hw).elim
        | cell a' => obtain rfl : a' = a := hat; exact ⟨_, hn⟩
    · exact (F.there q hq).keep (keep q hat)

theorem store_sound {A : Around} {env : Env} {names : Names} {sl : List Str} {pls : List Pl} (E : En env names sl pls) {i : Nat} {id : Str} (hs : sl[i]? = some id) (hk : storeK (names.lookup id) = true)
    {s : Shared} {μ : Mu} {H : AH} {l : Loc} {v : V} {x : Value} {P : Fl → Loc → AH → Prop} (S : St c s.heap μ H) (F : Fm c s.heap μ pls l) (rv : RV c.B μ v x) (hP : P .next (l.set i (some v)) H) {Ex : Value → Shared → Prop} :
    wpAny (model c.prog c.w) A (storeName env id x) (fun _ s' => RtS c pls s μ P .next s' ∧ ∀ b o, (∀ pl ∈ pls, pl.at ≠ b) → s.heap.get? b = some o → s'.heap.get? b = some o) Ex s := by
  have fin : ∀ (pl : Pl) (h' : Heap) (t' : Nat), pls[i]? = some pl → Heap.SameBut pl.at s.heap h' → Turned s.heap h' x pl → RtS c pls s μ P .next { s with heap := h', toks := t' } ∧ ∀ b o, (∀ pl ∈ pls, pl.at ≠ b) → s.heap.get? b = some o → h'.get? b = some o := fun pl h' t' hp hsb hn => by
    have hm := List.mem_of_getElem? hp
    refine ⟨⟨.next, _, H, μ, h', t', rfl, hP, trivial, ?_, F.store hp (fun j q hq e => E.one j i q pl hq hp e) rv hsb hn, ?_⟩, fun b o hb e => by rw [hsb.2 b (hb pl hm).symm]; exact e⟩
    · exact S.off (own := [pl.at]) (fun b hb => by rw [List.mem_singleton.mp hb]; exact F.apart pl hm) fun b o hb e => by rw [hsb.2 b (fun z => hb (by rw [z]; exact List.mem_singleton_self _))]; exact e
    · exact Ext.refl.turn (List.mem_map_of_mem hm) fun b o hb e => by rw [hsb.2 b hb]; exact e
  unfold storeK at hk
  split at hk
  · rename_i hn
    have hp := E.loc i id hs hn
    obtain ⟨m, hm⟩ := F.there _ (List.mem_of_getElem? hp)
    refine wpAny_storeName_local ((E.kind id).trans hn) hm (fun h' hn' hsb => fin _ h' _ hp hsb fun m' hm' => by rw [Ns_det hm' hm]; exact hn') (by rw [E.fn]; rfl)
  · rename_i hn
    obtain ⟨a, hp, hcl⟩ := E.cel i id hs (.inl hn)
    obtain ⟨v0, hc0⟩ := F.there _ (List.mem_of_getElem? hp)
    exact wpAny_storeName_cell E.fn ((E.kind id).trans hn) hcl hc0 fun h' hc' hsb => fin _ h' s.toks hp hsb hc'
  · cases hk

section
variable (c : Cx) (D : Nm) (T : Tab) (cl : Cl) (d u : Nat)
noncomputable def SdS (x : S) : Prop := ∀ A env names sl pls, En env names sl pls → Room (d + 4) (u + 30) A → ∀ st, trS D names sl x st = true → ∀ s μ H l P, St c s.heap μ H → Fm c s.heap μ pls l →
  vcS T cl x l H P → wpAny (model c.prog c.w) A (exec st env) (RtS c pls s μ P) no s
noncomputable def SdSs (x : Ss) : Prop := ∀ A env names sl pls, En env names sl pls → Room (d + 4) (u + 30) A → ∀ sts, trSs D names sl x sts = true → ∀ s μ H l P, St c s.heap μ H → Fm c s.heap μ pls l →
  vcSs T cl x l H P → wpAny (model c.prog c.w) A (execs sts env) (RtS c pls s μ P) no s
end

theorem inter_off {env : Env} {names : Names} {sl : List Str} {pls : List Pl} (E : En env names sl pls) : interactive env = false := by
  unfold interactive
  rw [E.fn]; rfl
theorem swaps_none {e : Expr} (h : notComp e = true) (t : Option Expr) (n : Nat) (env : Env) : swapsWith e t n env = pure false := by
  cases e <;> first | rfl | cases h

theorem sd_expr {x : X} (hx : SdX c D T cl d u x) : SdS c D T cl d u (.expr x) := by
  intro A env names sl pls E R st ht s μ H l P S F hv
  refine wExpr_el ht fun e pos ht => ?_
  simp only [Bool.and_eq_true] at ht
  refine wpAny_Expr_any (wp_rt (hx.1 A env names sl pls E R e ht.2 s μ H l _ S F hv) fun val v H' μ' h' t' hx6 rv S' X => ?_) (inter_off E) (swaps_none ht.1 ..)
  obtain ⟨_, _, hP⟩ := hx6
  exact ⟨.next, l, H', μ', h', t', rfl, hP, trivial, S', F.ext X, X.any⟩

theorem sd_ret {x : X} (hx : SdX c D T cl d u x) : SdS c D T cl d u (.ret x) := by
  intro A env names sl pls E R st ht s μ H l P S F hv
  refine wRet_el ht fun _ pos ht => oS_el (M := fun o => wpAny _ _ (exec (.Return o pos) env) _ _ _) ht fun e ht => ?_
  refine wpAny_Return_some (wp_rt (hx.1 A env names sl pls E R _ ht s μ H l _ S F hv) fun val v H' μ' h' t' hP rv S' X => ?_)
  exact ⟨.ret v, l, H', μ', h', t', rfl, hP, rv, S', F.ext X, X.any⟩
theorem sd_retN : SdS c D T cl d u .retN := by
  intro A env names sl pls E R st ht s μ H l P S F hv
  refine wRet_el ht fun _ pos ht => oN_el (M := fun o => wpAny _ _ (exec (.Return o pos) env) _ _ _) ht fun _ => ?_
  exact wpAny_Return_none ⟨.ret .none, l, H, μ, s.heap, s.toks, rfl, hv, rfl, S, F, .refl⟩
theorem sd_stuckS : SdS c D T cl d u .stuck := fun _ _ _ _ _ _ _ _ _ _ _ _ _ _ _ _ hv => hv.elim

theorem sd_ife {x : X} {a b : Ss} (hx : SdX c D T cl d u x) (ha : SdSs c D T cl d u a) (hb : SdSs c D T cl d u b) : SdS c D T cl d u (.ife x a b) := by
  intro A env names sl pls E R st ht s μ H l P S F hv
  refine wIf_el ht fun _ _ _ _ ht => ?_
  simp only [Bool.and_eq_true] at ht
  refine wpAny_If (wp_rb (hx.test E R ht.1.1 S F hv) fun t H' μ' h' t' hP S' X => ?_)
  cases t with
  | true => exact wp_go (ha A env names sl pls E R _ ht.1.2 _ μ' H' l P S' (F.ext X) hP) fun fl s' r => RtS.more X.any r
  | false => exact wp_go (hb A env names sl pls E R _ ht.2 _ μ' H' l P S' (F.ext X) hP) fun fl s' r => RtS.more X.any r

theorem sd_nilS : SdSs c D T cl d u .nil := by
  intro A env names sl pls E R sts ht s μ H l P S F hv
  cases sts with
  | nil => exact wpAny_execs_nil ⟨.next, l, H, μ, s.heap, s.toks, rfl, hv, trivial, S, F, .refl⟩
  | cons _ _ => simp [trSs] at ht
theorem sd_consS {x : S} {xs : Ss} (hx : SdS c D T cl d u x) (hxs : SdSs c D T cl d u xs) : SdSs c D T cl d u (.cons x xs) := by
  intro A env names sl pls E R sts ht s μ H l P S F hv
  cases sts with
  | nil => simp [trSs] at ht
  | cons st sts =>
    simp only [trSs, Bool.and_eq_true] at ht
    refine wpAny_execs_cons (wp_rs (hx A env names sl pls E R st ht.1 s μ H l _ S F hv) fun fl f l' H' μ' h' t' hP rf S' F' X => ?_)
    cases f with
    | next =>
      cases fl <;> first | exact rf.elim | skip
      exact wp_go (hxs A env names sl pls E R sts ht.2 _ μ' H' l' P S' F' hP) fun fl s' r => RtS.more X r
    | ret v =>
      cases fl <;> first | exact rf.elim | skip
      exact ⟨.ret v, l', H', μ', h', t', rfl, hP, rf, S', F', X⟩

theorem sd_setA (G : Gd c D fad T) {a x : X} {f : Nat} (ha : SdX c D T cl d u a) (hx : SdX c D T cl d u x) : SdS c D T cl d u (.setA a f x) := by
  intro A env names sl pls E R st ht s μ H l P S F hv
  refine wAsgA_el ht fun o n ap e pos ht => ?_
  simp only [Bool.and_eq_true, beq_iff_eq] at ht
  obtain ⟨⟨⟨t1, t2⟩, t3⟩, t4⟩ := ht
  refine plainObj_wpAny_Assign_Attribute (wp_rt (hx.1 A env names sl pls E R e t3 s μ H l _ S F hv) fun va v H' μ' h' t' hP rv S' X => ?_) (swaps_none t1 ..)
  refine wp_rt (ha.1 A env names sl pls E R o t4 _ μ' H' l _ S' (F.ext X) hP) fun vb w H'' μ'' h'' t'' hx6 rw' S'' X' => ?_
  obtain ⟨i, k, fs, rfl, hi, hl, hP⟩ := hx6
  obtain ⟨p, hp, rfl⟩ := rw'
  obtain ⟨hkc, dx, es, nn, e1, I, q⟩ := inst_at S'' hi hp
  have K := G.cls k hkc
  obtain ⟨cd, hcd, hhd⟩ := K.cd
  have hf : c.names[f]? = some n := by rw [← G.nms]; exact t2
  have hkeys : ∀ e ∈ es, ∃ nm t, e.key = .str nm t := by
    clear hi I hl hP
    induction fs generalizing es with
    | nil => cases es with
      | nil => exact fun e he => nomatch he
      | cons _ _ => exact q.elim
    | cons y fs ih =>
      cases es with
      | nil => exact q.elim
      | cons e es =>
        obtain ⟨⟨nm', tk, z, h1, rfl, h2⟩, q⟩ := q
        intro e he
        rcases List.mem_cons.mp he with rfl | he
        · exact ⟨nm', tk, rfl⟩
        · exact ih es q e he
  have hlen : es.length = fs.length := by
    clear hi I hl hP hkeys
    induction fs generalizing es with
    | nil => cases es with
      | nil => rfl
      | cons _ _ => exact q.elim
    | cons y fs ih =>
      cases es with
      | nil => exact q.elim
      | cons e es => obtain ⟨_, q⟩ := q; simp [ih es q]
  refine set_attr (s := { s with heap := h'', toks := t'' }) (In_of G S'') I K.sa K.over (K.fl n (List.mem_of_getElem? hf)) hcd hhd hkeys (by omega) ?_
  have hput : REs c μ'' (put f v fs) (putL n (PyData.keyHash c.w.params n) (.str n (t'' + 1)) va es) := by
    have rv' : RV c.B μ'' v va := rv.mono X'.ex
    clear hi I hl hP hkeys hlen
    induction fs generalizing es with
    | nil => cases es with
      | nil => exact ⟨⟨n, _, va, hf, rfl, rv'⟩, trivial⟩
      | cons _ _ => exact q.elim
    | cons y fs ih =>
      obtain ⟨g, z⟩ := y
      cases es with
      | nil => exact q.elim
      | cons e es =>
        obtain ⟨⟨nm', tk, y, h1, rfl, h2⟩, q⟩ := q
        unfold put putL
        by_cases hg : g = f
        · subst hg
          rw [hf] at h1; cases h1
          rw [if_pos rfl, if_pos (by simp [Value.isStr])]
          exact ⟨⟨n, tk, va, hf, rfl, rv'⟩, q⟩
        · have hne : (Value.str nm' tk).isStr n = false := by
            have : nm' ≠ n := fun e => by
              subst e
              obtain ⟨k1, e1⟩ := List.getElem?_eq_some_iff.mp h1
              obtain ⟨k2, e2⟩ := List.getElem?_eq_some_iff.mp hf
              exact hg ((List.getElem_inj G.nd).mp (e1.trans e2.symm))
            simpa [Value.isStr] using this
          rw [if_neg hg, hne]
          exact ⟨⟨nm', tk, y, h1, rfl, h2⟩, ih es q⟩
  have hdx : dx ∈ feet p := by simp [feet, e1]
  have hne : p.1 ≠ dx := by
    intro z
    have := feet_nodup S''.nodup (List.mem_of_getElem? hp)
    rw [feet, e1] at this
    simp [z] at this
  obtain ⟨S3, X3⟩ := S''.set (i := i) (o := .inst k (put f v fs)) (h' := h''.update dx (Obj.putName n (PyData.keyHash c.w.params n) (.str n (t'' + 1)) va)) hp hdx (fun b x hb e => Heap.get?_update_of_ne _ (fun z => hb z.symm) e)
    ⟨hkc, dx, _, putN n es nn, e1, Heap.get?_update_of_ne _ (fun z => hne z.symm) I.at_, by
      have hd : h''.get? dx = some (dictOf es nn) := I.dict
      rw [Heap.get?_update_self _ hd (by rw [putName_dict]; rfl), putName_dict], hput⟩
  have XX := X.trans (X'.trans X3)
  exact ⟨.next, l, _, μ'', _, _, rfl, hP, trivial, S3, F.ext XX, XX.any⟩
end Mine
end
section
open PySem PySem.W PySem.Calls PyProof.Rows PySem.SeqAt
namespace Mine
variable {c : Cx} {D : Nm} {fad : Nat → Addr} {T : Tab} {cl : Cl} {d u : Nat}
variable {it : Addr} {μ1 μ μ' : Mu} {h1 h h' : Heap} {pls : List Pl} {l : Loc} {H H' : AH}

section
variable (c : Cx) (D : Nm) (T : Tab) (cl : Cl) (d u : Nat)
/-- a comprehension's parts -/
noncomputable def SdC : X → Prop
  | .comp elt _ src cond => SdX c D T cl d u elt ∧ SdX c D T cl d u cond ∧ SdX c D T cl d u src
  | .compR elt _ hi cond => SdX c D T cl d u elt ∧ SdX c D T cl d u cond ∧ SdX c D T cl d u hi
  | _ => True
end

theorem Fm.apart_at (F : Fm c h μ pls l) {a : Addr} (ha : h.get? a = none) : ∀ pl ∈ pls, pl.at ≠ a := fun pl hp z => by
  obtain ⟨o, ho⟩ := (F.there pl hp).obj
  rw [z, ha] at ho; cases ho

/-- the list of a comprehension goes to a name before the block's names are let go of -/
theorem use_sound {A : Around} {env : Env} {names : Names} {sl : List Str} (E : En env names sl pls) {i : Nat} {id : Str} {px : Pos} (hs : sl[i]? = some id) (hk : storeK (names.lookup id) = true) {s : Shared} {P : Fl → Loc → AH → Prop}
    (S : St c s.heap μ H) (F : Fm c s.heap μ pls l) :
    ∀ L C m v H' μ' h' t', s.heap.get? C = none → C ∉ foot μ' → h'.Ns C m → P .next (l.set i (some v)) H' → RV c.B μ' v (.ref L) → St c h' μ' H' → Ext [] μ s.heap μ' h' →
      compPost (model c.prog c.w) A no (some (assign (.Name id px) env)) (fun _ s' => RtS c pls s μ P .next s') (.ref L) C (.ok .next) { s with heap := h', toks := t' } := by
  intro L C m v H' μ' h' t' hC hf hm hP rv S' X
  refine wpAny_assign_Name (wp_go (store_sound E hs hk (s := { s with heap := h', toks := t' }) S' (F.ext X) rv hP) fun _ s' hr => ?_)
  obtain ⟨hr, hkeep⟩ := hr
  obtain ⟨f, l', H'', μ'', h'', t'', rfl, hP, rf, S'', F', X'⟩ := hr
  have hpl := F.apart_at hC
  have hC' : ∃ o, h'.get? C = some o := by obtain ⟨o, _, _, ho, _⟩ := hm; exact ⟨o, ho⟩
  obtain ⟨o, ho⟩ := hC'
  have hoff := X'.off ho hf (by intro z; obtain ⟨pl, hp, e⟩ := List.mem_map.mp z; exact hpl pl hp e)
  have hB : c.B.get? C = none := by
    cases q : c.B.get? C with
    | none => rfl
    | some o => rw [S.base _ _ q] at hC; cases hC
  refine ⟨m, ?_, fun h3 hsb => ?_⟩
  · obtain ⟨o, es, ep, ho, r⟩ := hm
    exact ⟨o, es, ep, hkeep C o (fun pl hp => hpl pl hp) ho, r⟩
  · refine ⟨f, l', H'', μ'', h3, t'', rfl, hP, rf, S''.off (own := [C]) (fun b hb => by rw [List.mem_singleton.mp hb]; exact ⟨hoff.1, hB⟩) (fun b o hb e => SameBut_keeps hsb b o (fun z => hb (by rw [z]; exact List.mem_singleton_self _)) e),
      F'.turn (fun pl hp => hpl pl hp) (SameBut_keeps hsb), ?_⟩
    have X2 : Ext (C :: pls.map Pl.at) μ s.heap μ'' h'' := (X.any.trans X').widen fun a ha => .inl (List.mem_cons_of_mem _ ha)
    refine (X2.turn List.mem_cons_self (SameBut_keeps hsb)).widen fun a ha => ?_
    rcases List.mem_cons.mp ha with rfl | ha
    · exact .inr hC
    · exact .inl ha

theorem sd_asg (G : Gd c D fad T) {i : Nat} {x : X} (hx : SdX c D T cl d u x) (hc : SdC c D T cl d u x) : SdS c D T cl d u (.asg i x) := by
  intro A env names sl pls E R st ht s μ H l P S F hv
  refine wAsgN_el ht fun id px e pos ht => ?_
  simp only [Bool.and_eq_true, beq_iff_eq] at ht
  obtain ⟨⟨t1, t2⟩, t3⟩ := ht
  have norm : swapsWith e (some (.Name id px)) pos.line env = pure false → wpAny (model c.prog c.w) A (exec (.Assign [.Name id px] e pos) env) (RtS c pls s μ P) no s := fun hsw => by
    refine wpAny_Assign_Name (wp_rt (hx.1 A env names sl pls E R e t3 s μ H l _ S F hv) fun val v H' μ' h' t' hP rv S' X => ?_) hsw
    exact wp_go (store_sound E t1 t2 (s := { s with heap := h', toks := t' }) S' (F.ext X) rv hP) fun _ s' hr => RtS.more X.any hr.1
  by_cases hcmp : notComp e = true
  · exact norm (swaps_none hcmp ..)
  · cases e <;> first | exact absurd rfl hcmp | skip
    · rename_i elt gens sc p
      cases x <;> first | exact absurd (show false = true from t3) Bool.false_ne_true | exact hv.elim | skip
      · rename_i xe slot xs xc
        have hsw : ∃ b, swapsWith (.ListComp elt gens sc p) (some (.Name id px)) pos.line env = pure b := ⟨_, rfl⟩
        obtain ⟨b, hsw⟩ := hsw
        cases b with
        | false => exact norm hsw
        | true =>
          rw [exec_Assign_Name_used _ _ _ _ hsw]
          obtain ⟨gens', sc', pos', elt', e1, h⟩ := comp_core (use := some (assign (.Name id px) env)) (Q := fun _ s' => RtS c pls s μ P .next s') hc.1 hc.2.1 hc.2.2 E R t3 S F (P := fun v H => P .next (l.set i (some v)) H) hv (use_sound E t1 t2 S F)
          cases e1
          refine wpAny_bind (wpAny_standAt (wpAny_bind ?_))
          show wpAny _ A (do let _ ← comprehension (.ListComp elt gens sc p) sc env (firstIterPos gens p) (newList []) (firstAsync gens) (firstIter gens env) (some (assign (.Name id px) env))) _ _ s
          exact wpAny_bind (wp_go h fun _ s' hq => wpAny_pure (wpAny_pure hq))
      · rename_i xe slot xs xc
        have hsw : ∃ b, swapsWith (.ListComp elt gens sc p) (some (.Name id px)) pos.line env = pure b := ⟨_, rfl⟩
        obtain ⟨b, hsw⟩ := hsw
        cases b with
        | false => exact norm hsw
        | true =>
          rw [exec_Assign_Name_used _ _ _ _ hsw]
          obtain ⟨gens', sc', pos', elt', e1, h⟩ := compR_core G (use := some (assign (.Name id px) env)) (Q := fun _ s' => RtS c pls s μ P .next s') hc.1 hc.2.1 hc.2.2 E R t3 S F (P := fun v H => P .next (l.set i (some v)) H) hv (use_sound E t1 t2 S F)
          cases e1
          refine wpAny_bind (wpAny_standAt (wpAny_bind ?_))
          show wpAny _ A (do let _ ← comprehension (.ListComp elt gens sc p) sc env (firstIterPos gens p) (newList []) (firstAsync gens) (firstIter gens env) (some (assign (.Name id px) env))) _ _ s
          exact wpAny_bind (wp_go h fun _ s' hq => wpAny_pure (wpAny_pure hq))
    · cases x <;> first | exact absurd (show false = true from t3) Bool.false_ne_true | exact hv.elim
    · cases x <;> first | exact absurd (show false = true from t3) Bool.false_ne_true | exact hv.elim

theorem sd_aug {i : Nat} {o : Bo} {x : X} (hx : SdX c D T cl d u x) : SdS c D T cl d u (.aug i o x) := by
  intro A env names sl pls E R st ht s μ H l P S F hv
  refine wAugN_el ht fun id px op e pos ht => ?_
  simp only [Bool.and_eq_true, beq_iff_eq, Bool.or_eq_true] at ht
  obtain ⟨⟨⟨⟨⟨t1, t2⟩, t3⟩, t4⟩, t5⟩, t6⟩ := ht
  obtain ⟨v, hl, hv⟩ := hv
  obtain ⟨pl, hpl, q⟩ := F.val i v hl
  have := E.loc i id t1 t3
  rw [hpl] at this; cases this
  obtain ⟨m, y, hN, hm, r⟩ := q
  refine wpAny_AugAssign_Name (wpAny_loadName_local E.fn ((E.kind id).trans t3) hN hm ?_)
  refine wp_rt (hx.1 A env names sl pls E R e t6 s μ H l _ S F hv) fun va w H' μ' h' t' hx6 hx7 S' X => ?_
  obtain ⟨a, b, rfl, rfl, z, hz, hP⟩ := hx6
  obtain ⟨tb, rfl⟩ := hx7
  obtain ⟨ta, rfl⟩ := r
  have F' := F.ext X
  have hst : storeK (names.lookup id) = true := by rw [t3]; rfl
  rcases t4 with rfl | rfl
  · cases op <;> first | (cases t5; done) | skip
    cases hz
    exact _root_.PySem.P.iadd_int (wp_go (store_sound E t1 hst (s := { s with heap := h', toks := t' + 1 }) S' F' (v := .int (a + b)) ⟨_, rfl⟩ hP) fun _ s' hr => RtS.more X.any hr.1)
  · cases op <;> first | (cases t5; done) | skip
    cases hz
    exact _root_.PySem.P.isub_int (wp_go (store_sound E t1 hst (s := { s with heap := h', toks := t' + 1 }) S' F' (v := .int (a - b)) ⟨_, rfl⟩ hP) fun _ s' hr => RtS.more X.any hr.1)

theorem sd_whl {x : X} {b : Ss} (hx : SdX c D T cl d u x) (hb : SdSs c D T cl d u b) : SdS c D T cl d u (.whl x b) := by
  intro A env names sl pls E R st ht s μ H l P S F hv
  refine wWhl_el ht fun e body pos ht => ?_
  simp only [Bool.and_eq_true] at ht
  obtain ⟨I, ⟨n, hI⟩, hturn⟩ := hv
  refine wpAny_While (codeAny_whileLoop (fun n s' => ∃ l' H' μ' h' t', s' = { s with heap := h', toks := t' } ∧ I n l' H' ∧ St c h' μ' H' ∧ Fm c h' μ' pls l' ∧ Ext (pls.map Pl.at) μ s.heap μ' h') ?_ n ⟨l, H, μ, s.heap, s.toks, rfl, hI, S, F, .refl⟩)
  rintro n s' ⟨l, H, μ', h', t', rfl, hI, S, F, X⟩
  refine wp_rb (hx.test E R ht.1 (s := { s with heap := h', toks := t' }) S F (hturn n l H hI)) fun t H2 μ2 h2 t2 hP S2 X2 => ?_
  cases t with
  | true =>
    rw [if_pos rfl] at hP ⊢
    refine wp_rs (hb A env names sl pls E R body ht.2 { s with heap := h2, toks := t2 } μ2 H2 l _ S2 (F.ext X2) hP) fun fl f l3 H3 μ3 h3 t3 hP rf S3 F3 X3 => ?_
    have XX := X.trans (X2.any.trans X3)
    cases f with
    | next =>
      cases fl <;> first | exact rf.elim | skip
      obtain ⟨m, hm, hI⟩ := hP
      exact ⟨m, hm, l3, H3, μ3, h3, t3, rfl, hI, S3, F3, XX⟩
    | ret v =>
      cases fl <;> first | exact rf.elim | skip
      exact ⟨.ret v, l3, H3, μ3, h3, t3, rfl, hP, rf, S3, F3, XX⟩
  | false =>
    rw [if_neg (by decide)] at hP ⊢
    exact wpAny_execs_nil ⟨.next, l, H2, μ2, h2, t2, rfl, hP, trivial, S2, F.ext X2, X.trans X2.any⟩

theorem for_sound {b : Ss} (hb : SdSs c D T cl d u b) {A : Around} {env : Env} {names : Names} {sl : List Str} (E : En env names sl pls) (R : Room (d + 4) (u + 30) A) {slot : Nat} {id : Str} {px : Pos} (hs : sl[slot]? = some id) (hk : storeK (names.lookup id) = true)
    {body : List Stmt} (ht : trSs D names sl b body = true) {xs : List V} {ok : AH → Prop} {At : Nat → Heap → Prop} (I : Iter c A it xs ok μ1 At) (hpl : ∀ pl ∈ pls, pl.at ≠ it) {s : Shared} (hA : At 0 s.heap) (S : St c s.heap μ1 H) (F : Fm c s.heap μ1 pls l)
    (hit : it ∉ foot μ1 ∧ c.B.get? it = none) (hok : ok H) {P : Fl → Loc → AH → Prop} (hv : iterS (fun x l H K => vcSs T cl b (l.set slot (some x)) H K) ok xs l H P) {Rs : Result → Shared → Prop}
    (hR : ∀ fl f l' H' μ' h' t', P f l' H' → RF c.B μ' f fl → St c h' μ' H' → Fm c h' μ' pls l' → Ext (it :: pls.map Pl.at) μ1 s.heap μ' h' → Rs (.ok fl) { s with heap := h', toks := t' }) :
    codeAny (model c.prog c.w) A (.forLoop (.Name id px) (.ref it) body [] env) Rs s := by
  refine codeAny_forLoop (fun n s' => ∃ k l' H' μ' h' t', s' = { s with heap := h', toks := t' } ∧ n + k = xs.length ∧ At k h' ∧ St c h' μ' H' ∧ Fm c h' μ' pls l' ∧ (it ∉ foot μ') ∧ Ext (it :: pls.map Pl.at) μ1 s.heap μ' h' ∧ ok H' ∧
    iterS (fun x l H K => vcSs T cl b (l.set slot (some x)) H K) ok (xs.drop k) l' H' P) ?_ xs.length ⟨0, l, H, μ1, s.heap, s.toks, rfl, rfl, hA, S, F, hit.1, .refl, hok, hv⟩
  rintro n s' ⟨k, l, H, μ', h', t', rfl, hn, hA, S, F, hif, X, hok, hv⟩
  cases hk' : xs[k]? with
  | none =>
    refine wp_no (I.stop k { s with heap := h', toks := t' } μ' H (fun r s' => ∃ h'' t', r = none ∧ s' = { s with heap := h'', toks := t' } ∧ Heap.ExtBut it h' h'') hA S X.ex hok hk' fun h'' t'' hh => ⟨h'', t'', rfl, rfl, hh⟩) fun r s' hr => ?_
    obtain ⟨h2, t2, rfl, rfl, hh⟩ := hr
    rw [List.drop_eq_nil_of_le (List.getElem?_eq_none_iff.mp hk')] at hv
    refine wpAny_execs_nil (hR .next .next l H μ' h2 t2 hv trivial (S.off (own := [it]) (fun b hb => by rw [List.mem_singleton.mp hb]; exact ⟨hif, hit.2⟩) fun b o hb e => hh b o (fun z => hb (by rw [z]; exact List.mem_singleton_self _)) e)
      (F.turn hpl hh) (X.turn List.mem_cons_self hh))
  | some y =>
    refine wp_no (I.next k y { s with heap := h', toks := t' } μ' H (fun r s' => ∃ h'' v t', r = some v ∧ s' = { s with heap := h'', toks := t' } ∧ At (k + 1) h'' ∧ Heap.SameBut it h' h'' ∧ RV c.B μ' y v) hA S X.ex hok hk' fun h'' v t'' a b r => ⟨h'', v, t'', rfl, rfl, a, b, r⟩) fun r s' hr => ?_
    obtain ⟨h2, v, t2, rfl, rfl, hA2, hsb, rv⟩ := hr
    obtain ⟨hkl, hke⟩ := List.getElem?_eq_some_iff.mp hk'
    have hdrop : xs.drop k = y :: xs.drop (k + 1) := by rw [List.drop_eq_getElem_cons hkl, hke]
    rw [hdrop] at hv
    have S2 := S.off (h' := h2) (own := [it]) (fun b hb => by rw [List.mem_singleton.mp hb]; exact ⟨hif, hit.2⟩) fun b o hb e => SameBut_keeps hsb b o (fun z => hb (by rw [z]; exact List.mem_singleton_self _)) e
    have F2 := F.turn (h' := h2) hpl (SameBut_keeps hsb)
    have X2 := X.turn (h' := h2) List.mem_cons_self (SameBut_keeps hsb)
    refine wpAny_assign_Name (wp_no (store_sound E hs hk (s := { s with heap := h2, toks := t2 }) (P := fun f l' H' => f = .next ∧ l' = l.set slot (some y) ∧ H' = H) S2 F2 rv ⟨rfl, rfl, rfl⟩) fun _ s' hr => ?_)
    obtain ⟨⟨f, l3, H3, μ3, h3, t3, rfl, ⟨rfl, rfl, rfl⟩, _, S3, F3, X3⟩, hkeep⟩ := hr
    have hA3 : At (k + 1) h3 := I.keep _ _ _ hA2 fun o e => hkeep it o (fun pl hp => hpl pl hp) e
    obtain ⟨oi, hoi⟩ := I.there _ _ hA2
    have hno : it ∉ pls.map Pl.at := fun z => by obtain ⟨pl, hp, e⟩ := List.mem_map.mp z; exact hpl pl hp e
    have hif3 := (X3.off hoi hif hno).1
    refine wp_rs (hb A env names sl pls E R body ht { s with heap := h3, toks := t3 } μ3 H3 _ _ S3 F3 hv) fun fl f l4 H4 μ4 h4 t4 hP rf S4 F4 X4 => ?_
    obtain ⟨oi3, hoi3⟩ := I.there _ _ hA3
    have h4off := X4.off hoi3 hif3 hno
    have X' := X2.trans ((X3.trans X4).widen (own' := it :: pls.map Pl.at) fun a ha => .inl (List.mem_cons_of_mem _ ha))
    cases f with
    | next =>
      cases fl <;> first | exact rf.elim | skip
      exact ⟨xs.length - (k + 1), by omega, k + 1, l4, H4, μ4, h4, t4, rfl, by omega, I.keep _ _ _ hA3 fun o e => X4.keep it o e hif3 hno, S4, F4, h4off.1, X', hP.1, hP.2⟩
    | ret v =>
      cases fl <;> first | exact rf.elim | skip
      exact hR _ _ l4 H4 μ4 h4 t4 hP rf S4 F4 X'

theorem Ext.drop_it {own : List Addr} {h0 : Heap} (X0 : Ext [] μ h0 μ1 h1) (hi : h0.get? it = none) (X : Ext (it :: own) μ1 h1 μ' h') : Ext own μ h0 μ' h' :=
  (X0.any.trans X).widen fun a ha => by
    rcases List.mem_cons.mp ha with rfl | ha
    · exact .inr hi
    · exact .inl ha

theorem sd_forL {slot : Nat} {src : X} {b : Ss} (hsrc : SdX c D T cl d u src) (hb : SdSs c D T cl d u b) : SdS c D T cl d u (.forL slot src b) := by
  intro A env names sl pls E R st ht s μ H l P S F hv
  refine wFor_el ht fun id px it body pos ht => ?_
  simp only [Bool.and_eq_true, beq_iff_eq] at ht
  obtain ⟨⟨⟨⟨t1, t2⟩, t3⟩, t4⟩, t5⟩ := ht
  refine wpAny_For (wp_rt (hsrc.1 A env names sl pls E R it t4 s μ H l _ S F hv) fun va v H' μ' h' t' hx6 rv S' X => ?_) (fun y => notSet_folded t3 env y)
  obtain ⟨xs, hxs, hl, hP⟩ := hx6
  refine src_iter (s := { s with heap := h', toks := t' }) R.1 S' rv hxs fun o At I hA hfr => ?_
  obtain ⟨S1, X1⟩ := push_same (s := { s with heap := h', toks := t' }) S' o
  have F' := F.ext X
  have hnone := get_none (h := h') (Nat.le_refl _)
  refine for_sound (s := { s with heap := h'.push o, toks := t' }) hb E R t1 t2 t5 I (F'.apart_at hnone) hA S1 (F'.ext X1) (S'.fresh hnone) rfl hP fun fl f l2 H2 μ2 h2 t2 hP2 rf S2 F2 X2 => ?_
  exact ⟨f, l2, H2, μ2, h2, t2, rfl, hP2, rf, S2, F2, X.any.trans (Ext.drop_it X1 hnone X2)⟩
end Mine
end
section
open PySem PySem.W PySem.Calls PyProof.Rows PySem.SeqAt
namespace Mine
variable {c : Cx} {D : Nm} {fad : Nat → Addr} {T : Tab} {cl : Cl} {d u : Nat}
variable {it : Addr} {μ1 μ μ' : Mu} {h1 h h' : Heap} {pls : List Pl} {l : Loc} {H H' : AH}

theorem sd_setI {a k x : X} (ha : SdX c D T cl d u a) (hk : SdX c D T cl d u k) (hx : SdX c D T cl d u x) : SdS c D T cl d u (.setI a k x) := by
  intro A env names sl pls E R st ht s μ H l P S F hv
  refine wAsgI_el ht fun o i ap e pos ht => ?_
  simp only [Bool.and_eq_true] at ht
  obtain ⟨⟨⟨t1, t2⟩, t3⟩, t4⟩ := ht
  refine wpAny_Assign_Subscript (wp_rt (hx.1 A env names sl pls E R e t2 s μ H l _ S F hv) fun va v H' μ' h' t' hP rv S' X => ?_) (swaps_none t1 ..)
  refine wp_rt (ha.1 A env names sl pls E R o t3 _ μ' H' l _ S' (F.ext X) hP) fun vb w H2 μ2 h2 t2 hP rw2 S2 X2 => ?_
  refine wp_rt (hk.1 A env names sl pls E R i t4 _ μ2 H2 l _ S2 ((F.ext X).ext X2) hP) fun vc w3 H3 μ3 h3 t3 hx6 hx7 S3 X3 => ?_
  obtain ⟨i, n, rfl, rfl, hP⟩ := hx6
  obtain ⟨tk, rfl⟩ := hx7
  obtain ⟨p, hp, rfl⟩ := rw2.mono X3.ex
  have rv3 := (rv.mono X2.ex).mono X3.ex
  have XX := X.trans (X2.trans X3)
  rcases hP with ⟨vs, hi, hl, h0, h1, hP⟩ | ⟨kvs, hi, hl, hP⟩
  · obtain ⟨hn, xs, m, g, q⟩ := S3.obj _ _ _ hi hp
    have hlen := q.length
    have hfit : Builtin.List.listFitsIndex n = true := by
      unfold Builtin.List.listFitsIndex
      unfold lid at hl
      simp only [Bool.and_eq_true, decide_eq_true_eq]
      omega
    refine set_list (s := { s with heap := h3, toks := t3 }) g h0 (by simp only [List.size_toArray]; omega) hfit ?_
    obtain ⟨S4, X4⟩ := S3.turnList (us := vs.set n.toNat v) (ys := xs.set n.toNat va) hp hn g (fun x => x.setIfInBounds n.toNat va) (by simp) (RVs.set rv3 n.toNat q)
    exact ⟨.next, l, _, μ3, _, t3, rfl, hP, trivial, S4, F.ext (XX.trans X4), (XX.trans X4).any⟩
  · obtain ⟨hn, ws, hD, q⟩ := S3.obj _ _ _ hi hp
    have hlen := q.length
    refine wpAny_setItem_pairs (s := { s with heap := h3, toks := t3 }) (knd := intKind c.prog c.w) (k := n) (key := .int n tk) (by simp [intKind, Value.isInt]) hD (fun h4 hD4 hsb => ?_) (by rw [hlen]; exact Nat.le_trans hl lid_le)
    have hnd : (ws.map (·.1)).Nodup := by
      obtain ⟨o, es, ep, _, _, _, _, _, hn⟩ := hD
      exact hn
    obtain ⟨S4, X4⟩ := S3.set (i := i) (o := .dict (putI n v kvs)) (h' := h4) hp (a := p.1) List.mem_cons_self (SameBut_keeps hsb) ⟨hn, _, hD4, q.stored rv3 hnd⟩
    exact ⟨.next, l, _, μ3, _, _, rfl, hP, trivial, S4, F.ext (XX.trans X4), (XX.trans X4).any⟩

theorem sd_forR (G : Gd c D fad T) {slot : Nat} {hi : X} {b : Ss} (hhi : SdX c D T cl d u hi) (hb : SdSs c D T cl d u b) : SdS c D T cl d u (.forR slot hi b) := by
  intro A env names sl pls E R st ht s μ H l P S F hv
  refine wForR_el ht fun id px rg p1 h p2 body pos ht => ?_
  simp only [Bool.and_eq_true, beq_iff_eq] at ht
  obtain ⟨⟨⟨⟨⟨⟨t1, t2⟩, t3⟩, t4⟩, t5⟩, t6⟩, t7⟩ := ht
  refine wpAny_For ?_ (fun y => rfl)
  refine wpAny_Call_NameR (builtin_name G E S t4 (.inr (.inr ⟨t3, rfl⟩)) ?_)
  rw [star1 t5]
  refine callWith_excType rfl (evalArgs_plain (spliced_cons (wp_go (hhi.1 A env names sl pls E R h t6 s μ H l _ S F hv) fun va s' hr => spliced_nil ?_)))
  obtain ⟨v, H', μ', h', t', rfl, ⟨n, rfl, h0, hl, hP⟩, ⟨tk, rfl⟩, S', X⟩ := hr
  refine call_range_1 (s := { s with heap := h', toks := t' }) ?_
  obtain ⟨S1, X1⟩ := push_same (s := { s with heap := h', toks := t' }) S' { cls := .type "range", data := .fields #[.int 0 t', .int n tk, .int 1 (t' + 1)] }
  have hsm : Builtin.Range.small 0 n 1 = true := by unfold lid at h0 hl; exact small_one (by omega) (by omega) (by omega) (by omega)
  refine wpAny_pyIter_range (s := { s with heap := _, toks := _ }) (Heap.get?_push_size _ rfl) hsm ?_
  have hrs : Builtin.Range.rangeSize 0 n 1 = (n.toNat : Int) := by rw [rangeSize_one]; split <;> omega
  rw [hrs]
  have I := iter_range (c := c) R.1 0 1 n.toNat (upL n) (fun k hk => upL_get n k hk) (upL_len n) (fun _ => True) μ' (h'.push { cls := .type "range", data := .fields #[.int 0 t', .int n tk, .int 1 (t' + 1)] }).objs.size
  have F1 := (F.ext X).ext X1
  have hnone := get_none (h := h'.push { cls := .type "range", data := .fields #[.int 0 t', .int n tk, .int 1 (t' + 1)] }) (Nat.le_refl _)
  obtain ⟨S2, X2⟩ := push_same (s := { s with heap := _, toks := t' }) S1 { cls := .type "range_iterator", data := .fields #[rawInt 0, rawInt (n.toNat : Int), rawInt 1] }
  refine for_sound (s := { s with heap := _, toks := _ }) hb E R t1 t2 t7 I (F1.apart_at hnone) ?_ S2 (F1.ext X2) (S1.fresh hnone) trivial hP fun fl f l3 H3 μ3 h3 t3 hP3 rf S3 F3 X3 => ?_
  · have := Heap.get?_push_size (h'.push { cls := .type "range", data := .fields #[.int 0 t', .int n tk, .int 1 (t' + 1)] }) (o := { cls := .type "range_iterator", data := .fields #[rawInt 0, rawInt (n.toNat : Int), rawInt 1] }) rfl
    show IsRangeIter _ _ (0 + ((0 : Nat) : Int) * 1) ((n.toNat : Int) - ((0 : Nat) : Int)) 1
    rw [show (0 : Int) + ((0 : Nat) : Int) * 1 = 0 from rfl, show (n.toNat : Int) - ((0 : Nat) : Int) = (n.toNat : Int) from Int.sub_zero _]
    exact this
  · exact ⟨f, l3, H3, μ3, h3, t3, rfl, hP3, rf, S3, F3, X.any.trans (X1.any.trans (Ext.drop_it X2 hnone X3))⟩

theorem downL_get (a b : Int) (k : Nat) (h : k < (a - b).toNat) : (downL a b)[k]? = some (.int (a + k * (-1))) := by
  unfold downL
  rw [List.getElem?_map, List.getElem?_range h]
  simp [Int.sub_eq_add_neg]
theorem downL_len (a b : Int) : (downL a b).length = (a - b).toNat := by simp [downL]
theorem rangeSize_down (a b : Int) : Builtin.Range.rangeSize a b (-1) = ((a - b).toNat : Int) := by
  unfold Builtin.Range.rangeSize
  rw [if_neg (by decide)]
  split
  · rw [Int.neg_neg, Int.ediv_one]; omega
  · omega
theorem small_down {a b : Int} (ha : -(2 ^ 60) ≤ a) (ha' : a < 2 ^ 60) (hb : -(2 ^ 60) ≤ b) (hb' : b < 2 ^ 60) : Builtin.Range.small a b (-1) = true := by
  unfold Builtin.Range.small
  rw [rangeSize_down]
  simp only [Builtin.Range.rangeFitsLong, Bool.and_eq_true, Bool.or_eq_true, decide_eq_true_eq, beq_iff_eq, show ¬ (-1 : Int) > 0 by decide, if_false]
  exact ⟨⟨⟨⟨⟨by omega, by omega⟩, by omega, by omega⟩, by decide, by decide⟩, by omega, by omega⟩, .inr ⟨by omega, by omega⟩⟩

theorem sd_forD (G : Gd c D fad T) {slot : Nat} {hi lo : X} {b : Ss} (hhi : SdX c D T cl d u hi) (hlo : SdX c D T cl d u lo) (hb : SdSs c D T cl d u b) : SdS c D T cl d u (.forD slot hi lo b) := by
  intro A env names sl pls E R st ht s μ H l P S F hv
  refine wForD_el ht fun id px rg p1 eh em k1 p4 p5 p2 body pos ht => ?_
  simp only [Bool.and_eq_true, beq_iff_eq] at ht
  obtain ⟨⟨⟨⟨⟨⟨⟨⟨t1, t2⟩, t3⟩, t4⟩, t5⟩, t6⟩, t7⟩, t8⟩, t9⟩ := ht
  refine wpAny_For ?_ (fun y => rfl)
  refine wpAny_Call_NameR (builtin_name G E S t4 (.inr (.inr ⟨t3, rfl⟩)) ?_)
  rw [starEach_cons t5, starEach_cons t6]
  refine callWith_excType rfl (evalArgs_plain (spliced_cons (wp_rt (hhi.1 A env names sl pls E R eh t7 s μ H l _ S F hv) fun va v H' μ' h' t' hP rv S' X => ?_)))
  refine spliced_cons (wp_rt (hlo.1 A env names sl pls E R em t8 _ μ' H' l _ S' (F.ext X) hP) fun vb w H2 μ2 h2 t2' hx6 hx7 S2 X2 => ?_)
  obtain ⟨n, m, rfl, rfl, h0, h1, h3, h4, hP⟩ := hx6
  obtain ⟨tk2, rfl⟩ := hx7
  obtain ⟨tk, rfl⟩ := rv
  refine spliced_cons (wpAny_UnaryOp (wpAny_Constant_int (neg_int (spliced_nil ?_))))
  refine call_range_3 (s := { s with heap := h2, toks := _ }) (by decide) ?_ (.inl (PyProof.noPylong_small (by decide)))
  have X0 := X.trans X2
  have F0 := F.ext X0
  generalize hq : (h2.push { cls := .type "range", data := .fields #[.int n tk, .int m tk2, .int (-1) (t2' + 1)] }) = hr
  have S1X : St c hr μ2 H2 ∧ Ext [] μ2 h2 μ2 hr := by
    rw [← hq]; exact push_same (s := { s with heap := h2, toks := t2' }) S2 _
  obtain ⟨S1, X1⟩ := S1X
  have hlid := lid_small
  have hsm : Builtin.Range.small n m (-1) = true := by unfold lid at h0 h1 h3 h4; exact small_down (by omega) (by omega) (by omega) (by omega)
  have hg : hr.get? h2.objs.size = some { cls := .type "range", data := .fields #[.int n tk, .int m tk2, .int (-1) (t2' + 1)] } := by rw [← hq]; exact Heap.get?_push_size _ rfl
  refine wpAny_pyIter_range (s := { s with heap := hr, toks := _ }) hg hsm ?_
  rw [rangeSize_down]
  have I := iter_range (c := c) R.1 n (-1) (n - m).toNat (downL n m) (fun k hk => downL_get n m k hk) (downL_len n m) (fun _ => True) μ2 hr.objs.size
  have F1 := F0.ext X1
  have hnone := get_none (h := hr) (Nat.le_refl _)
  obtain ⟨S3, X3⟩ := push_same (s := { s with heap := hr, toks := t2' }) S1 { cls := .type "range_iterator", data := .fields #[rawInt n, rawInt ((n - m).toNat : Int), rawInt (-1)] }
  refine for_sound (s := { s with heap := hr.push _, toks := _ }) hb E R t1 t2 t9 I (F1.apart_at hnone) ?_ S3 (F1.ext X3) (S1.fresh hnone) trivial hP fun fl f l4 H4 μ4 h5 t4 hP4 rf S4 F4 X4 => ?_
  · have := Heap.get?_push_size hr (o := { cls := .type "range_iterator", data := .fields #[rawInt n, rawInt ((n - m).toNat : Int), rawInt (-1)] }) rfl
    show IsRangeIter _ _ _ _ _
    simpa using this
  · exact ⟨f, l4, H4, μ4, h5, t4, rfl, hP4, rf, S4, F4, X0.any.trans (X1.any.trans (Ext.drop_it X3 hnone X4))⟩

/-! ## all words -/
section
variable (G : Gd c D fad T) (C : ClOk c fad cl d u)
include G C
mutual
theorem sd_all : ∀ x : X, SdX c D T cl d u x
  | .loc i => sd_loc i
  | .cint i => sd_cint i
  | .cstr i => sd_cstr i
  | .cbool i => sd_cbool i
  | .etup => sd_etup
  | .neg a => sd_neg (sd_all a)
  | .not a => sd_not (sd_all a)
  | .bin o a b => sd_bin (sd_all a) (sd_all b)
  | .and xs => sd_and (sd_alls xs)
  | .or xs => sd_or (sd_alls xs)
  | .cmp o a b => sd_cmp (sd_all a) (sd_all b)
  | .cmp2 a o b p z => sd_cmp2 (sd_all a) (sd_all b) (sd_all z)
  | .inS n a ss => sd_inS (sd_all a)
  | .nil n a => sd_nil (sd_all a)
  | .ite a b z => sd_ite (sd_all a) (sd_all b) (sd_all z)
  | .tup xs => sd_tup (sd_alls xs)
  | .lst xs => sd_lst (sd_alls xs)
  | .idx a i => sd_idx (sd_all a) (sd_all i)
  | .upto a i => sd_upto (sd_all a) (sd_all i)
  | .part a i j => sd_part (sd_all a) (sd_all i) (sd_all j)
  | .whole a => sd_whole (sd_all a)
  | .attr a f => sd_attr G (sd_all a)
  | .call g xs => sd_call G C (sd_alls xs)
  | .meth a m xs => sd_meth G C (sd_all a) (sd_alls xs)
  | .new g xs => sd_new G C (sd_alls xs)
  | .app a x => sd_app (sd_all a) (sd_all x)
  | .pop a => sd_pop (sd_all a)
  | .index a x => sd_index (sd_all a) (sd_all x)
  | .ins a i x => sd_ins (sd_all a) (sd_all i) (sd_all x)
  | .ext a x => sd_ext (sd_all a) (sd_all x)
  | .len a => sd_len G (sd_all a)
  | .dget a i x => sd_dget G (sd_all a) (sd_all i) (sd_all x)
  | .split a => sd_split (sd_all a)
  | .mkl a => sd_mkl G (sd_all a)
  | .dnil => sd_dnil
  | .comp e s a z => sd_comp (sd_all e) (sd_all z) (sd_all a)
  | .compR e s a z => sd_compR G (sd_all e) (sd_all z) (sd_all a)
  | .stuck => sd_stuck
theorem sd_alls : ∀ xs : Xs, SdXs c D T cl d u xs
  | .nil => trivial
  | .cons x xs => ⟨sd_all x, sd_alls xs⟩
end
theorem sd_allC (x : X) : SdC c D T cl d u x := by
  cases x <;> first | trivial | exact ⟨sd_all G C _, sd_all G C _, sd_all G C _⟩
mutual
theorem sd_allS : ∀ x : S, SdS c D T cl d u x
  | .expr x => sd_expr (sd_all G C x)
  | .asg i x => sd_asg G (sd_all G C x) (sd_allC G C x)
  | .setA a f x => sd_setA G (sd_all G C a) (sd_all G C x)
  | .setI a k x => sd_setI (sd_all G C a) (sd_all G C k) (sd_all G C x)
  | .aug i o x => sd_aug (sd_all G C x)
  | .ife t a b => sd_ife (sd_all G C t) (sd_allSs a) (sd_allSs b)
  | .whl t b => sd_whl (sd_all G C t) (sd_allSs b)
  | .forL i x b => sd_forL (sd_all G C x) (sd_allSs b)
  | .forR i x b => sd_forR G (sd_all G C x) (sd_allSs b)
  | .forD i x y b => sd_forD G (sd_all G C x) (sd_all G C y) (sd_allSs b)
  | .ret x => sd_ret (sd_all G C x)
  | .retN => sd_retN
  | .stuck => sd_stuckS
theorem sd_allSs : ∀ x : Ss, SdSs c D T cl d u x
  | .nil => sd_nilS
  | .cons s ss => sd_consS (sd_allS s) (sd_allSs ss)
end
end
end Mine
end
section
open PySem PySem.W PySem.Calls PyProof.Rows PySem.SeqAt
namespace Mine

theorem lookup_zip {ns : List Str} (hn : ns.Nodup) : ∀ {xs : List Value} {i : Nat} {n : Str}, ns[i]? = some n → (ns.zip xs).lookup n = xs[i]? := by
  induction ns with
  | nil => intro xs i n h; simp at h
  | cons m ns ih =>
    intro xs i n h
    rw [List.nodup_cons] at hn
    cases xs with
    | nil => simp
    | cons x xs =>
      rw [List.zip_cons_cons, List.lookup_cons]
      cases i with
      | zero => simp at h; subst h; simp
      | succ i =>
        simp only [List.getElem?_cons_succ] at h ⊢
        have : (n == m) = false := beq_eq_false_iff_ne.mpr fun e => hn.1 (by subst e; exact List.mem_of_getElem? h)
        rw [this]
        exact ih hn.2 h
theorem lookup_append' (n : Str) (a b : List (Str × Value)) : (a ++ b).lookup n = (a.lookup n).or (b.lookup n) := by
  induction a with
  | nil => simp
  | cons x a ih =>
    obtain ⟨m, v⟩ := x
    rw [List.cons_append, List.lookup_cons, List.lookup_cons]
    cases n == m <;> simp [ih]
theorem fill_lookup (n : Str) : ∀ (l slots : List (Str × Value)), (l.foldl (fun sl x => if (sl.lookup x.1).isNone = true then sl ++ [(x.1, x.2)] else sl) slots).lookup n = (slots.lookup n).or (l.lookup n)
  | [], slots => by simp
  | (m, v) :: l, slots => by
    rw [List.foldl_cons, fill_lookup n l]
    rw [List.lookup_cons]
    by_cases h : (slots.lookup m).isNone = true
    · dsimp only
      rw [if_pos h, lookup_append', Option.or_assoc]
      congr 1
      rw [List.lookup_cons]
      cases hb : n == m <;> simp
    · dsimp only
      rw [if_neg h]
      cases hb : n == m with
      | false => rfl
      | true =>
        rw [eq_of_beq hb]
        have : (slots.lookup m).isSome = true := by
          cases q : slots.lookup m with
          | none => rw [q] at h; exact absurd rfl h
          | some _ => rfl
        obtain ⟨w, hw⟩ := Option.isSome_iff_exists.mp this
        rw [hw]; rfl
theorem forIn_fill : ∀ (l slots : List (Str × Value)), (forIn (m := Sem) l slots fun x (sl : List (Str × Value)) => if (sl.lookup x.1).isNone = true then pure (ForInStep.yield (sl ++ [(x.1, x.2)])) else pure (ForInStep.yield sl)) =
    pure (l.foldl (fun sl x => if (sl.lookup x.1).isNone = true then sl ++ [(x.1, x.2)] else sl) slots)
  | [], slots => rfl
  | x :: l, slots => by
    rw [List.forIn_cons, List.foldl_cons]
    by_cases h : (slots.lookup x.1).isNone = true
    · rw [if_pos h, if_pos h]; exact forIn_fill l _
    · rw [if_neg h, if_neg h]; exact forIn_fill l _

theorem bind_list {ns : List Str} (hn : ns.Nodup) {vals ds : List Value} (hl1 : vals.length ≤ ns.length) (hl2 : ns.length ≤ vals.length + ds.length) (hl3 : ds.length ≤ ns.length) :
    (ns.filterMap fun n => (((ns.zip vals).lookup n).or (((ns.drop (ns.length - ds.length)).zip ds).lookup n)).map fun x => (n, x)) = ns.zip (vals ++ ds.drop (vals.length + ds.length - ns.length)) := by
  obtain ⟨a, ha⟩ := Nat.exists_eq_add_of_le hl3
  obtain ⟨k, hk⟩ : ∃ k, vals.length = a + k := Nat.exists_eq_add_of_le (by omega)
  have e1 : ns.length - ds.length = a := by rw [ha]; exact Nat.add_sub_cancel_left _ _
  have e2 : vals.length + ds.length - ns.length = k := by rw [ha, hk, Nat.add_right_comm, Nat.add_comm a]; exact Nat.add_sub_cancel_left _ _
  rw [e1, e2]
  have key : ∀ (i : Nat) (n : Str), ns[i]? = some n → ((ns.zip vals).lookup n).or (((ns.drop a).zip ds).lookup n) = (vals ++ ds.drop k)[i]? := by
    intro i n h
    have hi : i < ns.length := (List.getElem?_eq_some_iff.mp h).1
    rw [lookup_zip hn h]
    by_cases hv : i < vals.length
    · rw [List.getElem?_append_left hv, List.getElem?_eq_getElem hv]; rfl
    · rw [List.getElem?_eq_none (by omega), Option.none_or, List.getElem?_append_right (by omega)]
      have h2 : (ns.drop a)[i - a]? = some n := by
        rw [List.getElem?_drop, ← h]; congr 1; omega
      rw [lookup_zip (hn.sublist (List.drop_sublist _ _)) h2, List.getElem?_drop]
      congr 1; omega
  have gen : ∀ (ms : List Str) (xs : List Value) (g : Str → Option Value), xs.length = ms.length → (∀ (i : Nat) (n : Str), ms[i]? = some n → g n = xs[i]?) → (ms.filterMap fun n => (g n).map fun x => (n, x)) = ms.zip xs := by
    intro ms
    induction ms with
    | nil => intro xs g _ _; rfl
    | cons m ms ih =>
      intro xs g hl h
      cases xs with
      | nil => simp at hl
      | cons x xs =>
        have h0 := h 0 m rfl
        rw [List.filterMap_cons, h0]
        simp only [List.getElem?_cons_zero, Option.map_some, List.zip_cons_cons]
        rw [ih xs g (by simpa using hl) fun i n e => by simpa using h (i + 1) n (by simpa using e)]
  exact gen ns _ _ (by simp only [List.length_append, List.length_drop]; omega) key

theorem bind_ok {fd : FuncData} {ns : List Str} (h0 : fd.params.posonlyargs = []) (h1 : fd.params.args.map (·.arg) = ns) (h2 : fd.params.vararg = none) (h3 : fd.params.kwonlyargs = []) (h4 : fd.params.kwarg = none) (hn : ns.Nodup) {vals ds : List Value}
    (hl1 : vals.length ≤ ns.length) (hl2 : ns.length ≤ vals.length + ds.length) (hl3 : ds.length ≤ ns.length) {M : Model} {A : Around} {E : Value → Shared → Prop} {Q : List (Str × Value) → Shared → Prop} {s : Shared}
    (hd : wpAny M A (seqItems? fd.defaults) (fun r s' => s' = s ∧ (r.getD #[]).toList = ds) E s)
    (hq : Q (ns.zip (vals ++ ds.drop (vals.length + ds.length - ns.length))) s) : wpAny M A (bindArgs fd ⟨vals, []⟩) Q E s := by
  unfold bindArgs
  simp only [h0, h1, h2, h3, h4, List.map_nil, List.nil_append, List.append_nil, List.forIn_nil]
  refine wpAny_bind (wpAny_pure (wpAny_bind (wpAny_mono hd (fun r s' hr => ?_) fun _ _ x => x)))
  obtain ⟨rfl, hr⟩ := hr
  have e1 : (decide (vals.length > ns.length) && (none : Option Arg).isNone) = false := by
    rw [decide_eq_false (by omega)]; rfl
  simp only [hr, e1, Bool.false_eq_true, if_false]
  have e2 : ds.drop (ds.length - ns.length) = ds := by rw [Nat.sub_eq_zero_of_le hl3]; rfl
  simp only [e2]
  have e3 : ((ns.take (ns.length - ds.length)).filter fun n => ((ns.zip vals).lookup n).isNone) = [] := by
    rw [List.filter_eq_nil_iff]
    intro n hm
    obtain ⟨i, hi, rfl⟩ := List.getElem_of_mem hm
    rw [List.length_take] at hi
    have : ns[i]? = some (ns.take (ns.length - ds.length))[i] := by
      rw [List.getElem_take, List.getElem?_eq_getElem (by omega)]
    rw [lookup_zip hn this, List.getElem?_eq_getElem (by omega)]
    simp
  simp only [e3, List.isEmpty_nil, Bool.not_true, Bool.false_eq_true, if_false]
  rw [forIn_fill]
  refine wpAny_bind (wpAny_pure (wpAny_bind (wpAny_pure ?_)))
  simp only [List.isEmpty_nil, Bool.not_true, Bool.false_eq_true, if_false]
  simp only [fill_lookup]
  rw [bind_list hn hl1 hl2 hl3]
  exact wpAny_pure hq

/-! ## a def -/
theorem cells_some {x : Str} : ∀ (names : List (Str × NameKind)) (n : Nat) (acc : List (Str × Addr)), names.lookup x = some .cell ∨ (acc.lookup x).isSome = true → ((cellsFrom n names acc).lookup x).isSome = true
  | [], _, _, h => h.elim (fun e => by cases e) id
  | (y, k) :: r, n, acc, h => by
    unfold cellsFrom
    by_cases hk : (k == .cell) = true
    · rw [if_pos hk]
      refine cells_some r (n + 1) ((y, n) :: acc) ?_
      by_cases hy : (x == y) = true
      · exact .inr (by rw [List.lookup_cons, hy]; rfl)
      · refine h.imp (fun e => ?_) fun e => ?_
        · rw [List.lookup_cons] at e; simpa only [hy] using e
        · rw [List.lookup_cons]; simpa only [hy] using e
    · rw [if_neg hk]
      refine cells_some r n acc ?_
      by_cases hy : (x == y) = true
      · refine .inr (h.elim (fun e => ?_) id)
        rw [List.lookup_cons, hy] at e
        exact absurd (by rw [Option.some.inj e]; rfl) hk
      · refine h.imp (fun e => ?_) id
        rw [List.lookup_cons] at e; simpa only [hy] using e

theorem bindL_at {kindOf : Str → Option NameKind} : ∀ {ns : List Str} {xs : List Value} {m : Str → Option Value} {i : Nat} {n : Str} {x : Value}, ns.Nodup → ns[i]? = some n → xs[i]? = some x → kindOf n = some .local →
    bindL kindOf (ns.zip xs) m n = some x := by
  have skip : ∀ {ns : List Str} {xs : List Value} {m : Str → Option Value} {n : Str}, n ∉ ns → bindL kindOf (ns.zip xs) m n = m n := by
    intro ns
    induction ns with
    | nil => intro xs m n _; rfl
    | cons k ns ih =>
      intro xs m n hn
      cases xs with
      | nil => rfl
      | cons y xs =>
        rw [List.zip_cons_cons]
        unfold bindL
        rw [ih (fun h => hn (List.mem_cons_of_mem _ h))]
        split
        · exact if_neg fun (e : n = k) => hn (by rw [e]; exact List.mem_cons_self)
        · rfl
  intro ns
  induction ns with
  | nil => intro xs m i n x _ h; simp at h
  | cons k ns ih =>
    intro xs m i n x hn hi hx hk
    rw [List.nodup_cons] at hn
    cases xs with
    | nil => simp at hx
    | cons y xs =>
      rw [List.zip_cons_cons]
      unfold bindL
      cases i with
      | zero =>
        simp only [List.getElem?_cons_zero, Option.some.injEq] at hi hx
        subst hi hx
        rw [skip hn.1, if_pos hk]
        simp
      | succ i => exact ih hn.2 (by simpa using hi) (by simpa using hx) hk
theorem bindC_at {kindOf : Str → Option NameKind} : ∀ {ns : List Str} {xs : List Value} {m : Str → Option Value} {i : Nat} {n : Str} {x : Value}, ns.Nodup → ns[i]? = some n → xs[i]? = some x → kindOf n ≠ some .local →
    bindC kindOf (ns.zip xs) m n = some x := by
  have skip : ∀ {ns : List Str} {xs : List Value} {m : Str → Option Value} {n : Str}, n ∉ ns → bindC kindOf (ns.zip xs) m n = m n := by
    intro ns
    induction ns with
    | nil => intro xs m n _; rfl
    | cons k ns ih =>
      intro xs m n hn
      cases xs with
      | nil => rfl
      | cons y xs =>
        rw [List.zip_cons_cons]
        unfold bindC
        rw [ih (fun h => hn (List.mem_cons_of_mem _ h))]
        split
        · rfl
        · exact if_neg fun (e : n = k) => hn (by rw [e]; exact List.mem_cons_self)
  intro ns
  induction ns with
  | nil => intro xs m i n x _ h; simp at h
  | cons k ns ih =>
    intro xs m i n x hn hi hx hk
    rw [List.nodup_cons] at hn
    cases xs with
    | nil => simp at hx
    | cons y xs =>
      rw [List.zip_cons_cons]
      unfold bindC
      cases i with
      | zero =>
        simp only [List.getElem?_cons_zero, Option.some.injEq] at hi hx
        subst hi hx
        rw [skip hn.1, if_neg hk]
        simp
      | succ i => exact ih hn.2 (by simpa using hi) (by simpa using hx) hk

/-- the text's def, as the words say it -/
structure FOk (c : Cx) (D : Nm) (f : Addr) (F : Fn) : Prop where
  ex : ∃ (o : Obj) (fd : FuncData) (body : List Stmt) (sl : List Str), c.K.lookup f = some o ∧ o.data = .func fd ∧ fd.body = .stmts body ∧ fd.globals = mainGlobals ∧ fd.builtins = builtinsNs ∧ fd.closure = [] ∧
    fd.scope.isCoroutine = false ∧ fd.scope.isGenerator = false ∧ fd.scope.kind = .function ∧ codeIn c.K fd.code fd.qualname = true ∧
    fd.params.posonlyargs = [] ∧ fd.params.args.map (·.arg) = sl.take F.np ∧ fd.params.vararg = none ∧ fd.params.kwonlyargs = [] ∧ fd.params.kwarg = none ∧
    sl.Nodup ∧ sl.length = F.ns ∧ F.np ≤ F.ns ∧ (∀ n ∈ sl.take F.np, fd.scope.names.lookup n = some .local ∨ fd.scope.names.lookup n = some .cell) ∧ (∀ n ∈ sl, fd.scope.names.lookup n ≠ some .free) ∧
    trSs D fd.scope.names sl F.body body = true ∧
    ((fd.defaults = .none ∧ F.dfl = []) ∨ ∃ t o xs n, fd.defaults = .ref t ∧ c.K.lookup t = some o ∧ o.data = .seq xs n ∧ RVs c.B [] F.dfl xs.toList)

noncomputable def placeOf (names : Names) (cs : List (Str × Addr)) (L : Addr) (n : Str) : Pl := if names.lookup n = some .cell then .cell ((cs.lookup n).getD 0) else .ns L n

theorem nth_map {α β : Type} (f : α → β) {l : List α} {i : Nat} {y : β} (h : (l.map f)[i]? = some y) : ∃ x, l[i]? = some x ∧ y = f x := by
  rw [List.getElem?_map, Option.map_eq_some_iff] at h
  obtain ⟨x, h1, h2⟩ := h
  exact ⟨x, h1, h2.symm⟩

variable {c : Cx} {D : Nm} {fad : Nat → Addr} {T : Tab} {cl : Cl} {d u : Nat}

theorem fn_sound (G : Gd c D fad T) (C : ClOk c fad cl d u) {f : Addr} {F : Fn} (O : FOk c D f F) {args : List V} {H : AH} {P : V → AH → Prop} (hv : vcFn T cl F args H P) {A : Around} (R : Room (d + 5) (u + 33) A) {s : Shared} {μ : Mu} {xs : List Value}
    (S : St c s.heap μ H) (rs : RVs c.B μ args xs) : codeAny (model c.prog c.w) A (.call (.ref f) ⟨xs, []⟩) (fun r s' => match r with | .ok (.ret val) => Rt c s μ P val s' | _ => False) s := by
  obtain ⟨o, fd, body, sl, ho, hdata, hbody, hgl, hbl, hclo, hco, hgen, hkind, hcode, p1, p2, p3, p4, p5, hnd, hlen, hnp, hsl0, hsl, htr, hdf⟩ := O.ex
  obtain ⟨v1, v2, v3, hv⟩ := hv
  have hxl := rs.length
  have hnl : (sl.take F.np).length = F.np := by rw [List.length_take]; omega
  -- the defaults
  obtain ⟨ds, hds, hrd⟩ : ∃ ds, RVs c.B [] F.dfl ds ∧ ∀ (M : Model) (A : Around) (E : Value → Shared → Prop), wpAny M A (seqItems? fd.defaults) (fun r s' => s' = s ∧ (r.getD #[]).toList = ds) E s := by
    rcases hdf with ⟨e1, e2⟩ | ⟨t, ot, zs, n, e1, e2, e3, e4⟩
    · refine ⟨[], by rw [e2]; trivial, fun M A E => ?_⟩
      rw [e1]
      exact wpAny_pure ⟨rfl, rfl⟩
    · refine ⟨zs.toList, e4, fun M A E => ?_⟩
      rw [e1]
      exact wpAny_seqItems (In_of G S t ot e2) e3 ⟨rfl, rfl⟩
  have hdl := hds.length
  have rds : RVs c.B μ F.dfl ds := hds.mono ⟨μ, by simp⟩
  refine codeAny_call_function (by have := R.2.1; omega) (In_of G S f o ho) hdata hco hgen hbody (codeRec_of (In_of G S) hcode) ?_
  refine bind_ok p1 p2 p3 p4 p5 (hnd.sublist (List.take_sublist _ _)) (ds := ds) (by rw [hnl, hxl]; exact v1) (by rw [hnl, hxl, hdl]; exact v2) (by rw [hnl, hdl]; exact v3) (hrd _ _ _) ?_
  rw [hnl, hxl, hdl, hclo, hgl, hbl]
  generalize hall : xs ++ ds.drop (args.length + F.dfl.length - F.np) = all
  have hall' : RVs c.B μ (args ++ F.dfl.drop (args.length + F.dfl.length - F.np)) all := by rw [← hall]; exact rs.append (rds.drop _)
  have hallen : all.length = F.np := by rw [hall'.length, List.length_append, List.length_drop]; omega
  have hkindof : ∀ x ∈ (sl.take F.np).zip all, fd.scope.names.lookup x.1 = some .local ∨ (fd.scope.names.lookup x.1 = some .cell ∧ ((cellsFrom (s.heap.objs.size + 1) fd.scope.names []).lookup x.1).isSome = true) := fun x hx => by
    rcases hsl0 _ (List.of_mem_zip hx).1 with h | h
    · exact .inl h
    · exact .inr ⟨h, cells_some _ _ _ (.inl h)⟩
  refine wpAny_newFunctionEnv_cells hkind hkindof fun env he s1 x => ?_
  have hke : ∀ n, env.kindOf n = fd.scope.names.lookup n := fun n => by rw [he]; rfl
  have hcells : env.cells = cellsFrom (s.heap.objs.size + 1) fd.scope.names [] := by rw [he]; rfl
  have hlocals : env.locals = s.heap.objs.size := by rw [he]; rfl
  have hglob : env.globals = mainGlobals := by rw [he]; rfl
  have hbuil : env.builtins = builtinsNs := by rw [he]; rfl
  have hscope : env.scope = fd.scope := by rw [he]; rfl
  obtain ⟨⟨⟨h1, t1, rfl⟩, xns, xkeep, xfresh⟩, xcell, xapart, xabove⟩ := x
  dsimp only at xns xkeep xcell
  have S1 : St c h1 μ H := S.same xkeep
  have X1 : Ext [] μ s.heap μ h1 := ⟨⟨[], by simp, by simp [foot]⟩, fun b o e _ _ => xkeep b o e⟩
  refine ⟨by obtain ⟨mc, ⟨o, a, b, ho, r⟩, e⟩ := G.lim; exact ⟨mc, ⟨o, a, b, S1.base _ _ ho, r⟩, e⟩, codeAny_func ?_⟩
  -- the places
  let pls := sl.map (placeOf fd.scope.names env.cells env.locals)
  have hpl : ∀ (i : Nat) (n : Str), sl[i]? = some n → pls[i]? = some (placeOf fd.scope.names env.cells env.locals n) := fun i n e => by
    show (sl.map _)[i]? = _
    rw [List.getElem?_map, e]; rfl
  have hcel : ∀ n, fd.scope.names.lookup n = some .cell → ∃ a, env.cells.lookup n = some a ∧ placeOf fd.scope.names env.cells env.locals n = .cell a := fun n hc => by
    have := cells_some fd.scope.names (s.heap.objs.size + 1) [] (.inl hc)
    rw [← hcells] at this
    obtain ⟨a, ha⟩ := Option.isSome_iff_exists.mp this
    refine ⟨a, ha, ?_⟩
    unfold placeOf
    rw [if_pos hc, ha]; rfl
  have hloc : ∀ n, fd.scope.names.lookup n ≠ some .cell → placeOf fd.scope.names env.cells env.locals n = .ns env.locals n := fun n hl => by unfold placeOf; rw [if_neg hl]
  have E : En env fd.scope.names sl pls := by
    refine ⟨by rw [hscope]; exact hkind, by rw [hscope], hglob, hbuil, fun i n hi hn => ?_, fun i n hi hn => ?_, hnd, by simp [pls], fun i j p q hp hq e => ?_⟩
    · rw [hpl i n hi, hloc n (by rw [hn]; simp)]
    · have hm := List.mem_of_getElem? hi
      obtain ⟨a, ha, hp⟩ := hcel n (hn.resolve_right (hsl n hm))
      exact ⟨a, by rw [hpl i n hi, hp], ha⟩
    · subst e
      obtain ⟨n, hn, e1⟩ := nth_map _ hp
      obtain ⟨m, hm, e2⟩ := nth_map _ hq
      have hnm : n = m := by
        by_cases hl : fd.scope.names.lookup n = some .cell
        · obtain ⟨a, ha, h2⟩ := hcel n hl
          rw [h2] at e1
          by_cases hl' : fd.scope.names.lookup m = some .cell
          · obtain ⟨a', ha', h2'⟩ := hcel m hl'
            rw [h2', e1] at e2
            injection e2 with e2
            subst e2
            exact name_of_addr xapart (mem_of_lookup ha) (mem_of_lookup ha')
          · rw [hloc m hl', e1] at e2; cases e2
        · rw [hloc n hl] at e1
          by_cases hl' : fd.scope.names.lookup m = some .cell
          · obtain ⟨a, _, h2⟩ := hcel m hl'
            rw [h2, e1] at e2; cases e2
          · rw [hloc m hl'] at e2
            rw [e1] at e2; injection e2
      subst hnm
      obtain ⟨a1, b1⟩ := List.getElem?_eq_some_iff.mp hn
      obtain ⟨a2, b2⟩ := List.getElem?_eq_some_iff.mp hm
      exact (List.getElem_inj hnd).mp (b1.trans b2.symm)
  have hfresh : ∀ pl ∈ pls, s.heap.objs.size ≤ pl.at := fun pl hp => by
    obtain ⟨n, hn, rfl⟩ := List.mem_map.mp hp
    by_cases hl : fd.scope.names.lookup n ≠ some .cell
    · rw [hloc n hl]; show _ ≤ env.locals; exact xfresh
    · obtain ⟨a, ha, h2⟩ := hcel n (Classical.not_not.mp hl)
      rw [h2]
      show _ ≤ a
      have := xabove n a (mem_of_lookup ha)
      exact Nat.le_of_lt (Nat.lt_of_le_of_lt xfresh this)
  have FM : Fm c h1 μ pls ((args ++ F.dfl.drop (args.length + F.dfl.length - F.np)).map some ++ List.replicate (F.ns - F.np) none) := by
    refine ⟨fun i v hi => ?_, fun pl hp => ?_, fun pl hp => ?_⟩
    · have hlm : ((args ++ F.dfl.drop (args.length + F.dfl.length - F.np)).map some).length = F.np := by rw [List.length_map, ← hall'.length, hallen]
      have hi' : i < F.np := by
        refine Nat.lt_of_not_le fun hle => ?_
        rw [List.getElem?_append_right (by rw [hlm]; exact hle), List.getElem?_replicate] at hi
        split at hi <;> cases hi
      rw [List.getElem?_append_left (by rw [hlm]; exact hi'), List.getElem?_map, Option.map_eq_some_iff] at hi
      obtain ⟨w, hw, e⟩ := hi
      cases e
      obtain ⟨y, hy, ry⟩ := hall'.get hw
      have hsli : i < sl.length := by omega
      have hni : sl[i]? = some sl[i] := List.getElem?_eq_getElem hsli
      have hti : (sl.take F.np)[i]? = some sl[i] := by rw [List.getElem?_take, if_pos hi']; exact hni
      refine ⟨_, hpl i _ hni, ?_⟩
      rcases hsl0 _ (List.mem_of_getElem? hti) with hl | hl
      · rw [hloc _ (by rw [hl]; simp)]
        exact ⟨_, y, xns, bindL_at (hnd.sublist (List.take_sublist _ _)) hti hy (by rw [hke]; exact hl), ry⟩
      · obtain ⟨a, ha, h2⟩ := hcel _ hl
        rw [h2]
        refine ⟨y, ?_, ry⟩
        have := xcell _ a ha
        rw [bindC_at (hnd.sublist (List.take_sublist _ _)) hti hy (by rw [hke, hl]; simp)] at this
        exact this
    · obtain ⟨n, hn, rfl⟩ := List.mem_map.mp hp
      by_cases hl : fd.scope.names.lookup n ≠ some .cell
      · rw [hloc n hl]; exact ⟨_, xns⟩
      · obtain ⟨a, ha, h2⟩ := hcel n (Classical.not_not.mp hl)
        rw [h2]; exact ⟨_, xcell n a ha⟩
    · exact S.fresh (get_none (hfresh pl hp))
  have R' : Room (d + 4) (u + 30) (A.deeper env) := ⟨R.1, by have := R.2.1; show A.depth + 1 + (d + 4) < _; omega, by have := R.2.2; show A.units + 3 + (u + 30) < _; omega⟩
  refine wp_rs (sd_allSs G C F.body (A.deeper env) env fd.scope.names sl pls E R' body htr { s with heap := h1, toks := t1 } μ H _ _ S1 FM hv) fun fl g l' H' μ' h' t' hP rf S' F' X' => ?_
  have XX : Ext [] μ s.heap μ' h' := (X1.any.trans X').widen fun a ha => by
    obtain ⟨pl, hp, rfl⟩ := List.mem_map.mp ha
    exact .inr (get_none (hfresh pl hp))
  cases g with
  | next =>
    cases fl <;> first | exact rf.elim | skip
    exact ⟨.none, H', μ', h', t', rfl, hP, rfl, S', XX⟩
  | ret v =>
    cases fl <;> first | exact rf.elim | skip
    exact ⟨v, H', μ', h', t', rfl, hP, rf, S', XX⟩

theorem call_sound (G : Gd c D fad T) {fs : List Fn} (O : ∀ (g : Nat) (F : Fn), fs[g]? = some F → FOk c D (fad g) F) : ∀ k, ClOk c fad (vcCall T fs k) (5 * k) (33 * k)
  | 0 => fun _ _ _ _ h => h.elim
  | k + 1 => fun g args H P h A R s μ xs S rs => by
    obtain ⟨F, hF, hv⟩ := h
    exact fn_sound G (call_sound G O k) (O g F hF) hv (R.less (by omega) (by omega)) S rs
end Mine
end
section
open PySem PySem.W PySem.Calls PyProof.Rows
namespace Mine
noncomputable def s_address : Str := ⟨#[97, 100, 100, 114, 101, 115, 115]⟩
noncomputable def s_applet : Str := ⟨#[97, 112, 112, 108, 101, 116]⟩
noncomputable def s_area : Str := ⟨#[97, 114, 101, 97]⟩
noncomputable def s_article : Str := ⟨#[97, 114, 116, 105, 99, 108, 101]⟩
noncomputable def s_aside : Str := ⟨#[97, 115, 105, 100, 101]⟩
noncomputable def s_base : Str := ⟨#[98, 97, 115, 101]⟩
noncomputable def s_basefont : Str := ⟨#[98, 97, 115, 101, 102, 111, 110, 116]⟩
noncomputable def s_bgsound : Str := ⟨#[98, 103, 115, 111, 117, 110, 100]⟩
noncomputable def s_blockquote : Str := ⟨#[98, 108, 111, 99, 107, 113, 117, 111, 116, 101]⟩
noncomputable def s_body : Str := ⟨#[98, 111, 100, 121]⟩
noncomputable def s_br : Str := ⟨#[98, 114]⟩
noncomputable def s_button : Str := ⟨#[98, 117, 116, 116, 111, 110]⟩
noncomputable def s_caption : Str := ⟨#[99, 97, 112, 116, 105, 111, 110]⟩
noncomputable def s_center : Str := ⟨#[99, 101, 110, 116, 101, 114]⟩
noncomputable def s_col : Str := ⟨#[99, 111, 108]⟩
noncomputable def s_colgroup : Str := ⟨#[99, 111, 108, 103, 114, 111, 117, 112]⟩
noncomputable def s_dd : Str := ⟨#[100, 100]⟩
noncomputable def s_details : Str := ⟨#[100, 101, 116, 97, 105, 108, 115]⟩
noncomputable def s_dir : Str := ⟨#[100, 105, 114]⟩
noncomputable def s_div : Str := ⟨#[100, 105, 118]⟩
noncomputable def s_dl : Str := ⟨#[100, 108]⟩
noncomputable def s_dt : Str := ⟨#[100, 116]⟩
noncomputable def s_embed : Str := ⟨#[101, 109, 98, 101, 100]⟩
noncomputable def s_fieldset : Str := ⟨#[102, 105, 101, 108, 100, 115, 101, 116]⟩
noncomputable def s_figcaption : Str := ⟨#[102, 105, 103, 99, 97, 112, 116, 105, 111, 110]⟩
noncomputable def s_figure : Str := ⟨#[102, 105, 103, 117, 114, 101]⟩
noncomputable def s_footer : Str := ⟨#[102, 111, 111, 116, 101, 114]⟩
noncomputable def s_form : Str := ⟨#[102, 111, 114, 109]⟩
noncomputable def s_frame : Str := ⟨#[102, 114, 97, 109, 101]⟩
noncomputable def s_frameset : Str := ⟨#[102, 114, 97, 109, 101, 115, 101, 116]⟩
noncomputable def s_h1 : Str := ⟨#[104, 49]⟩
noncomputable def s_h2 : Str := ⟨#[104, 50]⟩
noncomputable def s_h3 : Str := ⟨#[104, 51]⟩
noncomputable def s_h4 : Str := ⟨#[104, 52]⟩
noncomputable def s_h5 : Str := ⟨#[104, 53]⟩
noncomputable def s_h6 : Str := ⟨#[104, 54]⟩
noncomputable def s_head : Str := ⟨#[104, 101, 97, 100]⟩
noncomputable def s_header : Str := ⟨#[104, 101, 97, 100, 101, 114]⟩
noncomputable def s_hgroup : Str := ⟨#[104, 103, 114, 111, 117, 112]⟩
noncomputable def s_hr : Str := ⟨#[104, 114]⟩
noncomputable def s_html : Str := ⟨#[104, 116, 109, 108]⟩
noncomputable def s_iframe : Str := ⟨#[105, 102, 114, 97, 109, 101]⟩
noncomputable def s_img : Str := ⟨#[105, 109, 103]⟩
noncomputable def s_input : Str := ⟨#[105, 110, 112, 117, 116]⟩
noncomputable def s_keygen : Str := ⟨#[107, 101, 121, 103, 101, 110]⟩
noncomputable def s_li : Str := ⟨#[108, 105]⟩
noncomputable def s_link : Str := ⟨#[108, 105, 110, 107]⟩
noncomputable def s_listing : Str := ⟨#[108, 105, 115, 116, 105, 110, 103]⟩
noncomputable def s_main : Str := ⟨#[109, 97, 105, 110]⟩
noncomputable def s_marquee : Str := ⟨#[109, 97, 114, 113, 117, 101, 101]⟩
noncomputable def s_menu : Str := ⟨#[109, 101, 110, 117]⟩
noncomputable def s_meta : Str := ⟨#[109, 101, 116, 97]⟩
noncomputable def s_nav : Str := ⟨#[110, 97, 118]⟩
noncomputable def s_noembed : Str := ⟨#[110, 111, 101, 109, 98, 101, 100]⟩
noncomputable def s_noframes : Str := ⟨#[110, 111, 102, 114, 97, 109, 101, 115]⟩
noncomputable def s_noscript : Str := ⟨#[110, 111, 115, 99, 114, 105, 112, 116]⟩
noncomputable def s_object : Str := ⟨#[111, 98, 106, 101, 99, 116]⟩
noncomputable def s_ol : Str := ⟨#[111, 108]⟩
noncomputable def s_p : Str := ⟨#[112]⟩
noncomputable def s_param : Str := ⟨#[112, 97, 114, 97, 109]⟩
noncomputable def s_plaintext : Str := ⟨#[112, 108, 97, 105, 110, 116, 101, 120, 116]⟩
noncomputable def s_pre : Str := ⟨#[112, 114, 101]⟩
noncomputable def s_script : Str := ⟨#[115, 99, 114, 105, 112, 116]⟩
noncomputable def s_search : Str := ⟨#[115, 101, 97, 114, 99, 104]⟩
noncomputable def s_section : Str := ⟨#[115, 101, 99, 116, 105, 111, 110]⟩
noncomputable def s_select : Str := ⟨#[115, 101, 108, 101, 99, 116]⟩
noncomputable def s_source : Str := ⟨#[115, 111, 117, 114, 99, 101]⟩
noncomputable def s_style : Str := ⟨#[115, 116, 121, 108, 101]⟩
noncomputable def s_summary : Str := ⟨#[115, 117, 109, 109, 97, 114, 121]⟩
noncomputable def s_table : Str := ⟨#[116, 97, 98, 108, 101]⟩
noncomputable def s_tbody : Str := ⟨#[116, 98, 111, 100, 121]⟩
noncomputable def s_td : Str := ⟨#[116, 100]⟩
noncomputable def s_template : Str := ⟨#[116, 101, 109, 112, 108, 97, 116, 101]⟩
noncomputable def s_textarea : Str := ⟨#[116, 101, 120, 116, 97, 114, 101, 97]⟩
noncomputable def s_tfoot : Str := ⟨#[116, 102, 111, 111, 116]⟩
noncomputable def s_th : Str := ⟨#[116, 104]⟩
noncomputable def s_thead : Str := ⟨#[116, 104, 101, 97, 100]⟩
noncomputable def s_title : Str := ⟨#[116, 105, 116, 108, 101]⟩
noncomputable def s_tr : Str := ⟨#[116, 114]⟩
noncomputable def s_track : Str := ⟨#[116, 114, 97, 99, 107]⟩
noncomputable def s_ul : Str := ⟨#[117, 108]⟩
noncomputable def s_wbr : Str := ⟨#[119, 98, 114]⟩
noncomputable def s_xmp : Str := ⟨#[120, 109, 112]⟩
noncomputable def s_svg : Str := ⟨#[115, 118, 103]⟩
noncomputable def s_foreignObject : Str := ⟨#[102, 111, 114, 101, 105, 103, 110, 79, 98, 106, 101, 99, 116]⟩
noncomputable def s_desc : Str := ⟨#[100, 101, 115, 99]⟩
noncomputable def s_math : Str := ⟨#[109, 97, 116, 104]⟩
noncomputable def s_mi : Str := ⟨#[109, 105]⟩
noncomputable def s_mo : Str := ⟨#[109, 111]⟩
noncomputable def s_mn : Str := ⟨#[109, 110]⟩
noncomputable def s_ms : Str := ⟨#[109, 115]⟩
noncomputable def s_mtext : Str := ⟨#[109, 116, 101, 120, 116]⟩
noncomputable def s_annotationXxml : Str := ⟨#[97, 110, 110, 111, 116, 97, 116, 105, 111, 110, 45, 120, 109, 108]⟩
noncomputable def s_rtc : Str := ⟨#[114, 116, 99]⟩
noncomputable def s_rt : Str := ⟨#[114, 116]⟩
noncomputable def s_rp : Str := ⟨#[114, 112]⟩
noncomputable def s_rb : Str := ⟨#[114, 98]⟩
noncomputable def s_option : Str := ⟨#[111, 112, 116, 105, 111, 110]⟩
noncomputable def s_optgroup : Str := ⟨#[111, 112, 116, 103, 114, 111, 117, 112]⟩
noncomputable def s_listXitem : Str := ⟨#[108, 105, 115, 116, 32, 105, 116, 101, 109]⟩
noncomputable def s_ : Str := ⟨#[]⟩
noncomputable def s_unexpectedXendXtag : Str := ⟨#[117, 110, 101, 120, 112, 101, 99, 116, 101, 100, 45, 101, 110, 100, 45, 116, 97, 103]⟩
noncomputable def s_openXelements : Str := ⟨#[111, 112, 101, 110, 45, 101, 108, 101, 109, 101, 110, 116, 115]⟩
noncomputable def s_X : Str := ⟨#[32]⟩
noncomputable def s_summaryXtableXtbodyXtdXt : Str := ⟨#[115, 117, 109, 109, 97, 114, 121, 32, 116, 97, 98, 108, 101, 32, 116, 98, 111, 100, 121, 32, 116, 100, 32, 116, 101, 109, 112, 108, 97, 116, 101, 32, 116, 101, 120, 116, 97, 114, 101, 97, 32, 116, 102, 111, 111, 116, 32, 116, 104, 32, 116, 104, 101, 97, 100, 32, 116, 105, 116, 108, 101, 32, 116, 114, 32, 116, 114, 97, 99, 107, 32, 117, 108, 32, 119, 98, 114, 32, 120, 109, 112]⟩
noncomputable def s_noembedXnoframesXnoscrip : Str := ⟨#[110, 111, 101, 109, 98, 101, 100, 32, 110, 111, 102, 114, 97, 109, 101, 115, 32, 110, 111, 115, 99, 114, 105, 112, 116, 32, 111, 98, 106, 101, 99, 116, 32, 111, 108, 32, 112, 32, 112, 97, 114, 97, 109, 32, 112, 108, 97, 105, 110, 116, 101, 120, 116, 32, 112, 114, 101, 32, 115, 99, 114, 105, 112, 116, 32, 115, 101, 97, 114, 99, 104, 32, 115, 101, 99, 116, 105, 111, 110, 32, 115, 101, 108, 101, 99, 116, 32, 115, 111, 117, 114, 99, 101, 32, 115, 116, 121, 108, 101]⟩
noncomputable def s_h4Xh5Xh6XheadXheaderXhgr : Str := ⟨#[104, 52, 32, 104, 53, 32, 104, 54, 32, 104, 101, 97, 100, 32, 104, 101, 97, 100, 101, 114, 32, 104, 103, 114, 111, 117, 112, 32, 104, 114, 32, 104, 116, 109, 108, 32, 105, 102, 114, 97, 109, 101, 32, 105, 109, 103, 32, 105, 110, 112, 117, 116, 32, 107, 101, 121, 103, 101, 110, 32, 108, 105, 32, 108, 105, 110, 107, 32, 108, 105, 115, 116, 105, 110, 103, 32, 109, 97, 105, 110, 32, 109, 97, 114, 113, 117, 101, 101, 32, 109, 101, 110, 117, 32, 109, 101, 116, 97, 32, 110, 97, 118]⟩
noncomputable def s_colgroupXddXdetailsXdirX : Str := ⟨#[99, 111, 108, 103, 114, 111, 117, 112, 32, 100, 100, 32, 100, 101, 116, 97, 105, 108, 115, 32, 100, 105, 114, 32, 100, 105, 118, 32, 100, 108, 32, 100, 116, 32, 101, 109, 98, 101, 100, 32, 102, 105, 101, 108, 100, 115, 101, 116, 32, 102, 105, 103, 99, 97, 112, 116, 105, 111, 110, 32, 102, 105, 103, 117, 114, 101, 32, 102, 111, 111, 116, 101, 114, 32, 102, 111, 114, 109, 32, 102, 114, 97, 109, 101, 32, 102, 114, 97, 109, 101, 115, 101, 116, 32, 104, 49, 32, 104, 50, 32, 104, 51]⟩
noncomputable def s_addressXappletXareaXarti : Str := ⟨#[97, 100, 100, 114, 101, 115, 115, 32, 97, 112, 112, 108, 101, 116, 32, 97, 114, 101, 97, 32, 97, 114, 116, 105, 99, 108, 101, 32, 97, 115, 105, 100, 101, 32, 98, 97, 115, 101, 32, 98, 97, 115, 101, 102, 111, 110, 116, 32, 98, 103, 115, 111, 117, 110, 100, 32, 98, 108, 111, 99, 107, 113, 117, 111, 116, 101, 32, 98, 111, 100, 121, 32, 98, 114, 32, 98, 117, 116, 116, 111, 110, 32, 99, 97, 112, 116, 105, 111, 110, 32, 99, 101, 110, 116, 101, 114, 32, 99, 111, 108]⟩
noncomputable def s_rtXrpXrbXrtcXoptionXoptg : Str := ⟨#[114, 116, 32, 114, 112, 32, 114, 98, 32, 114, 116, 99, 32, 111, 112, 116, 105, 111, 110, 32, 111, 112, 116, 103, 114, 111, 117, 112, 32, 108, 105, 32, 100, 100, 32, 100, 116, 32, 112]⟩
noncomputable def s_gXdescXpXtitleXrtXforeig : Str := ⟨#[103, 32, 100, 101, 115, 99, 32, 112, 32, 116, 105, 116, 108, 101, 32, 114, 116, 32, 102, 111, 114, 101, 105, 103, 110, 79, 98, 106, 101, 99, 116, 32, 109, 105, 32, 109, 111, 32, 109, 110, 32, 109, 115, 32, 109, 116, 101, 120, 116, 32, 97, 110, 110, 111, 116, 97, 116, 105, 111, 110, 45, 120, 109, 108, 32, 116, 97, 98, 108, 101, 32, 115, 112, 97, 110]⟩
noncomputable def s_span : Str := ⟨#[115, 112, 97, 110]⟩
noncomputable def s_u : Str := ⟨#[117]⟩
noncomputable def s_i : Str := ⟨#[105]⟩
noncomputable def s_code : Str := ⟨#[99, 111, 100, 101]⟩
noncomputable def s_label : Str := ⟨#[108, 97, 98, 101, 108]⟩
noncomputable def s_abbr : Str := ⟨#[97, 98, 98, 114]⟩
noncomputable def s_ruby : Str := ⟨#[114, 117, 98, 121]⟩
noncomputable def s_em : Str := ⟨#[101, 109]⟩
noncomputable def s_b : Str := ⟨#[98]⟩
noncomputable def s_appletXbuttonXcaptionXht : Str := ⟨#[97, 112, 112, 108, 101, 116, 32, 98, 117, 116, 116, 111, 110, 32, 99, 97, 112, 116, 105, 111, 110, 32, 104, 116, 109, 108, 32, 109, 97, 114, 113, 117, 101, 101, 32, 111, 98, 106, 101, 99, 116, 32, 116, 97, 98, 108, 101, 32, 116, 100, 32, 116, 101, 109, 112, 108, 97, 116, 101, 32, 116, 104]⟩
noncomputable def s_inXbody : Str := ⟨#[105, 110, 32, 98, 111, 100, 121]⟩
noncomputable def s_document : Str := ⟨#[100, 111, 99, 117, 109, 101, 110, 116]⟩
noncomputable def s_fragment : Str := ⟨#[102, 114, 97, 103, 109, 101, 110, 116]⟩
noncomputable def s_element : Str := ⟨#[101, 108, 101, 109, 101, 110, 116]⟩
noncomputable def s_noXquirks : Str := ⟨#[110, 111, 45, 113, 117, 105, 114, 107, 115]⟩
noncomputable def s_initial : Str := ⟨#[105, 110, 105, 116, 105, 97, 108]⟩
/-- slots: space, name -/
noncomputable def f_is_special : Fn := ⟨2, 2, [], (.cons (.ife (.cmp .eq (.loc 0) (.cstr s_math)) (.cons (.ret (.inS false (.loc 1) [s_mi, s_mo, s_mn, s_ms, s_mtext, s_annotationXxml]))
  .nil) .nil)
  (.cons (.ife (.cmp .eq (.loc 0) (.cstr s_svg)) (.cons (.ret (.inS false (.loc 1) [s_foreignObject, s_desc, s_title]))
  .nil) .nil)
  (.cons (.ret (.and (.cons (.cmp .eq (.loc 0) (.cstr s_html)) (.cons (.inS false (.loc 1) [s_address, s_applet, s_area, s_article, s_aside, s_base, s_basefont, s_bgsound, s_blockquote, s_body, s_br, s_button, s_caption, s_center, s_col, s_colgroup, s_dd, s_details, s_dir, s_div, s_dl, s_dt, s_embed, s_fieldset, s_figcaption, s_figure, s_footer, s_form, s_frame, s_frameset, s_h1, s_h2, s_h3, s_h4, s_h5, s_h6, s_head, s_header, s_hgroup, s_hr, s_html, s_iframe, s_img, s_input, s_keygen, s_li, s_link, s_listing, s_main, s_marquee, s_menu, s_meta, s_nav, s_noembed, s_noframes, s_noscript, s_object, s_ol, s_p, s_param, s_plaintext, s_pre, s_script, s_search, s_section, s_select, s_source, s_style, s_summary, s_table, s_tbody, s_td, s_template, s_textarea, s_tfoot, s_th, s_thead, s_title, s_tr, s_track, s_ul, s_wbr, s_xmp]) .nil))))
  .nil)))⟩
/-- slots:  -/
noncomputable def f_implied_names : Fn := ⟨0, 0, [], (.cons (.ret (.tup (.cons (.cstr s_dd) (.cons (.cstr s_dt) (.cons (.cstr s_li) (.cons (.cstr s_optgroup) (.cons (.cstr s_option) (.cons (.cstr s_p) (.cons (.cstr s_rb) (.cons (.cstr s_rp) (.cons (.cstr s_rt) (.cons (.cstr s_rtc) .nil))))))))))))
  .nil)⟩
/-- slots: tree, node, sort, space, name -/
noncomputable def f_stops_scope : Fn := ⟨3, 5, [], (.cons (.asg 3 (.idx (.attr (.loc 0) 3) (.loc 1)))
  (.cons (.asg 4 (.idx (.attr (.loc 0) 4) (.loc 1)))
  (.cons (.ife (.cmp .eq (.loc 2) (.cstr s_select)) (.cons (.ret (.or (.cons (.cmp .ne (.loc 3) (.cstr s_html)) (.cons (.inS true (.loc 4) [s_optgroup, s_option]) .nil))))
  .nil) .nil)
  (.cons (.ife (.cmp .eq (.loc 2) (.cstr s_table)) (.cons (.ret (.and (.cons (.cmp .eq (.loc 3) (.cstr s_html)) (.cons (.inS false (.loc 4) [s_html, s_table, s_template]) .nil))))
  .nil) .nil)
  (.cons (.ife (.cmp .eq (.loc 3) (.cstr s_math)) (.cons (.ret (.inS false (.loc 4) [s_mi, s_mo, s_mn, s_ms, s_mtext, s_annotationXxml]))
  .nil) .nil)
  (.cons (.ife (.cmp .eq (.loc 3) (.cstr s_svg)) (.cons (.ret (.inS false (.loc 4) [s_foreignObject, s_desc, s_title]))
  .nil) .nil)
  (.cons (.ife (.inS false (.loc 4) [s_applet, s_caption, s_html, s_table, s_td, s_th, s_marquee, s_object, s_template]) (.cons (.ret (.cbool true))
  .nil) .nil)
  (.cons (.ife (.cmp .eq (.loc 2) (.cstr s_listXitem)) (.cons (.ret (.inS false (.loc 4) [s_ol, s_ul]))
  .nil) .nil)
  (.cons (.ret (.and (.cons (.cmp .eq (.loc 2) (.cstr s_button)) (.cons (.cmp .eq (.loc 4) (.cstr s_button)) .nil))))
  .nil)))))))))⟩
/-- slots: stack, names, sort, tree, at, node -/
noncomputable def f_in_scope : Fn := ⟨3, 6, [.str s_], (.cons (.asg 3 (.attr (.loc 0) 0))
  (.cons (.forD 4 (.bin .sub (.meth (.loc 0) 2 .nil) (.cint 1)) (.neg (.cint 1)) (.cons (.asg 5 (.idx (.attr (.loc 0) 1) (.loc 4)))
  (.cons (.ife (.and (.cons (.cmp .eq (.idx (.attr (.loc 3) 3) (.loc 5)) (.cstr s_html)) (.cons (.cmp .isin (.idx (.attr (.loc 3) 4) (.loc 5)) (.loc 1)) .nil))) (.cons (.ret (.cbool true))
  .nil) .nil)
  (.cons (.ife (.call 2 (.cons (.loc 3) (.cons (.loc 5) (.cons (.loc 2) .nil)))) (.cons (.ret (.cbool false))
  .nil) .nil)
  .nil))))
  (.cons (.ret (.cbool false))
  .nil)))⟩
/-- slots: stack, but, names -/
noncomputable def f_pop_implied : Fn := ⟨2, 3, [.str s_], (.cons (.asg 2 (.call 1 .nil))
  (.cons (.whl (.and (.cons (.cmp .isin (.meth (.loc 0) 3 .nil) (.loc 2)) (.cons (.cmp .ne (.meth (.loc 0) 3 .nil) (.loc 1)) .nil))) (.cons (.expr (.meth (.loc 0) 0 .nil))
  .nil))
  .nil))⟩
/-- slots: stack, node -/
noncomputable def f_pop_with : Fn := ⟨2, 2, [], (.cons (.whl (.cmp .ne (.meth (.loc 0) 1 .nil) (.loc 1)) (.cons (.expr (.meth (.loc 0) 0 .nil))
  .nil))
  (.cons (.expr (.meth (.loc 0) 0 .nil))
  .nil))⟩
/-- slots: builder, name, tree, stack, at, node -/
noncomputable def f_any_other_end : Fn := ⟨2, 6, [], (.cons (.asg 2 (.attr (.loc 0) 0))
  (.cons (.asg 3 (.attr (.loc 0) 11))
  (.cons (.asg 4 (.bin .sub (.meth (.loc 3) 2 .nil) (.cint 1)))
  (.cons (.whl (.cmp .ge (.loc 4) (.cint 0)) (.cons (.asg 5 (.idx (.attr (.loc 3) 1) (.loc 4)))
  (.cons (.ife (.meth (.loc 2) 10 (.cons (.loc 5) (.cons (.loc 1) .nil))) (.cons (.expr (.call 4 (.cons (.loc 3) (.cons (.loc 1) .nil))))
  (.cons (.ife (.cmp .ne (.meth (.loc 3) 1 .nil) (.loc 5)) (.cons (.expr (.meth (.loc 0) 11 (.cons (.cstr s_openXelements) .nil)))
  .nil) .nil)
  (.cons (.expr (.call 5 (.cons (.loc 3) (.cons (.loc 5) .nil))))
  (.cons .retN
  .nil)))) .nil)
  (.cons (.ife (.call 0 (.cons (.idx (.attr (.loc 2) 3) (.loc 5)) (.cons (.idx (.attr (.loc 2) 4) (.loc 5)) .nil))) (.cons (.expr (.meth (.loc 0) 11 (.cons (.cstr s_unexpectedXendXtag) .nil)))
  (.cons .retN
  .nil)) .nil)
  (.cons (.aug 4 .sub (.cint 1))
  .nil)))))
  .nil))))⟩
/-- slots: tree, node, out, up -/
noncomputable def f_above : Fn := ⟨2, 4, [], (.cons (.asg 2 (.lst .nil))
  (.cons (.asg 3 (.idx (.attr (.loc 0) 7) (.loc 1)))
  (.cons (.whl (.cmp .ne (.loc 3) (.neg (.cint 1))) (.cons (.expr (.app (.loc 2) (.loc 3)))
  (.cons (.asg 3 (.idx (.attr (.loc 0) 7) (.loc 3)))
  .nil)))
  (.cons (.ret (.loc 2))
  .nil))))⟩
/-- slots: builder -/
noncomputable def f_close_p : Fn := ⟨1, 1, [], (.cons (.expr (.call 4 (.cons (.attr (.loc 0) 11) (.cons (.cstr s_p) .nil))))
  (.cons (.ife (.cmp .ne (.meth (.attr (.loc 0) 11) 3 .nil) (.cstr s_p)) (.cons (.expr (.meth (.loc 0) 11 (.cons (.cstr s_openXelements) .nil)))
  .nil) .nil)
  (.cons (.expr (.meth (.attr (.loc 0) 11) 4 (.cons (.tup (.cons (.cstr s_p) .nil)) .nil)))
  .nil)))⟩
/-- slots: script, place, usual -/
noncomputable def f_law_digit : Fn := ⟨2, 3, [], (.cons (.asg 2 (.tup (.cons (.cint 0) (.cons (.cint 3) (.cons (.cint 1) (.cons (.cint 7) (.cons (.cint 3) (.cons (.cint 20) (.cons (.cint 9) (.cons (.cint 6) (.cons (.cint 17) (.cons (.cint 32) (.cons (.cint 0) .nil)))))))))))))
  (.cons (.ret (.ite (.cmp .lt (.loc 1) (.len (.loc 0))) (.idx (.loc 0) (.loc 1)) (.idx (.loc 2) (.loc 1))))
  .nil))⟩
/-- slots: first, second, third, fourth, fifth -/
noncomputable def f_law_specials : Fn := ⟨0, 5, [], (.cons (.asg 0 (.cstr s_addressXappletXareaXarti))
  (.cons (.asg 1 (.cstr s_colgroupXddXdetailsXdirX))
  (.cons (.asg 2 (.cstr s_h4Xh5Xh6XheadXheaderXhgr))
  (.cons (.asg 3 (.cstr s_noembedXnoframesXnoscrip))
  (.cons (.asg 4 (.cstr s_summaryXtableXtbodyXtdXt))
  (.cons (.ret (.split (.bin .add (.bin .add (.bin .add (.bin .add (.bin .add (.bin .add (.bin .add (.bin .add (.loc 0) (.cstr s_X)) (.loc 1)) (.cstr s_X)) (.loc 2)) (.cstr s_X)) (.loc 3)) (.cstr s_X)) (.loc 4))))
  .nil))))))⟩
/-- slots:  -/
noncomputable def f_law_implied : Fn := ⟨0, 0, [], (.cons (.ret (.split (.cstr s_rtXrpXrbXrtcXoptionXoptg)))
  .nil)⟩
/-- slots: digit, more, names, space -/
noncomputable def f_law_kind : Fn := ⟨1, 4, [], (.cons (.asg 1 (.bin .fdiv (.loc 0) (.cint 8)))
  (.cons (.asg 2 (.idx (.tup (.cons (.lst (.cons (.cstr s_option) (.cons (.cstr s_optgroup) (.cons (.cstr s_rb) (.cons (.cstr s_rp) (.cons (.cstr s_rt) (.cons (.cstr s_rtc) .nil))))))) (.cons (.lst (.cons (.cstr s_span) (.cons (.cstr s_b) (.cons (.cstr s_em) (.cons (.cstr s_ruby) (.cons (.cstr s_abbr) (.cons (.cstr s_label) (.cons (.cstr s_code) (.cons (.cstr s_i) .nil))))))))) (.cons (.lst (.cons (.cstr s_rt) (.cons (.cstr s_option) (.cons (.cstr s_u) (.cons (.cstr s_span) .nil))))) (.cons (.lst (.cons (.cstr s_p) .nil)) (.cons (.lst (.cons (.cstr s_dd) (.cons (.cstr s_dt) (.cons (.cstr s_li) (.cons (.cstr s_p) .nil))))) (.cons (.call 10 .nil) (.cons (.split (.cstr s_gXdescXpXtitleXrtXforeig)) (.cons (.lst (.cons (.cstr s_button) (.cons (.cstr s_td) (.cons (.cstr s_th) (.cons (.cstr s_caption) (.cons (.cstr s_table) (.cons (.cstr s_object) (.cons (.cstr s_applet) (.cons (.cstr s_marquee) (.cons (.cstr s_template) (.cons (.cstr s_ol) (.cons (.cstr s_ul) (.cons (.cstr s_html) .nil))))))))))))) .nil))))))))) (.bin .mod (.loc 0) (.cint 8))))
  (.cons (.asg 3 (.ite (.cmp .eq (.bin .mod (.loc 0) (.cint 8)) (.cint 6)) (.idx (.tup (.cons (.cstr s_svg) (.cons (.cstr s_math) .nil))) (.bin .mod (.bin .fdiv (.loc 1) (.len (.loc 2))) (.cint 2))) (.cstr s_html)))
  (.cons (.ret (.tup (.cons (.loc 3) (.cons (.idx (.loc 2) (.bin .mod (.loc 1) (.len (.loc 2)))) .nil))))
  .nil))))⟩
/-- slots: kind -/
noncomputable def f_law_is_special : Fn := ⟨1, 1, [], (.cons (.ife (.cmp .eq (.idx (.loc 0) (.cint 0)) (.cstr s_svg)) (.cons (.ret (.inS false (.idx (.loc 0) (.cint 1)) [s_foreignObject, s_desc, s_title]))
  .nil) .nil)
  (.cons (.ife (.cmp .eq (.idx (.loc 0) (.cint 0)) (.cstr s_math)) (.cons (.ret (.inS false (.idx (.loc 0) (.cint 1)) [s_mi, s_mo, s_mn, s_ms, s_mtext, s_annotationXxml]))
  .nil) .nil)
  (.cons (.ret (.cmp .isin (.idx (.loc 0) (.cint 1)) (.call 10 .nil)))
  .nil)))⟩
/-- slots: kind -/
noncomputable def f_law_ends_button : Fn := ⟨1, 1, [], (.cons (.ife (.cmp .ne (.idx (.loc 0) (.cint 0)) (.cstr s_html)) (.cons (.ret (.call 13 (.cons (.loc 0) .nil)))
  .nil) .nil)
  (.cons (.ret (.cmp .isin (.idx (.loc 0) (.cint 1)) (.split (.cstr s_appletXbuttonXcaptionXht))))
  .nil))⟩
/-- slots: kind -/
noncomputable def f_law_is_solid : Fn := ⟨1, 1, [], (.cons (.ret (.or (.cons (.cmp .ne (.idx (.loc 0) (.cint 0)) (.cstr s_html)) (.cons (.cmp .notin (.idx (.loc 0) (.cint 1)) (.call 11 .nil)) .nil))))
  .nil)⟩
/-- slots: solid, at, many, k -/
noncomputable def f_law_words : Fn := ⟨3, 4, [], (.cons (.ret (.ite (.nil true (.comp (.loc 3) 3 (.loc 0) (.cmp2 (.loc 1) .lt (.loc 3) .lt (.loc 2)))) (.lst (.cons (.cstr s_openXelements) .nil)) (.lst .nil)))
  .nil)⟩
/-- slots: builder, kinds, nodes, many, stops, solid, name, places, left, words, k, kind, word -/
noncomputable def f_law_others_hold : Fn := ⟨4, 13, [], (.cons (.asg 4 (.compR (.loc 10) 10 (.loc 3) (.call 13 (.cons (.idx (.loc 1) (.loc 10)) .nil))))
  (.cons (.asg 5 (.compR (.loc 10) 10 (.loc 3) (.call 15 (.cons (.idx (.loc 1) (.loc 10)) .nil))))
  (.cons (.forL 6 (.bin .add (.comp (.idx (.loc 11) (.cint 1)) 11 (.loc 1) (.cbool true)) (.lst (.cons (.cstr s_code) .nil))) (.cons (.setA (.attr (.loc 0) 11) 1 (.upto (.loc 2) (.loc 3)))
  (.cons (.setA (.loc 0) 24 (.lst .nil))
  (.cons (.expr (.call 6 (.cons (.loc 0) (.cons (.loc 6) .nil))))
  (.cons (.asg 7 (.compR (.loc 10) 10 (.loc 3) (.cmp .eq (.idx (.loc 1) (.loc 10)) (.tup (.cons (.cstr s_html) (.cons (.loc 6) .nil))))))
  (.cons (.asg 8 (.loc 3))
  (.cons (.asg 9 (.lst (.cons (.cstr s_unexpectedXendXtag) .nil)))
  (.cons (.ife (.and (.cons (.nil true (.loc 7)) (.cons (.cmp .ge (.idx (.loc 7) (.neg (.cint 1))) (.idx (.loc 4) (.neg (.cint 1)))) .nil))) (.cons (.asg 8 (.idx (.loc 7) (.neg (.cint 1))))
  (.cons (.asg 9 (.call 16 (.cons (.loc 5) (.cons (.loc 8) (.cons (.loc 3) .nil)))))
  .nil)) .nil)
  (.cons (.ife (.or (.cons (.cmp .ne (.attr (.attr (.loc 0) 11) 1) (.upto (.loc 2) (.loc 8))) (.cons (.cmp .ne (.attr (.loc 0) 24) (.comp (.tup (.cons (.loc 12) (.cons (.cstr s_inXbody) .nil))) 12 (.loc 9) (.cbool true))) .nil))) (.cons (.ret (.cbool false))
  .nil) .nil)
  .nil)))))))))
  (.cons (.ret (.cbool true))
  .nil))))⟩
/-- slots: builder, kinds, nodes, left, words, solid, ends, turn, places, is_in, k, word -/
noncomputable def f_law_closes_hold : Fn := ⟨3, 12, [], (.cons (.asg 3 (.len (.loc 2)))
  (.cons (.asg 4 (.lst .nil))
  (.cons (.asg 5 (.compR (.loc 10) 10 (.loc 3) (.call 15 (.cons (.idx (.loc 1) (.loc 10)) .nil))))
  (.cons (.asg 6 (.compR (.loc 10) 10 (.loc 3) (.call 14 (.cons (.idx (.loc 1) (.loc 10)) .nil))))
  (.cons (.setA (.attr (.loc 0) 11) 1 (.whole (.loc 2)))
  (.cons (.setA (.loc 0) 24 (.lst .nil))
  (.cons (.forR 7 (.cint 12) (.cons (.asg 8 (.compR (.loc 10) 10 (.loc 3) (.cmp .eq (.idx (.loc 1) (.loc 10)) (.tup (.cons (.cstr s_html) (.cons (.cstr s_p) .nil))))))
  (.cons (.asg 9 (.and (.cons (.nil true (.loc 8)) (.cons (.nil false (.comp (.loc 10) 10 (.loc 6) (.cmp2 (.idx (.loc 8) (.neg (.cint 1))) .lt (.loc 10) .lt (.loc 3)))) .nil))))
  (.cons (.ife (.cmp .ne (.call 3 (.cons (.attr (.loc 0) 11) (.cons (.tup (.cons (.cstr s_p) .nil)) (.cons (.cstr s_button) .nil)))) (.loc 9)) (.cons (.ret (.cbool false))
  .nil) .nil)
  (.cons (.ife (.not (.loc 9)) (.cons (.ret (.cbool true))
  .nil) .nil)
  (.cons (.expr (.call 8 (.cons (.loc 0) .nil)))
  (.cons (.asg 4 (.bin .add (.loc 4) (.call 16 (.cons (.loc 5) (.cons (.idx (.loc 8) (.neg (.cint 1))) (.cons (.loc 3) .nil))))))
  (.cons (.asg 3 (.idx (.loc 8) (.neg (.cint 1))))
  (.cons (.ife (.or (.cons (.cmp .ne (.attr (.attr (.loc 0) 11) 1) (.upto (.loc 2) (.loc 3))) (.cons (.cmp .ne (.attr (.loc 0) 24) (.comp (.tup (.cons (.loc 11) (.cons (.cstr s_inXbody) .nil))) 11 (.loc 4) (.cbool true))) .nil))) (.cons (.ret (.cbool false))
  .nil) .nil)
  .nil)))))))))
  (.cons (.ret (.cbool false))
  .nil))))))))⟩
/-- slots: script, kinds, k, builder, tree, nodes, children, parents, many, is_kept, kind, below -/
noncomputable def f_law : Fn := ⟨1, 12, [], (.cons (.asg 1 (.lst (.cons (.tup (.cons (.cstr s_html) (.cons (.cstr s_html) .nil))) (.cons (.tup (.cons (.cstr s_html) (.cons (.cstr s_body) .nil))) .nil))))
  (.cons (.forR 2 (.bin .sub (.cint 10) (.bin .mod (.call 9 (.cons (.loc 0) (.cons (.cint 0) .nil))) (.cint 10))) (.cons (.expr (.app (.loc 1) (.call 12 (.cons (.call 9 (.cons (.loc 0) (.cons (.bin .add (.loc 2) (.cint 1)) .nil))) .nil))))
  .nil))
  (.cons (.asg 3 (.new 3 (.cons .dnil .nil)))
  (.cons (.expr (.meth (.loc 3) 12 (.cons (.cstr s_inXbody) .nil)))
  (.cons (.asg 4 (.attr (.loc 3) 0))
  (.cons (.asg 5 (.comp (.meth (.loc 4) 6 (.cons (.idx (.loc 10) (.cint 1)) (.cons (.idx (.loc 10) (.cint 0)) .nil))) 10 (.loc 1) (.cbool true)))
  (.cons (.forD 2 (.bin .sub (.len (.loc 5)) (.cint 1)) (.cint 0) (.cons (.expr (.meth (.loc 4) 8 (.cons (.dget (.attr (.loc 4) 9) (.idx (.loc 5) (.bin .sub (.loc 2) (.cint 1))) (.idx (.loc 5) (.bin .sub (.loc 2) (.cint 1)))) (.cons (.idx (.loc 5) (.loc 2)) .nil))))
  .nil))
  (.cons (.expr (.meth (.loc 4) 8 (.cons (.cint 0) (.cons (.idx (.loc 5) (.cint 0)) .nil))))
  (.cons (.expr (.ext (.attr (.attr (.loc 3) 12) 1) (.part (.loc 5) (.cint 1) (.cint 3))))
  (.cons (.asg 6 (.comp (.whole (.loc 11)) 11 (.attr (.loc 4) 8) (.cbool true)))
  (.cons (.asg 7 (.whole (.attr (.loc 4) 7)))
  (.cons (.forL 8 (.tup (.cons (.len (.loc 5)) (.cons (.bin .add (.bin .fdiv (.len (.loc 5)) (.cint 2)) (.cint 1)) (.cons (.cint 1) .nil)))) (.cons (.ife (.not (.call 17 (.cons (.loc 3) (.cons (.loc 1) (.cons (.loc 5) (.cons (.loc 8) .nil)))))) (.cons (.ret (.cbool false))
  .nil) .nil)
  .nil))
  (.cons (.ife (.not (.call 18 (.cons (.loc 3) (.cons (.loc 1) (.cons (.loc 5) .nil))))) (.cons (.ret (.cbool false))
  .nil) .nil)
  (.cons (.asg 9 (.and (.cons (.cmp .eq (.attr (.attr (.loc 3) 12) 1) (.part (.loc 5) (.cint 1) (.cint 3))) (.cons (.cmp .eq (.attr (.loc 3) 13) (.cstr s_inXbody)) .nil))))
  (.cons (.ret (.and (.cons (.loc 9) (.cons (.cmp .eq (.attr (.loc 4) 8) (.loc 6)) (.cons (.cmp .eq (.attr (.loc 4) 7) (.loc 7)) .nil)))))
  .nil)))))))))))))))⟩
/-- slots: self, tree -/
noncomputable def f_OpenStack_init : Fn := ⟨2, 2, [], (.cons (.setA (.loc 0) 0 (.loc 1))
  (.cons (.setA (.loc 0) 1 (.lst .nil))
  .nil))⟩
/-- slots: self -/
noncomputable def f_OpenStack_pop : Fn := ⟨1, 1, [], (.cons (.ife (.cmp .eq (.len (.attr (.loc 0) 1)) (.cint 0)) (.cons (.ret (.neg (.cint 1)))
  .nil) .nil)
  (.cons (.ret (.pop (.attr (.loc 0) 1)))
  .nil))⟩
/-- slots: self -/
noncomputable def f_OpenStack_current : Fn := ⟨1, 1, [], (.cons (.ife (.cmp .eq (.len (.attr (.loc 0) 1)) (.cint 0)) (.cons (.ret (.neg (.cint 1)))
  .nil) .nil)
  (.cons (.ret (.idx (.attr (.loc 0) 1) (.bin .sub (.len (.attr (.loc 0) 1)) (.cint 1))))
  .nil))⟩
/-- slots: self -/
noncomputable def f_OpenStack_many : Fn := ⟨1, 1, [], (.cons (.ret (.len (.attr (.loc 0) 1)))
  .nil)⟩
/-- slots: self, node -/
noncomputable def f_OpenStack_name : Fn := ⟨1, 2, [], (.cons (.asg 1 (.meth (.loc 0) 1 .nil))
  (.cons (.ife (.or (.cons (.cmp .eq (.loc 1) (.neg (.cint 1))) (.cons (.cmp .ne (.idx (.attr (.attr (.loc 0) 0) 3) (.loc 1)) (.cstr s_html)) .nil))) (.cons (.ret (.cstr s_))
  .nil) .nil)
  (.cons (.ret (.idx (.attr (.attr (.loc 0) 0) 4) (.loc 1)))
  .nil)))⟩
/-- slots: self, names, name, node -/
noncomputable def f_OpenStack_pop_until : Fn := ⟨2, 4, [], (.cons (.whl (.cmp .gt (.len (.attr (.loc 0) 1)) (.cint 0)) (.cons (.asg 2 (.meth (.loc 0) 3 .nil))
  (.cons (.asg 3 (.pop (.attr (.loc 0) 1)))
  (.cons (.ife (.cmp .isin (.loc 2) (.loc 1)) (.cons (.ret (.loc 3))
  .nil) .nil)
  .nil))))
  (.cons (.ret (.neg (.cint 1)))
  .nil))⟩
/-- slots: self, tree -/
noncomputable def f_Formatting_init : Fn := ⟨2, 2, [], (.cons (.setA (.loc 0) 0 (.loc 1))
  (.cons (.setA (.loc 0) 1 (.lst .nil))
  .nil))⟩
/-- slots: self -/
noncomputable def f_Tree_init : Fn := ⟨1, 1, [], (.cons (.setA (.loc 0) 2 (.lst .nil))
  (.cons (.setA (.loc 0) 3 (.lst .nil))
  (.cons (.setA (.loc 0) 4 (.lst .nil))
  (.cons (.setA (.loc 0) 5 (.lst .nil))
  (.cons (.setA (.loc 0) 6 (.lst .nil))
  (.cons (.setA (.loc 0) 7 (.lst .nil))
  (.cons (.setA (.loc 0) 8 (.lst .nil))
  (.cons (.setA (.loc 0) 9 .dnil)
  (.cons (.expr (.meth (.loc 0) 5 (.cons (.cstr s_document) .nil)))
  .nil)))))))))⟩
/-- slots: self, kind, space, name, attrs, text -/
noncomputable def f_Tree_add : Fn := ⟨6, 6, [.str s_, .str s_, .etup, .str s_], (.cons (.expr (.app (.attr (.loc 0) 2) (.loc 1)))
  (.cons (.expr (.app (.attr (.loc 0) 3) (.loc 2)))
  (.cons (.expr (.app (.attr (.loc 0) 4) (.loc 3)))
  (.cons (.expr (.app (.attr (.loc 0) 5) (.mkl (.loc 4))))
  (.cons (.expr (.app (.attr (.loc 0) 6) (.loc 5)))
  (.cons (.expr (.app (.attr (.loc 0) 7) (.neg (.cint 1))))
  (.cons (.expr (.app (.attr (.loc 0) 8) (.lst .nil)))
  (.cons (.ret (.bin .sub (.len (.attr (.loc 0) 2)) (.cint 1)))
  .nil))))))))⟩
/-- slots: self, name, space, attrs, node -/
noncomputable def f_Tree_element : Fn := ⟨4, 5, [.str s_html, .etup], (.cons (.asg 4 (.meth (.loc 0) 5 (.cons (.cstr s_element) (.cons (.loc 2) (.cons (.loc 1) (.cons (.loc 3) .nil))))))
  (.cons (.ife (.and (.cons (.cmp .eq (.loc 2) (.cstr s_html)) (.cons (.cmp .eq (.loc 1) (.cstr s_template)) .nil))) (.cons (.setI (.attr (.loc 0) 9) (.loc 4) (.meth (.loc 0) 5 (.cons (.cstr s_fragment) .nil)))
  .nil) .nil)
  (.cons (.ret (.loc 4))
  .nil)))⟩
/-- slots: self, parent, node, before, at -/
noncomputable def f_Tree_insert : Fn := ⟨4, 5, [.int (-1)], (.cons (.ife (.or (.cons (.cmp .eq (.loc 2) (.loc 1)) (.cons (.cmp .isin (.loc 2) (.call 7 (.cons (.loc 0) (.cons (.loc 1) .nil)))) .nil))) (.cons .stuck
  .nil) .nil)
  (.cons (.ife (.and (.cons (.cmp .ne (.loc 3) (.neg (.cint 1))) (.cons (.cmp .notin (.loc 3) (.idx (.attr (.loc 0) 8) (.loc 1))) .nil))) (.cons .stuck
  .nil) .nil)
  (.cons (.ife (.cmp .eq (.loc 3) (.loc 2)) (.cons .retN
  .nil) .nil)
  (.cons (.expr (.meth (.loc 0) 9 (.cons (.loc 2) .nil)))
  (.cons (.asg 4 (.len (.idx (.attr (.loc 0) 8) (.loc 1))))
  (.cons (.ife (.cmp .ne (.loc 3) (.neg (.cint 1))) (.cons (.asg 4 (.index (.idx (.attr (.loc 0) 8) (.loc 1)) (.loc 3)))
  .nil) .nil)
  (.cons (.expr (.ins (.idx (.attr (.loc 0) 8) (.loc 1)) (.loc 4) (.loc 2)))
  (.cons (.setI (.attr (.loc 0) 7) (.loc 2) (.loc 1))
  .nil))))))))⟩
/-- slots: self, parent, node -/
noncomputable def f_Tree_append : Fn := ⟨3, 3, [], (.cons (.expr (.meth (.loc 0) 7 (.cons (.loc 1) (.cons (.loc 2) .nil))))
  .nil)⟩
/-- slots: self, node -/
noncomputable def f_Tree_remove : Fn := ⟨2, 2, [], (.cons (.ife (.cmp .ne (.idx (.attr (.loc 0) 7) (.loc 1)) (.neg (.cint 1))) (.cons (.expr (.meth (.idx (.attr (.loc 0) 8) (.idx (.attr (.loc 0) 7) (.loc 1))) 9 (.cons (.loc 1) .nil)))
  (.cons (.setI (.attr (.loc 0) 7) (.loc 1) (.neg (.cint 1)))
  .nil)) .nil)
  .nil)⟩
/-- slots: self, node, name -/
noncomputable def f_Tree_is_html : Fn := ⟨3, 3, [], (.cons (.ret (.and (.cons (.cmp .ne (.loc 1) (.neg (.cint 1))) (.cons (.cmp .eq (.idx (.attr (.loc 0) 3) (.loc 1)) (.cstr s_html)) (.cons (.cmp .eq (.idx (.attr (.loc 0) 4) (.loc 1)) (.loc 2)) .nil)))))
  .nil)⟩
/-- slots: self, rules, is_scripting -/
noncomputable def f_Builder_init : Fn := ⟨3, 3, [.bool false], (.cons (.setA (.loc 0) 10 (.loc 1))
  (.cons (.setA (.loc 0) 0 (.new 2 .nil))
  (.cons (.setA (.loc 0) 11 (.new 0 (.cons (.attr (.loc 0) 0) .nil)))
  (.cons (.setA (.loc 0) 12 (.new 1 (.cons (.attr (.loc 0) 0) .nil)))
  (.cons (.setA (.loc 0) 13 (.cstr s_initial))
  (.cons (.setA (.loc 0) 14 (.cstr s_))
  (.cons (.setA (.loc 0) 15 (.lst .nil))
  (.cons (.setA (.loc 0) 16 (.neg (.cint 1)))
  (.cons (.setA (.loc 0) 17 (.neg (.cint 1)))
  (.cons (.setA (.loc 0) 18 .dnil)
  (.cons (.setA (.loc 0) 19 (.cbool true))
  (.cons (.setA (.loc 0) 20 (.loc 2))
  (.cons (.setA (.loc 0) 21 (.cbool false))
  (.cons (.setA (.loc 0) 22 (.neg (.cint 1)))
  (.cons (.setA (.loc 0) 23 (.cstr s_noXquirks))
  (.cons (.setA (.loc 0) 24 (.lst .nil))
  (.cons (.setA (.loc 0) 25 (.lst .nil))
  (.cons (.setA (.loc 0) 26 (.cstr s_))
  (.cons (.setA (.loc 0) 27 (.cbool false))
  (.cons (.setA (.loc 0) 28 (.cbool false))
  (.cons (.setA (.loc 0) 29 (.cbool false))
  .nil)))))))))))))))))))))⟩
/-- slots: self, word -/
noncomputable def f_Builder_error : Fn := ⟨2, 2, [], (.cons (.expr (.app (.attr (.loc 0) 24) (.tup (.cons (.loc 1) (.cons (.attr (.loc 0) 13) .nil)))))
  .nil)⟩
/-- slots: self, mode -/
noncomputable def f_Builder_to : Fn := ⟨2, 2, [], (.cons (.setA (.loc 0) 13 (.loc 1))
  .nil)⟩
/-- fields: 0 tree, 1 items, 2 kinds, 3 spaces, 4 names, 5 attrs, 6 texts, 7 parents, 8 children, 9 contents, 10 rules, 11 stack, 12 formatting, 13 mode, 14 original, 15 modes, 16 head, 17 form, 18 owners, 19 is_frameset_ok, 20 is_scripting, 21 is_foster, 22 context, 23 quirks, 24 errors, 25 pending, 26 wish, 27 is_skipping, 28 is_acknowledged, 29 is_done -/
noncomputable def FLD : List Str := ["tree", "items", "kinds", "spaces", "names", "attrs", "texts", "parents", "children", "contents", "rules", "stack", "formatting", "mode", "original", "modes", "head", "form", "owners", "is_frameset_ok", "is_scripting", "is_foster", "context", "quirks", "errors", "pending", "wish", "is_skipping", "is_acknowledged", "is_done"]
/-- methods: 0 pop, 1 current, 2 many, 3 name, 4 pop_until, 5 add, 6 element, 7 insert, 8 append, 9 remove, 10 is_html, 11 error, 12 to -/
noncomputable def MNS : List Str := ["pop", "current", "many", "name", "pop_until", "add", "element", "insert", "append", "remove", "is_html", "error", "to"]
noncomputable def GNS : List Str := ["is_special", "implied_names", "stops_scope", "in_scope", "pop_implied", "pop_with", "any_other_end", "above", "close_p", "_law_digit", "_law_specials", "_law_implied", "_law_kind", "_law_is_special", "_law_ends_button", "_law_is_solid", "_law_words", "_law_others_hold", "_law_closes_hold", "law"]
noncomputable def CNS : List Str := ["OpenStack", "Formatting", "Tree", "Builder"]
/-- 0 is_special, 1 implied_names, 2 stops_scope, 3 in_scope, 4 pop_implied, 5 pop_with, 6 any_other_end, 7 above, 8 close_p, 9 _law_digit, 10 _law_specials, 11 _law_implied, 12 _law_kind, 13 _law_is_special, 14 _law_ends_button, 15 _law_is_solid, 16 _law_words, 17 _law_others_hold, 18 _law_closes_hold, 19 law, 20 OpenStack.__init__, 21 OpenStack.pop, 22 OpenStack.current, 23 OpenStack.many, 24 OpenStack.name, 25 OpenStack.pop_until, 26 Formatting.__init__, 27 Tree.__init__, 28 Tree.add, 29 Tree.element, 30 Tree.insert, 31 Tree.append, 32 Tree.remove, 33 Tree.is_html, 34 Builder.__init__, 35 Builder.error, 36 Builder.to -/
noncomputable def FS : List Fn := [f_is_special, f_implied_names, f_stops_scope, f_in_scope, f_pop_implied, f_pop_with, f_any_other_end, f_above, f_close_p, f_law_digit, f_law_specials, f_law_implied, f_law_kind, f_law_is_special, f_law_ends_button, f_law_is_solid, f_law_words, f_law_others_hold, f_law_closes_hold, f_law, f_OpenStack_init, f_OpenStack_pop, f_OpenStack_current, f_OpenStack_many, f_OpenStack_name, f_OpenStack_pop_until, f_Formatting_init, f_Tree_init, f_Tree_add, f_Tree_element, f_Tree_insert, f_Tree_append, f_Tree_remove, f_Tree_is_html, f_Builder_init, f_Builder_error, f_Builder_to]
noncomputable def SLS : List (List Str) := [(["space", "name"] : List Str),
  ([] : List Str),
  (["tree", "node", "sort", "space", "name"] : List Str),
  (["stack", "names", "sort", "tree", "at", "node"] : List Str),
  (["stack", "but", "names"] : List Str),
  (["stack", "node"] : List Str),
  (["builder", "name", "tree", "stack", "at", "node"] : List Str),
  (["tree", "node", "out", "up"] : List Str),
  (["builder"] : List Str),
  (["script", "place", "usual"] : List Str),
  (["first", "second", "third", "fourth", "fifth"] : List Str),
  ([] : List Str),
  (["digit", "more", "names", "space"] : List Str),
  (["kind"] : List Str),
  (["kind"] : List Str),
  (["kind"] : List Str),
  (["solid", "at", "many", "k"] : List Str),
  (["builder", "kinds", "nodes", "many", "stops", "solid", "name", "places", "left", "words", "k", "kind", "word"] : List Str),
  (["builder", "kinds", "nodes", "left", "words", "solid", "ends", "turn", "places", "is_in", "k", "word"] : List Str),
  (["script", "kinds", "k", "builder", "tree", "nodes", "children", "parents", "many", "is_kept", "kind", "below"] : List Str),
  (["self", "tree"] : List Str),
  (["self"] : List Str),
  (["self"] : List Str),
  (["self"] : List Str),
  (["self", "node"] : List Str),
  (["self", "names", "name", "node"] : List Str),
  (["self", "tree"] : List Str),
  (["self"] : List Str),
  (["self", "kind", "space", "name", "attrs", "text"] : List Str),
  (["self", "name", "space", "attrs", "node"] : List Str),
  (["self", "parent", "node", "before", "at"] : List Str),
  (["self", "parent", "node"] : List Str),
  (["self", "node"] : List Str),
  (["self", "node", "name"] : List Str),
  (["self", "rules", "is_scripting"] : List Str),
  (["self", "word"] : List Str),
  (["self", "mode"] : List Str)]
noncomputable def MT : List (Nat × Nat × Nat) := [(0, 0, 21), (0, 1, 22), (0, 2, 23), (0, 3, 24), (0, 4, 25), (2, 5, 28), (2, 6, 29), (2, 7, 30), (2, 8, 31), (2, 9, 32), (2, 10, 33), (3, 11, 35), (3, 12, 36)]
noncomputable def IT : List (Nat × Nat) := [(0, 20), (1, 26), (2, 27), (3, 34)]
noncomputable def TAB : Tab := ⟨fun c m => (MT.find? fun x => x.1 == c && x.2.1 == m).map fun x => x.2.2, fun c => (IT.find? fun x => x.1 == c).map fun x => x.2⟩
end Mine
end
section
open PySem PySem.W PySem.Calls PyProof.Rows
namespace Mine

/-! ## what the top leaves: a check over the written part -/
noncomputable def FADS : List Addr := [28, 35, 147, 155, 163, 170, 177, 417, 495, 502, 509, 516, 523, 530, 537, 544, 549, 554, 559, 564, 49, 63, 70, 77, 112, 126, 223, 307, 316, 325, 354, 361, 368, 403, 432, 439, 446]
noncomputable def CADS : List Addr := [136, 289, 406, 484]
noncomputable def ADS : List Addr := [1, 3, 27, 28, 34, 35, 48, 49, 62, 63, 69, 70, 76, 77, 111, 112, 125, 126, 135, 136, 146, 147, 148, 154, 155, 156, 162, 163, 169, 170, 176, 177, 222, 223, 288, 289, 306, 307, 308, 309, 315, 316, 317, 318, 324, 325, 347, 353, 354, 360, 361, 367, 368, 402, 403, 405, 406, 416, 417, 425, 431, 432, 438, 439, 445, 446, 483, 484, 494, 495, 501, 502, 508, 509, 515, 516, 522, 523, 529, 530, 536, 537, 543, 544, 548, 549, 553, 554, 558, 559, 563, 564]
noncomputable def fad (g : Nat) : Addr := (FADS[g]?).getD 0
noncomputable def cadr (k : Nat) : Addr := (CADS[k]?).getD 0
noncomputable def DD : Nm := ⟨GNS, MNS, CNS, FLD⟩

noncomputable def etupO (o : Obj) : Bool := match o with
  | ⟨c, _, d, _⟩ => match c with
    | .type n => (match d with
      | .seq xs _ => n == "tuple" && xs.toList.isEmpty
      | _ => false)
    | _ => false
noncomputable def rvB (K : Frag) (v : V) (x : Value) : Bool := match v with
  | .none => (match x with
    | .none => true
    | _ => false)
  | .bool b => (match x with
    | .bool a => a == b
    | _ => false)
  | .int i => (match x with
    | .int j _ => i == j
    | _ => false)
  | .str s => (match x with
    | .str t _ => s == t
    | _ => false)
  | .etup => (match x with
    | .ref a => (K.lookup a).any etupO
    | _ => false)
  | _ => false
noncomputable def rvsB (K : Frag) : List V → List Value → Bool
  | [], [] => true
  | v :: vs, x :: xs => rvB K v x && rvsB K vs xs
  | _, _ => false
noncomputable def dfB (K : Frag) (d : Value) (vs : List V) : Bool := match d with
  | .none => vs.isEmpty
  | .ref t => (match K.lookup t with
      | some ⟨_, _, .seq xs _, _⟩ => rvsB K vs xs.toList
      | _ => false)
  | _ => false
/-- what stands in the heap beside the text itself -/
noncomputable def fnH (K : Frag) (f : Addr) (F : Fn) : Bool := match K.lookup f with
  | some ⟨_, _, .func fd, _⟩ => fd.globals == mainGlobals && fd.builtins == builtinsNs && fd.closure.isEmpty && codeIn K fd.code fd.qualname && dfB K fd.defaults F.dfl
  | _ => false
noncomputable abbrev Txt1 := FuncBody × Scope × Arguments
/-- the text of a def, as it stands in the heap -/
noncomputable def bodyOf (K : Frag) (f : Addr) : Option Txt1 := match K.lookup f with
  | some ⟨_, _, .func fd, _⟩ => some (fd.body, fd.scope, fd.params)
  | _ => none
/-- the words are the text's -/
noncomputable def fnT (D : Nm) (x : Option Txt1) (F : Fn) (sl : List Str) : Bool := match x with
  | some (.stmts body, sc, ps) => !sc.isCoroutine && !sc.isGenerator && sc.kind == .function &&
        ps.posonlyargs.isEmpty && ps.args.map (·.arg) == sl.take F.np && ps.vararg.isNone && ps.kwonlyargs.isEmpty && ps.kwarg.isNone && decide sl.Nodup && sl.length == F.ns && Nat.ble F.np F.ns &&
        ((sl.take F.np).all fun n => sc.names.lookup n == some .local || sc.names.lookup n == some .cell) && (sl.all fun n => sc.names.lookup n != some .free) && trSs D sc.names sl F.body body
  | _ => false
noncomputable def topDef (p : Program) (i : Nat) : Option Txt1 := match p.main.body[i]? with
  | some (.FunctionDef _ a b _ _ _ sc _ _ _) => some (.stmts b, sc, a)
  | _ => none
noncomputable def methDef (p : Program) (i j : Nat) : Option Txt1 := match p.main.body[i]? with
  | some (.ClassDef _ _ _ b _ _ _ _ _ _ _) => (match b[j]? with
      | some (.FunctionDef _ a b _ _ _ sc _ _ _) => some (.stmts b, sc, a)
      | _ => none)
  | _ => none
noncomputable def clB (K : Frag) (C : Addr) (names : List Str) : Bool :=
  findIn K (.ref C) "__getattribute__" == some (some (.builtin "object.__getattribute__")) && findIn K (.ref C) "__getattr__" == some none && findIn K (.ref C) "__setattr__" == some (some (.builtin "object.__setattr__")) &&
  (clsIn K C).any (·.hasDict) && plainOver K C && (names.all fun nm => findIn K (.ref C) nm == some none) && makesIn K C

noncomputable def allB {α β : Type} (p : α → β → Bool) : List α → List β → Bool
  | [], [] => true
  | a :: as, b :: bs => p a b && allB p as bs
  | _, _ => false
noncomputable def fnsB (K : Frag) : Bool := allB (fnH K) FADS FS
noncomputable def bodies (K : Frag) : List (Option Txt1) := FADS.map (bodyOf K)
noncomputable def TOPS : List Nat := [2, 3, 6, 7, 8, 10, 11, 19, 23, 25, 26, 27, 28, 29, 30, 31, 32, 33, 34, 35]
noncomputable def METHS : List (Nat × Nat) := [(5, 0), (5, 2), (5, 3), (5, 4), (5, 9), (5, 11), (16, 0), (18, 0), (18, 1), (18, 2), (18, 6), (18, 7), (18, 8), (18, 13), (21, 0), (21, 1), (21, 2)]
noncomputable def texts (p : Program) : List (Option Txt1) := TOPS.map (topDef p) ++ METHS.map fun x => methDef p x.1 x.2
noncomputable def textsB (p : Program) : Bool := allB (fun x (y : Fn × List Str) => fnT DD x y.1 y.2) (texts p) (FS.zip SLS)
noncomputable def gnB (K : Frag) : Bool := allB (fun (n : Str) (f : Addr) => nsIn K mainGlobals n == some (some (.ref f)) && fnIn K f) GNS (FADS.take 20)
noncomputable def cnB (K : Frag) : Bool := allB (fun (n : Str) (f : Addr) => nsIn K mainGlobals n == some (some (.ref f)) && clB K f FLD) CNS CADS
noncomputable def mtB (K : Frag) : Bool := MT.all fun (k, m, g) => (match MNS[m]? with
  | some n => findIn K (.ref (cadr k)) n == some (some (.ref (fad g))) && isFn K (.ref (fad g)) && fnIn K (fad g)
  | none => false)
noncomputable def itB (K : Frag) : Bool := IT.all fun (k, g) => findIn K (.ref (cadr k)) "__init__" == some (some (.ref (fad g))) && isFn K (.ref (fad g))
noncomputable def bnB (K : Frag) : Bool := nsIn K mainGlobals "len" == some none && nsIn K mainGlobals "list" == some none && nsIn K mainGlobals "range" == some none
noncomputable def noB (K : Frag) : Bool := (K.lookup sysModules).isSome
noncomputable def goodK (K : Frag) : Bool := fnsB K && gnB K && cnB K && mtB K && itB K && bnB K && noB K
noncomputable def fragAt (h : Heap) : List Addr → Frag
  | [] => []
  | a :: r => (match h.get? a with
    | some o => (a, o) :: fragAt h r
    | none => fragAt h r)
theorem fragAt_in (h : Heap) : ∀ as : List Addr, (fragAt h as).In h
  | [], a, o, e => by cases e
  | b :: r, a, o, e => by
    unfold fragAt at e
    split at e
    · rename_i x hx
      rw [List.lookup_cons] at e
      split at e
      · rename_i q; cases e; rw [eq_of_beq q]; exact hx
      · exact fragAt_in h r a o e
    · exact fragAt_in h r a o e

theorem allB_at {α β : Type} {p : α → β → Bool} : ∀ {as : List α} {bs : List β}, allB p as bs = true → ∀ (i : Nat) (a : α) (b : β), as[i]? = some a → bs[i]? = some b → p a b = true
  | [], [], _, i, a, b, h, _ => by simp at h
  | x :: as, y :: bs, h, i, a, b, ha, hb => by
    simp only [allB, Bool.and_eq_true] at h
    cases i with
    | zero => simp at ha hb; subst ha hb; exact h.1
    | succ i => exact allB_at h.2 i a b (by simpa using ha) (by simpa using hb)
  | [], _ :: _, h, _, _, _, _, _ => by simp [allB] at h
  | _ :: _, [], h, _, _, _, _, _ => by simp [allB] at h
theorem allB_len {α β : Type} {p : α → β → Bool} : ∀ {as : List α} {bs : List β}, allB p as bs = true → as.length = bs.length
  | [], [], _ => rfl
  | x :: as, y :: bs, h => by
    simp only [allB, Bool.and_eq_true] at h
    simp [allB_len h.2]
  | [], _ :: _, h => by simp [allB] at h
  | _ :: _, [], h => by simp [allB] at h

section
variable {c : Cx} (hX : c.K.In c.B)
include hX
theorem rv_of : ∀ {v : V} {x : Value}, rvB c.K v x = true → RV c.B [] v x := by
  intro v x h
  cases v with
  | none => cases x <;> first | (cases h; done) | rfl
  | bool b =>
    cases x with
    | bool a => exact congrArg Value.bool (eq_of_beq h)
    | _ => cases h
  | int i =>
    cases x with
    | int j t => obtain rfl := eq_of_beq (h : (i == j) = true); exact ⟨_, rfl⟩
    | _ => cases h
  | str s =>
    cases x with
    | str j t => obtain rfl := eq_of_beq (h : (s == j) = true); exact ⟨_, rfl⟩
    | _ => cases h
  | etup =>
    cases x with
    | ref a =>
      obtain ⟨⟨cl, d, dt, sl⟩, e, h⟩ := (Option.any_eq_true _ _).mp h
      cases cl with
      | type n =>
        cases dt with
        | seq xs k =>
          obtain ⟨h1, h2⟩ := Bool.and_eq_true_iff.mp h
          obtain rfl := eq_of_beq h1
          obtain ⟨xs⟩ := xs
          cases List.isEmpty_iff.mp h2
          exact ⟨a, rfl, _, hX _ _ e, rfl, k, rfl⟩
        | _ => cases h
      | _ => cases h
    | _ => cases h
  | _ => cases h
theorem rvs_of : ∀ {vs : List V} {xs : List Value}, rvsB c.K vs xs = true → RVs c.B [] vs xs
  | [], [], _ => trivial
  | v :: vs, x :: xs, h => by
    simp only [rvsB, Bool.and_eq_true] at h
    exact ⟨rv_of hX h.1, rvs_of h.2⟩
  | [], _ :: _, h => by simp [rvsB] at h
  | _ :: _, [], h => by simp [rvsB] at h
theorem fok_of {D : Nm} {f : Addr} {F : Fn} {sl : List Str} (h : fnH c.K f F = true) (h' : fnT D (bodyOf c.K f) F sl = true) : FOk c D f F := by
  unfold fnH at h
  unfold bodyOf fnT at h'
  split at h
  · rename_i oc od fd osl ho
    simp only [ho] at h'
    split at h'
    · rename_i x body sc ps hb
      simp only [Option.some.injEq, Prod.mk.injEq] at hb
      obtain ⟨hb, rfl, rfl⟩ := hb
      simp only [Bool.and_eq_true, beq_iff_eq, List.isEmpty_iff, Bool.not_eq_true', Option.isNone_iff_eq_none, decide_eq_true_eq, Nat.ble_eq, List.all_eq_true, Bool.or_eq_true, bne_iff_ne] at h h'
      obtain ⟨⟨⟨⟨h1, h2⟩, h3⟩, h7⟩, h19⟩ := h
      obtain ⟨⟨⟨⟨⟨⟨⟨⟨⟨⟨⟨⟨⟨h4, h5⟩, h6⟩, h8⟩, h9⟩, h10⟩, h11⟩, h12⟩, h13⟩, h14⟩, h15⟩, h16⟩, h17⟩, h18⟩ := h'
      refine ⟨_, fd, body, sl, ho, rfl, hb, h1, h2, h3, h4, h5, h6, h7, h8, h9, h10, h11, h12, h13, h14, h15, h16, h17, h18, ?_⟩
      unfold dfB at h19
      split at h19
      · rename_i e; exact .inl ⟨e, List.isEmpty_iff.mp h19⟩
      · rename_i t e
        split at h19
        · rename_i a b xs n sl' e2
          exact .inr ⟨t, _, xs, n, e, e2, rfl, rvs_of hX h19⟩
        · cases h19
      · cases h19
    · cases h'
  · cases h
end

theorem FLD_nodup : FLD.Nodup := by decide +kernel
theorem fs_all : FS.length = 37 := rfl
theorem good_fok {c : Cx} (hX : c.K.In c.B) (h : goodK c.K = true) {p : Program} (hp : textsB p = true) (hb : bodies c.K = texts p) : ∀ (g : Nat) (F : Fn), FS[g]? = some F → FOk c DD (fad g) F := by
  intro g F hF
  simp only [goodK, Bool.and_eq_true] at h
  have hg := h.1.1.1.1.1.1
  unfold fnsB at hg
  unfold textsB at hp
  have hlt : g < 37 := (List.getElem?_eq_some_iff.mp hF).1
  have hfa : FADS[g]? = some (fad g) := by
    have : g < FADS.length := hlt
    unfold fad
    rw [List.getElem?_eq_getElem this]; rfl
  have hte : (texts p)[g]? = some (bodyOf c.K (fad g)) := by
    rw [← hb]
    unfold bodies
    rw [List.getElem?_map, hfa]; rfl
  obtain ⟨sl, hsl⟩ : ∃ sl, SLS[g]? = some sl := ⟨_, List.getElem?_eq_getElem (show g < SLS.length from hlt)⟩
  exact fok_of hX (allB_at hg g (fad g) F hfa hF) (allB_at hp g _ (F, sl) hte (by rw [List.getElem?_zip_eq_some]; exact ⟨hF, hsl⟩))

theorem good_gd {prog : Program} {w : World} {K : Frag} {B : Heap} (hX : K.In B) (h : goodK K = true) {mg mb : Str → Option Value} (hmg : B.Ns mainGlobals mg) (hmb : B.Ns builtinsNs mb) (b1 : mb "len" = some (.builtin "len")) (b2 : mb "list" = some (.type "list"))
    (b3 : mb "range" = some (.type "range")) (lim : B.NoLimit) : Gd ⟨prog, w, K, B, FLD, cadr, 4⟩ DD fad TAB := by
  simp only [goodK, Bool.and_eq_true] at h
  obtain ⟨⟨⟨⟨⟨⟨h1, h2⟩, h3⟩, h4⟩, h5⟩, h6⟩, h7⟩ := h
  unfold gnB at h2
  unfold cnB at h3
  unfold mtB at h4
  unfold itB at h5
  unfold bnB at h6
  unfold noB at h7
  simp only [Bool.and_eq_true, beq_iff_eq] at h6
  have hgl := allB_len h2
  have hgn : ∀ (i : Nat) (n : Str), GNS[i]? = some n → nsIn K mainGlobals n = some (some (.ref (fad i))) ∧ fnIn K (fad i) = true := fun i n hi => by
    have hlt : i < 20 := (List.getElem?_eq_some_iff.mp hi).1
    have hfa : (FADS.take 20)[i]? = some (fad i) := by
      rw [List.getElem?_take, if_pos hlt]
      have : i < FADS.length := Nat.lt_of_lt_of_le hlt (by decide)
      unfold fad
      rw [List.getElem?_eq_getElem this]; rfl
    have := allB_at h2 i n _ hi hfa
    simpa only [Bool.and_eq_true, beq_iff_eq] using this
  have hcn : ∀ (i : Nat) (n : Str), CNS[i]? = some n → i < 4 ∧ nsIn K mainGlobals n = some (some (.ref (cadr i))) := fun i n hi => by
    have hlt : i < 4 := (List.getElem?_eq_some_iff.mp hi).1
    have hfa : CADS[i]? = some (cadr i) := by
      have : i < CADS.length := hlt
      unfold cadr
      rw [List.getElem?_eq_getElem this]; rfl
    have := allB_at h3 i n _ hi hfa
    simp only [Bool.and_eq_true, beq_iff_eq] at this
    exact ⟨hlt, this.1⟩
  refine ⟨hX, ?_, ⟨mg, hmg, fun i n hi => mg_of hX hmg (hgn i n hi).1, fun i n hi => mg_of hX hmg (hcn i n hi).2, mg_none_of hX hmg h6.1.1, mg_none_of hX hmg h6.1.2, mg_none_of hX hmg h6.2⟩, ⟨mb, hmb, b1, b2, b3⟩, lim, fun i n hi => (hgn i n hi).2, FLD_nodup, rfl, fun k hk => ?_, fun i n hi => (hcn i n hi).1, fun k m g n hk hm hn => ?_, fun k g hg => ?_⟩
  · obtain ⟨o, ho⟩ := Option.isSome_iff_exists.mp h7
    exact ⟨o, hX _ _ ho⟩
  · have hk' : k < 4 := hk
    have hfa : CADS[k]? = some (cadr k) := by
      have : k < CADS.length := hk'
      unfold cadr
      rw [List.getElem?_eq_getElem this]; rfl
    obtain ⟨n, hn⟩ : ∃ n, CNS[k]? = some n := ⟨_, List.getElem?_eq_getElem (show k < CNS.length from hk')⟩
    have := allB_at h3 k n _ hn hfa
    simp only [Bool.and_eq_true, beq_iff_eq, clB, List.all_eq_true] at this
    obtain ⟨_, ⟨⟨⟨⟨⟨⟨c1, c2⟩, c3⟩, c4⟩, c5⟩, c6⟩, c7⟩⟩ := this
    exact ⟨c1, c2, c3, any_some c4, c5, c6, c7⟩
  · have hmem : (k, m, g) ∈ MT := by
      obtain ⟨x, hx, rfl⟩ := Option.map_eq_some_iff.mp (show (MT.find? fun x => x.1 == k && x.2.1 == m).map (fun x => x.2.2) = some g from hm)
      have h1 := List.find?_some hx
      simp only [Bool.and_eq_true, beq_iff_eq] at h1
      rw [← h1.1, ← h1.2]
      exact List.mem_of_find?_eq_some hx
    have := List.all_eq_true.mp h4 _ hmem
    dsimp only at this
    have hn' : MNS[m]? = some n := hn
    rw [hn'] at this
    simp only [Bool.and_eq_true, beq_iff_eq] at this
    refine ⟨this.1.1, this.1.2, this.2, ?_⟩
    have hno : ∀ n ∈ MNS, n ∉ FLD := by decide +kernel
    exact hno n (List.mem_of_getElem? hn')
  · have hmem : (k, g) ∈ IT := by
      obtain ⟨x, hx, rfl⟩ := Option.map_eq_some_iff.mp (show (IT.find? fun x => x.1 == k).map (fun x => x.2) = some g from hg)
      have h1 := List.find?_some hx
      simp only [beq_iff_eq] at h1
      rw [← h1]
      exact List.mem_of_find?_eq_some hx
    have := List.all_eq_true.mp h5 _ hmem
    dsimp only at this
    simpa only [Bool.and_eq_true, beq_iff_eq] using this
end Mine
end
section
open PySem PySem.W PyProof.Rows
namespace Mine
/-- the top's run on the tree -/
noncomputable def runT (ok : Thread → Bool) (st : SharedT → Thread → Option (SharedT × Thread)) : Nat → SharedT → Thread → Option SharedT
  | 0, _, _ => none
  | n + 1, s, t => match through t with
    | true => some s
    | false => match ok t with
      | false => none
      | true => match st s t with
        | some (s', t') => runT ok st n s' t'
        | none => none
theorem runT_of {tb : String → Option Builtin} {p : Program} {w : World} {n₀ : Nat} {ann : Option Value} : ∀ (n : Nat) (s : SharedT) (t : Thread) (s' : SharedT), runT (stepOk n₀ ann) (stepT (denote tb) p w) n s t = some s' → topRun tb p w n₀ ann n s.abs t = some s'.abs
  | 0, _, _, _, h => by cases h
  | n + 1, s, t, s', h => by
    unfold runT at h
    unfold topRun
    cases ht : through t with
    | true => rw [ht] at h; cases h; rfl
    | false =>
      rw [ht] at h
      cases hk : stepOk n₀ ann t with
      | false => rw [hk] at h; cases h
      | true =>
        rw [hk] at h
        cases hs : stepT (denote tb) p w s t with
        | none => rw [hs] at h; cases h
        | some r =>
          rw [hs] at h
          dsimp only
          rw [stepT_spec (s' := r.1) (t' := r.2) hs]
          exact runT_of n r.1 r.2 s' h
/-- a tree made from a list -/
noncomputable def growT : List Obj → Nat → BT → Option BT
  | [], _, t => some t
  | o :: l, n, t => match ((t.ins n o).get n).isSome with
    | true => growT l (n + 1) (t.ins n o)
    | false => none
theorem growT_of (life : Life) : ∀ (l : List Obj) (n : Nat) (t t' : BT), growT l n t = some t' → absHeap t' (n + l.length) life = ⟨(absHeap t n life).objs ++ l.toArray, life⟩
  | [], n, t, t', h => by
    cases h
    show absHeap t n life = _
    rw [Array.append_empty]; rfl
  | o :: l, n, t, t', h => by
    unfold growT at h
    cases hg : ((t.ins n o).get n).isSome with
    | false => rw [hg] at h; cases h
    | true =>
      rw [hg] at h
      have e := growT_of life l (n + 1) (t.ins n o) t' h
      rw [show n + (o :: l).length = n + 1 + l.length by rw [List.length_cons]; omega, e, absHeap_ins hg]
      show Heap.mk ((absHeap t n life).objs.push o ++ l.toArray) life = _
      congr 1
      apply Array.ext'
      simp
noncomputable def treeOf (s : Shared) : Option SharedT := (growT s.heap.objs.toList 0 .nil).map fun T => ⟨T, s.heap.objs.toList.length, s.heap.life, s.gens, s.drawn, s.toks, s.os⟩
theorem treeOf_of {s : Shared} {S : SharedT} (h : treeOf s = some S) : S.abs = s := by
  obtain ⟨T, h1, rfl⟩ := Option.map_eq_some_iff.mp h
  have e := growT_of s.heap.life _ _ _ _ h1
  rw [Nat.zero_add] at e
  show Shared.mk (absHeap T s.heap.objs.toList.length s.heap.life) s.gens s.drawn s.toks s.os = s
  rw [e]
  obtain ⟨⟨o, l⟩, g, d, t, os⟩ := s
  show Shared.mk ⟨(absHeap .nil 0 l).objs ++ o.toList.toArray, l⟩ g d t os = _
  have : (absHeap .nil 0 l).objs = #[] := rfl
  rw [this, Array.empty_append]
noncomputable def endsT (tb : String → Option Builtin) (p : Program) (w : World) (N : Nat) : Option Shared := (fencedOpening tb p w N).bind fun s₀ => match s₀.heap.isNs mainGlobals && s₀.gens.size == 0 with
  | true => (treeOf s₀).bind fun S₀ => (runT (stepOk s₀.heap.objs.size (s₀.heap.nsMap mainGlobals "__annotations__")) (stepT (denote tb) p w) N S₀ (topStub p)).bind fun S₁ =>
      match staticsOk (importedModules p.main.body) s₀.heap S₁.abs.heap && namesBound p S₁.abs.heap && gensDone S₁.abs && laidKept s₀.heap S₁.abs.heap with
      | true => some S₁.abs
      | false => none
  | false => none
theorem endsT_of {tb : String → Option Builtin} {p : Program} {w : World} {N : Nat} {s : Shared} (h : endsT tb p w N = some s) : openEnds tb p w N = some s := by
  obtain ⟨s₀, h0, h⟩ := Option.bind_eq_some_iff.mp h
  unfold openEnds
  rw [h0]
  show topFrom tb p w N s₀ = some s
  unfold topFrom
  cases hb : (s₀.heap.isNs mainGlobals && s₀.gens.size == 0) with
  | false => rw [hb] at h; cases h
  | true =>
    rw [hb] at h
    dsimp only at h ⊢
    obtain ⟨S₀, h1, h⟩ := Option.bind_eq_some_iff.mp h
    obtain ⟨S₁, h2, h⟩ := Option.bind_eq_some_iff.mp h
    have r := runT_of _ _ _ _ h2
    rw [treeOf_of h1] at r
    rw [r]
    exact h
theorem map_of {α β : Type} {a b : Option α} {f : α → β} {x : β} (ab : ∀ s, a = some s → b = some s) (h : a.map f = some x) : b.map f = some x := by
  obtain ⟨s, e, h⟩ := Option.map_eq_some_iff.mp h
  rw [ab s e]
  exact congrArg some h
end Mine
end
section
open PySem PySem.W PyProof.Rows
namespace Mine
noncomputable abbrev PW : Program := PySem.Challenge.pw_nt0609_01
section
set_option maxRecDepth 100000
/-! ## the looks at the law, one check each -/
theorem reads1 : readsOut PW PW.main.body "vars" = false := by rw [PySem.W.Fast.te13343964577679436407]; kernel_rfl
theorem reads2 : readsOut PW PW.main.body "dir" = false := by rw [PySem.W.Fast.te13343964577679436407]; kernel_rfl
theorem reads3 : readsOut PW PW.main.body "locals" = false := by rw [PySem.W.Fast.te13343964577679436407]; kernel_rfl
theorem imports0 : importedModules PW.main.body = [] := by rw [PySem.W.Fast.te5923862056798008813]; kernel_rfl
theorem road_of {a b : Look} (e : a = b) {l : List Stmt} (h : noRoadLSs b l = true) : noRoadLSs a l = true := by rw [e]; exact h
theorem road0 : noRoadLSs { strict := false, foot := none, bare := [] } PW.main.body = true := by rw [PySem.W.Fast.te8326940854005059898]; kernel_rfl
theorem road : noRoadLSs { strict := !(importedModules PW.main.body).all cThrough.contains, foot := none, bare := (["vars", "dir", "locals"] : List Str).filter (readsOut PW PW.main.body) } PW.main.body = true := by
  refine road_of ?_ road0
  rw [imports0, List.filter_cons, reads1, List.filter_cons, reads2, List.filter_cons, reads3]
  rfl
theorem resolves : namesResolve PW = true := by rw [PySem.W.Fast.te8377067652309620493]; kernel_rfl
theorem attrs : (namesMeet PW PW.main.body fun _ n => attrL n) = true := by rw [PySem.W.Fast.te17119622794617984870]; kernel_rfl
theorem looks : looksOpen PW = true := by
  unfold looksOpen
  repeat' (with_reducible apply look_both)
  · decide +kernel
  · decide +kernel
  · exact resolves
  · decide +kernel
  · exact road
  · exact attrs
theorem said : PySem.Challenge.rw_nt0609_01.wellSaid = true := by
  unfold OpenLaw.wellSaid OpenRow.wellSaid OpenRow.partSaid
  repeat' (with_reducible apply look_both)
  · exact looks
  all_goals first
    | (with_reducible show noRoadLSs _ _ = true); rw [PySem.W.Fast.te8326940854005059898]; decide +kernel
    | (with_reducible show namesMeet _ _ _ = true); rw [PySem.W.Fast.te17119622794617984870]; decide +kernel
    | decide +kernel
end
end Mine
end
section
open PySem PySem.W PyProof.Rows
namespace Mine
section
set_option maxRecDepth 100000
set_option maxHeartbeats 8000000
theorem texts_ok : textsB PW = true := by kernel_rfl
noncomputable def lo : List Str := ["_wall", "is_special", "implied_names", "OpenStack", "stops_scope", "in_scope", "pop_implied", "pop_with", "any_other_end", "HtmlFault", "Misused", "Formatting", "Tree", "above", "Builder", "close_p", "_law_digit", "_law_specials", "_law_implied", "_law_kind", "_law_is_special", "_law_ends_button", "_law_is_solid", "_law_words", "_law_others_hold", "_law_closes_hold"]
noncomputable def vw : Program := view PW [35]
noncomputable def seen1 (s : Shared) : Bool × List (Option Txt1) := let K := fragAt s.heap ADS; (goodK K, bodies K)
/-- the top ends, and what the row wants to see is seen -/
theorem ends1 : ∀ w, (endsT treeTable PW w 7000).map (fun s => openSeen vw lo (importedModules PW.main.body) (fun _ => true) true s) = some (openGood vw lo) := by
  intro w
  unfold endsT fencedOpening
  rw [PySem.W.Fast.te10274390034422433532, PySem.W.Fast.te14289696077712309145, PySem.W.Fast.te1435165496053646825, PySem.W.Fast.te10156331382660048174, PySem.W.Fast.te11892475500146522536, PySem.W.Fast.te14364793385576792824, PySem.W.Fast.te4187177175401517315]
  kernel_rfl
/-- .. and what the walk wants to see -/
theorem ends2 : ∀ w, (endsT treeTable PW w 7000).map seen1 = some (true, texts PW) := by
  intro w
  unfold endsT fencedOpening
  rw [PySem.W.Fast.te10274390034422433532, PySem.W.Fast.te14289696077712309145, PySem.W.Fast.te1435165496053646825, PySem.W.Fast.te10156331382660048174, PySem.W.Fast.te11892475500146522536, PySem.W.Fast.te14364793385576792824]
  kernel_rfl
theorem map_both {α β γ : Type} {a : Option α} {f : α → β} {g : α → γ} {x : β} {y : γ} (h1 : a.map f = some x) (h2 : a.map g = some y) : a.map (fun s => (f s, g s)) = some (x, y) := by
  obtain ⟨s, rfl, rfl⟩ := Option.map_eq_some_iff.mp h1
  cases h2; rfl
theorem left : LeftO PW vw lo (fun _ => true) seen1 (fun _ => (true, texts PW)) 7000 := fun w => map_of (fun _ => endsT_of) (map_both (ends1 w) (ends2 w))
end
end Mine
end
section
open PySem PySem.W PySem.Calls PyProof.Rows
namespace Mine
theorem St0 (c : Cx) : St c c.B [] [] := ⟨fun _ _ e => e, fun a ha => by simp [foot] at ha, by simp [foot], rfl, fun i o p e => by simp at e⟩
theorem room0 : Room (5 * 12) (33 * 12) callerA := ⟨rfl, by decide, by decide⟩
theorem ints_of : ∀ {xs : List Value} {ns : List Int}, IntsAre xs ns → Ints ns xs
  | _, _, .nil => trivial
  | _, _, .cons n t r => ⟨⟨t, rfl⟩, ints_of r⟩
set_option maxRecDepth 100000 in
set_option maxHeartbeats 8000000 in
theorem join (law_ok : ∀ ns : List Int, ns.length ≤ 63 → vcCall TAB FS 12 19 [.bl ns] [] (fun v _ => v = .bool true)) : PySem.Challenge.rw_nt0609_01.Holds := by
  refine holds_law said fun k1 => ?_
  refine holds_open (q := vw) (loose := lo) (Xt := fun _ => true) (XP := fun _ _ => True) (Yf := seen1) (Ya := fun _ => (true, texts PySem.Challenge.pw_nt0609_01)) (YP := fun _ h => ∃ K : Frag, K.In h ∧ goodK K = true ∧ bodies K = texts PySem.Challenge.pw_nt0609_01) (N := 7000)
    left ?hY ?hYk (fun _ _ => trivial) (fun _ _ _ _ _ => trivial) (by rfl) (by rfl) (by rfl) (fun s _ => recFacts_nil rfl) (by rfl) k1 (by decide +kernel) ⟨rfl, rfl, rfl, rfl, rfl, by decide +kernel⟩ ?hw ?hc
  case hY =>
    intro w s e
    have e1 := congrArg Prod.fst e
    have e2 := congrArg Prod.snd e
    exact ⟨fragAt s.heap ADS, fragAt_in _ _, e1, e2⟩
  case hYk =>
    rintro w h h' ⟨K, a, b, c⟩ k
    exact ⟨K, a.keeps k, b, c⟩
  case hw => w_witness2
  case hc =>
    intro w s₀ s₁ mg mb G Y fa o pm cd doc dV kV ho hd hcd hD hmg hg args vals as hpre hlay hrd hwl hlo
    obtain ⟨K, hK, hgood, hbod⟩ := Y
    have hmg' : mg "law" = some (.ref fa) := hmg
    have hsh := (pre_splitW hpre).1
    have hcond := (pre_splitW hpre).2
    have hT := G.T
    refine enter_call ?_
    refine codeAny_mono ?_ (fun _ _ g => GoodW.toG g)
    clear hd hcd hD ho hmg G hpre
    wrow_hasAll hsh hlay
    all_goals wrow_readAll hrd hwl hlo
    rename_i ns _ _ _ _ _ _ _ a xs _ hL _ _ _ hI _
    w_cond hcond
    have hlen : ns.length ≤ 63 := by omega
    have GD := good_gd (prog := PySem.Challenge.pw_nt0609_01) (w := w) hK hgood hT.g hT.b ((hT.builtins _ (by decide +kernel)).trans (by decide +kernel)) ((hT.builtins _ (by decide +kernel)).trans (by decide +kernel)) ((hT.builtins _ (by decide +kernel)).trans (by decide +kernel)) hT.nolimit
    have FO := good_fok (c := ⟨PySem.Challenge.pw_nt0609_01, w, K, s₁.heap, FLD, cadr, 4⟩) hK hgood texts_ok hbod
    have C := call_sound GD FO 12
    have hfa : fa = fad 19 := by
      obtain ⟨mg', h1, h2, _⟩ := GD.mg
      have e := h2 19 "law" (by decide +kernel)
      have e1 := congrFun (Ns_det h1 hT.g) "law"
      exact Value.ref.inj (Option.some.inj ((hmg'.symm.trans e1.symm).trans e))
    subst hfa
    have S0 := St0 ⟨PySem.Challenge.pw_nt0609_01, w, K, s₁.heap, FLD, cadr, 4⟩
    refine codeAny_mono (C 19 [.bl ns] [] _ (law_ok ns hlen) callerA room0 s₁ [] [.ref a] S0 ⟨⟨a, xs, rfl, hL, ints_of hI⟩, trivial⟩) fun r s' hr => ?_
    rcases r with e | (_ | _ | _ | val) <;> first | exact hr.elim | skip
    obtain ⟨v, H', μ', h', t', rfl, rfl, rv, S', X⟩ := hr
    cases rv
    exact ⟨.inl ⟨_, .bool true, [], rfl, fun cls => rfl, .bool true, by wrow_post, fun _ => ⟨List.nodup_nil, fun a ha => (nomatch ha)⟩⟩, S'.base, rfl, hg⟩
end Mine
end
section
open PySem PySem.W PySem.Calls PyProof.Rows
namespace Mine

/-! ## more follows from more -/
noncomputable def Cm (cl : Cl) : Prop := ∀ g args H P Q, (∀ v H, P v H → Q v H) → cl g args H P → cl g args H Q

theorem tst_mono {K : (V → AH → Prop) → Prop} (hK : ∀ P Q, (∀ v H, P v H → Q v H) → K P → K Q) {P Q : Bool → AH → Prop} (k : ∀ b H, P b H → Q b H) (h : tst K P) : tst K Q :=
  hK _ _ (fun v H ⟨b, e, p⟩ => ⟨b, e, k _ _ p⟩) h
theorem iterC_mono {f : V → AH → (Option V → AH → Prop) → Prop} (hf : ∀ x H P Q, (∀ v H, P v H → Q v H) → f x H P → f x H Q) {ok : AH → Prop} : ∀ {xs acc H} {P Q : List V → AH → Prop}, (∀ v H, P v H → Q v H) → iterC f ok xs acc H P → iterC f ok xs acc H Q
  | [], _, _, _, _, k, h => k _ _ h
  | x :: xs, acc, H, P, Q, k, h => hf _ _ _ _ (fun r H ⟨a, b, c⟩ => ⟨a, b, iterC_mono hf k c⟩) h
theorem iterS_mono {f : V → Loc → AH → (Fl → Loc → AH → Prop) → Prop} (hf : ∀ x l H P Q, (∀ v l H, P v l H → Q v l H) → f x l H P → f x l H Q) {ok : AH → Prop} : ∀ {xs l H} {P Q : Fl → Loc → AH → Prop}, (∀ v l H, P v l H → Q v l H) → iterS f ok xs l H P → iterS f ok xs l H Q
  | [], _, _, _, _, k, h => k _ _ _ h
  | x :: xs, l, H, P, Q, k, h => hf _ _ _ _ _ (fun r l H p => match r, p with
    | .next, ⟨a, b⟩ => ⟨a, iterS_mono hf k b⟩
    | .ret v, b => k _ _ _ b) h

section
variable {T : Tab} {cl : Cl} (C : Cm cl)
include C
mutual
theorem vcE_mono : ∀ (x : X) (l : Loc) (H : AH) (P Q : V → AH → Prop), (∀ v H, P v H → Q v H) → vcE T cl x l H P → vcE T cl x l H Q
  | .loc i, l, H, P, Q, k, ⟨v, e, p⟩ => ⟨v, e, k _ _ p⟩
  | .cint i, l, H, P, Q, k, h => k _ _ h
  | .cstr i, l, H, P, Q, k, h => k _ _ h
  | .cbool i, l, H, P, Q, k, h => k _ _ h
  | .etup, l, H, P, Q, k, h => h.elim
  | .neg a, l, H, P, Q, k, h => vcE_mono a l H _ _ (fun v H ⟨i, e, p⟩ => ⟨i, e, k _ _ p⟩) h
  | .not a, l, H, P, Q, k, h => vcE_mono a l H _ _ (fun v H ⟨i, e, p⟩ => ⟨i, e, k _ _ p⟩) h
  | .bin o a b, l, H, P, Q, k, h => vcE_mono a l H _ _ (fun v H h => vcE_mono b l H _ _ (fun u H ⟨r, e, p⟩ => ⟨r, e, k _ _ p⟩) h) h
  | .and xs, l, H, P, Q, k, h => vcAnd_mono xs l H P Q k h
  | .or xs, l, H, P, Q, k, h => vcOr_mono xs l H P Q k h
  | .cmp o a b, l, H, P, Q, k, h => vcE_mono a l H _ _ (fun v H h => vcE_mono b l H _ _ (fun u H ⟨r, e, p⟩ => ⟨r, e, k _ _ p⟩) h) h
  | .cmp2 a o b p c, l, H, P, Q, k, h => vcE_mono a l H _ _ (fun v H h => vcE_mono b l H _ _ (fun u H ⟨r, e, q⟩ => ⟨r, e, by
      cases r with
      | true => exact vcE_mono c l H _ _ (fun z H ⟨r, e, p⟩ => ⟨r, e, k _ _ p⟩) q
      | false => exact k _ _ q⟩) h) h
  | .inS neg a ss, l, H, P, Q, k, h => vcE_mono a l H _ _ (fun v H ⟨i, e, p⟩ => ⟨i, e, k _ _ p⟩) h
  | .nil neg a, l, H, P, Q, k, h => vcE_mono a l H _ _ (fun v H ⟨i, e, e', p⟩ => ⟨i, e, e', k _ _ p⟩) h
  | .ite c a b, l, H, P, Q, k, h => tst_mono (fun P Q k h => vcE_mono c l H P Q k h) (fun t H h => by
      cases t with
      | true => exact vcE_mono a l H P Q k h
      | false => exact vcE_mono b l H P Q k h) h
  | .tup xs, l, H, P, Q, k, h => vcEs_mono xs l H _ _ (fun v H ⟨e, p⟩ => ⟨e, k _ _ p⟩) h
  | .lst xs, l, H, P, Q, k, h => vcEs_mono xs l H _ _ (fun v H ⟨e, p⟩ => ⟨e, k _ _ p⟩) h
  | .idx a i, l, H, P, Q, k, h => vcE_mono a l H _ _ (fun v H h => vcE_mono i l H _ _ (fun u H ⟨r, e, p⟩ => ⟨r, e, k _ _ p⟩) h) h
  | .upto a i, l, H, P, Q, k, h => vcE_mono a l H _ _ (fun v H h => vcE_mono i l H _ _ (fun u H ⟨r, n, e1, e2, e3, e4, e5, p⟩ => ⟨r, n, e1, e2, e3, e4, e5, k _ _ p⟩) h) h
  | .part a i j, l, H, P, Q, k, h => vcE_mono a l H _ _ (fun v H h => vcE_mono i l H _ _ (fun u H h => vcE_mono j l H _ _ (fun u H ⟨r, n, m, e1, e2, e3, e4, e5, e6, e7, p⟩ => ⟨r, n, m, e1, e2, e3, e4, e5, e6, e7, k _ _ p⟩) h) h) h
  | .whole a, l, H, P, Q, k, h => vcE_mono a l H _ _ (fun v H ⟨i, e, e', p⟩ => ⟨i, e, e', k _ _ p⟩) h
  | .attr a f, l, H, P, Q, k, h => vcE_mono a l H _ _ (fun v H ⟨i, e, p⟩ => ⟨i, e, k _ _ p⟩) h
  | .call g xs, l, H, P, Q, k, h => vcEs_mono xs l H _ _ (fun v H h => C _ _ _ _ _ k h) h
  | .meth a m xs, l, H, P, Q, k, h => vcE_mono a l H _ _ (fun v H ⟨c, g, e1, e2, h⟩ => ⟨c, g, e1, e2, vcEs_mono xs l H _ _ (fun v H h => C _ _ _ _ _ k h) h⟩) h
  | .new c xs, l, H, P, Q, k, h => vcEs_mono xs l H _ _ (fun v H ⟨g, e, h⟩ => ⟨g, e, C _ _ _ _ _ (fun r H ⟨e, p⟩ => ⟨e, k _ _ p⟩) h⟩) h
  | .app a x, l, H, P, Q, k, h => vcE_mono a l H _ _ (fun v H ⟨e0, h⟩ => ⟨e0, vcE_mono x l H _ _ (fun u H ⟨r, n, e1, e2, e3, p⟩ => ⟨r, n, e1, e2, e3, k _ _ p⟩) h⟩) h
  | .pop a, l, H, P, Q, k, h => vcE_mono a l H _ _ (fun v H ⟨i, vs, u, e1, e2, e3, p⟩ => ⟨i, vs, u, e1, e2, e3, k _ _ p⟩) h
  | .index a x, l, H, P, Q, k, h => vcE_mono a l H _ _ (fun v H ⟨e0, h⟩ => ⟨e0, vcE_mono x l H _ _ (fun u H ⟨r, n, m, e1, e2, e3, e4, e5, e6, p⟩ => ⟨r, n, m, e1, e2, e3, e4, e5, e6, k _ _ p⟩) h⟩) h
  | .ins a i x, l, H, P, Q, k, h => vcE_mono a l H _ _ (fun v H ⟨e0, h⟩ => ⟨e0, vcE_mono i l H _ _ (fun u H h => vcE_mono x l H _ _ (fun u H ⟨r, n, m, e1, e2, e3, e4, e5, e6, p⟩ => ⟨r, n, m, e1, e2, e3, e4, e5, e6, k _ _ p⟩) h) h⟩) h
  | .ext a x, l, H, P, Q, k, h => vcE_mono a l H _ _ (fun v H ⟨e0, h⟩ => ⟨e0, vcE_mono x l H _ _ (fun u H ⟨r, n, m, e1, e2, e3, e4, e5, p⟩ => ⟨r, n, m, e1, e2, e3, e4, e5, k _ _ p⟩) h⟩) h
  | .len a, l, H, P, Q, k, h => vcE_mono a l H _ _ (fun v H ⟨i, e, e', p⟩ => ⟨i, e, e', k _ _ p⟩) h
  | .dget a i x, l, H, P, Q, k, h => vcE_mono a l H _ _ (fun v H ⟨e0, h⟩ => ⟨e0, vcE_mono i l H _ _ (fun u H h => vcE_mono x l H _ _ (fun u H ⟨r, n, e1, e2, p⟩ => ⟨r, n, e1, e2, k _ _ p⟩) h) h⟩) h
  | .split a, l, H, P, Q, k, h => vcE_mono a l H _ _ (fun v H ⟨i, e, e', p⟩ => ⟨i, e, e', k _ _ p⟩) h
  | .mkl a, l, H, P, Q, k, h => vcE_mono a l H _ _ (fun v H ⟨e, p⟩ => ⟨e, k _ _ p⟩) h
  | .dnil, l, H, P, Q, k, h => k _ _ h
  | .comp elt slot src cond, l, H, P, Q, k, h => vcE_mono src l H _ _ (fun v H ⟨xs, e1, e2, h⟩ => ⟨xs, e1, e2, iterC_mono (fun x H P Q k h => tst_mono (fun P Q k h => vcE_mono cond (l.set slot (some x)) H P Q k h) (fun b H h => by
      cases b with
      | true => exact vcE_mono elt (l.set slot (some x)) H _ _ (fun r H h => k _ _ h) h
      | false => exact k _ _ h) h) (fun acc H h => k _ _ h) h⟩) h
  | .compR elt slot hi cond, l, H, P, Q, k, h => vcE_mono hi l H _ _ (fun v H ⟨xs, e1, e2, e3, h⟩ => ⟨xs, e1, e2, e3, iterC_mono (fun x H P Q k h => tst_mono (fun P Q k h => vcE_mono cond (l.set slot (some x)) H P Q k h) (fun b H h => by
      cases b with
      | true => exact vcE_mono elt (l.set slot (some x)) H _ _ (fun r H h => k _ _ h) h
      | false => exact k _ _ h) h) (fun acc H h => k _ _ h) h⟩) h
  | .stuck, l, H, P, Q, k, h => h.elim
theorem vcEs_mono : ∀ (xs : Xs) (l : Loc) (H : AH) (P Q : List V → AH → Prop), (∀ v H, P v H → Q v H) → vcEs T cl xs l H P → vcEs T cl xs l H Q
  | .nil, l, H, P, Q, k, h => k _ _ h
  | .cons x xs, l, H, P, Q, k, h => vcE_mono x l H _ _ (fun v H h => vcEs_mono xs l H _ _ (fun vs H h => k _ _ h) h) h
theorem vcAnd_mono : ∀ (xs : Xs) (l : Loc) (H : AH) (P Q : V → AH → Prop), (∀ v H, P v H → Q v H) → vcAnd T cl xs l H P → vcAnd T cl xs l H Q
  | .nil, l, H, P, Q, k, h => h.elim
  | .cons x .nil, l, H, P, Q, k, h => vcE_mono x l H P Q k h
  | .cons x (.cons y ys), l, H, P, Q, k, h => vcE_mono x l H _ _ (fun v H ⟨b, e, h⟩ => ⟨b, e, by
      cases b with
      | true => exact vcAnd_mono (.cons y ys) l H P Q k h
      | false => exact k _ _ h⟩) h
theorem vcOr_mono : ∀ (xs : Xs) (l : Loc) (H : AH) (P Q : V → AH → Prop), (∀ v H, P v H → Q v H) → vcOr T cl xs l H P → vcOr T cl xs l H Q
  | .nil, l, H, P, Q, k, h => h.elim
  | .cons x .nil, l, H, P, Q, k, h => vcE_mono x l H P Q k h
  | .cons x (.cons y ys), l, H, P, Q, k, h => vcE_mono x l H _ _ (fun v H ⟨b, e, h⟩ => ⟨b, e, by
      cases b with
      | false => exact vcOr_mono (.cons y ys) l H P Q k h
      | true => exact k _ _ h⟩) h
end
mutual
theorem vcS_mono : ∀ (s : S) (l : Loc) (H : AH) (P Q : Fl → Loc → AH → Prop), (∀ f l H, P f l H → Q f l H) → vcS T cl s l H P → vcS T cl s l H Q
  | .expr x, l, H, P, Q, k, h => vcE_mono C x l H _ _ (fun v H ⟨a, b, p⟩ => ⟨a, b, k _ _ _ p⟩) h
  | .asg i x, l, H, P, Q, k, h => vcE_mono C x l H _ _ (fun v H p => k _ _ _ p) h
  | .setA a f x, l, H, P, Q, k, h => vcE_mono C x l H _ _ (fun u H h => vcE_mono C a l H _ _ (fun v H ⟨i, c, fs, e1, e2, e3, p⟩ => ⟨i, c, fs, e1, e2, e3, k _ _ _ p⟩) h) h
  | .setI a i x, l, H, P, Q, k, h => vcE_mono C x l H _ _ (fun u H h => vcE_mono C a l H _ _ (fun v H h => vcE_mono C i l H _ _ (fun j H ⟨i, n, e1, e2, h⟩ => ⟨i, n, e1, e2, h.imp (fun ⟨vs, a, b, c, d, p⟩ => ⟨vs, a, b, c, d, k _ _ _ p⟩) fun ⟨kvs, a, b, p⟩ => ⟨kvs, a, b, k _ _ _ p⟩⟩) h) h) h
  | .aug i o x, l, H, P, Q, k, ⟨v, e, h⟩ => ⟨v, e, vcE_mono C x l H _ _ (fun u H ⟨a, b, e1, e2, r, e3, p⟩ => ⟨a, b, e1, e2, r, e3, k _ _ _ p⟩) h⟩
  | .ife c a b, l, H, P, Q, k, h => tst_mono (fun P Q k h => vcE_mono C c l H P Q k h) (fun t H h => by
      cases t with
      | true => exact vcSs_mono a l H P Q k h
      | false => exact vcSs_mono b l H P Q k h) h
  | .whl c b, l, H, P, Q, k, ⟨I, i, h⟩ => ⟨I, i, fun n l H hI => tst_mono (fun P Q k h => vcE_mono C c l H P Q k h) (fun t H h => by
      cases t with
      | true => exact vcSs_mono b l H _ _ (fun f l' H' h => match f, h with | .next, h => h | .ret v, h => k _ _ _ h) h
      | false => exact k _ _ _ h) (h n l H hI)⟩
  | .forL i x b, l, H, P, Q, k, h => vcE_mono C x l H _ _ (fun v H ⟨xs, e1, e2, h⟩ => ⟨xs, e1, e2, iterS_mono (fun x l H P Q k h => vcSs_mono b (l.set i (some x)) H P Q k h) k h⟩) h
  | .forR i x b, l, H, P, Q, k, h => vcE_mono C x l H _ _ (fun v H ⟨xs, e1, e2, e3, h⟩ => ⟨xs, e1, e2, e3, iterS_mono (fun x l H P Q k h => vcSs_mono b (l.set i (some x)) H P Q k h) k h⟩) h
  | .forD i x y b, l, H, P, Q, k, h => vcE_mono C x l H _ _ (fun v H h => vcE_mono C y l H _ _ (fun v H ⟨n, m, e1, e2, e3, e4, e5, e6, h⟩ => ⟨n, m, e1, e2, e3, e4, e5, e6, iterS_mono (fun x l H P Q k h => vcSs_mono b (l.set i (some x)) H P Q k h) k h⟩) h) h
  | .ret x, l, H, P, Q, k, h => vcE_mono C x l H _ _ (fun v H p => k _ _ _ p) h
  | .retN, l, H, P, Q, k, h => k _ _ _ h
  | .stuck, l, H, P, Q, k, h => h.elim
theorem vcSs_mono : ∀ (s : Ss) (l : Loc) (H : AH) (P Q : Fl → Loc → AH → Prop), (∀ f l H, P f l H → Q f l H) → vcSs T cl s l H P → vcSs T cl s l H Q
  | .nil, l, H, P, Q, k, h => k _ _ _ h
  | .cons s ss, l, H, P, Q, k, h => vcS_mono s l H _ _ (fun f l H h => match f, h with
    | .next, h => vcSs_mono ss l H P Q k h
    | .ret v, h => k _ _ _ h) h
end
end
theorem vcFn_mono {T : Tab} {cl : Cl} (C : Cm cl) {F : Fn} {args : List V} {H : AH} {P Q : V → AH → Prop} (k : ∀ v H, P v H → Q v H) (h : vcFn T cl F args H P) : vcFn T cl F args H Q :=
  ⟨h.1, h.2.1, h.2.2.1, vcSs_mono C _ _ _ _ _ (fun f l H h => match f, h with
    | .next, h => k _ _ h
    | .ret v, h => k _ _ h) h.2.2.2⟩
theorem vcCall_mono {T : Tab} {fs : List Fn} : ∀ n, Cm (vcCall T fs n)
  | 0 => fun _ _ _ _ _ _ h => h.elim
  | n + 1 => fun g args H P Q k ⟨F, e, h⟩ => ⟨F, e, vcFn_mono (vcCall_mono n) k h⟩

/-! ## loops by an invariant -/
theorem iterS_inv {f : V → Loc → AH → (Fl → Loc → AH → Prop) → Prop} (hf : ∀ x l H P Q, (∀ v l H, P v l H → Q v l H) → f x l H P → f x l H Q) {ok : AH → Prop} {xs : List V} {P : Fl → Loc → AH → Prop} (I : Nat → Loc → AH → Prop)
    (step : ∀ k x l H, xs[k]? = some x → I k l H → f x l H fun fl l' H' => match fl with | .next => ok H' ∧ I (k + 1) l' H' | .ret v => P (.ret v) l' H') (fin : ∀ l H, I xs.length l H → P .next l H) :
    ∀ {l H}, I 0 l H → iterS f ok xs l H P := by
  have gen : ∀ (n k : Nat) l H, k + n = xs.length → I k l H → iterS f ok (xs.drop k) l H P := by
    intro n
    induction n with
    | zero =>
      intro k l H hk hI
      obtain rfl : k = xs.length := by omega
      rw [List.drop_length]
      exact fin l H hI
    | succ n ih =>
      intro k l H hk hI
      have hlt : k < xs.length := by omega
      rw [List.drop_eq_getElem_cons hlt]
      refine hf _ _ _ _ _ (fun fl l' H' h => ?_) (step k xs[k] l H (List.getElem?_eq_getElem hlt) hI)
      cases fl with
      | next => exact ⟨h.1, ih (k + 1) l' H' (by omega) h.2⟩
      | ret v => exact h
  exact fun {l H} h => gen xs.length 0 l H (by omega) h
theorem iterC_inv {f : V → AH → (Option V → AH → Prop) → Prop} (hf : ∀ x H P Q, (∀ v H, P v H → Q v H) → f x H P → f x H Q) {ok : AH → Prop} {xs : List V} {P : List V → AH → Prop} (I : Nat → List V → AH → Prop)
    (step : ∀ k x acc H, xs[k]? = some x → I k acc H → f x H fun r H' => ok H' ∧ acc.length ≤ lid ∧ I (k + 1) (acc ++ r.toList) H') (fin : ∀ acc H, I xs.length acc H → P acc H) :
    ∀ {acc H}, I 0 acc H → iterC f ok xs acc H P := by
  have gen : ∀ (n k : Nat) acc H, k + n = xs.length → I k acc H → iterC f ok (xs.drop k) acc H P := by
    intro n
    induction n with
    | zero =>
      intro k l H hk hI
      obtain rfl : k = xs.length := by omega
      rw [List.drop_length]
      exact fin l H hI
    | succ n ih =>
      intro k acc H hk hI
      have hlt : k < xs.length := by omega
      rw [List.drop_eq_getElem_cons hlt]
      exact hf _ _ _ _ (fun r H' h => ⟨h.1, h.2.1, ih (k + 1) _ H' (by omega) h.2.2⟩) (step k xs[k] acc H (List.getElem?_eq_getElem hlt) hI)
  exact fun {acc H} h => gen xs.length 0 acc H (by omega) h
end Mine
end
section
open PySem PySem.W PySem.Calls PyProof.Rows
namespace Mine

/-! ## what stays as it was -/
noncomputable def Kp (S : Nat → Prop) (H H' : AH) : Prop := H.length ≤ H'.length ∧ ∀ i, ¬ S i → i < H.length → H'[i]? = H[i]?
theorem Kp.refl {S : Nat → Prop} {H : AH} : Kp S H H := ⟨Nat.le_refl _, fun _ _ _ => rfl⟩
theorem Kp.trans {S : Nat → Prop} {H H' H'' : AH} (x : Kp S H H') (y : Kp S H' H'') : Kp S H H'' := ⟨Nat.le_trans x.1 y.1, fun i hi hl => (y.2 i hi (Nat.lt_of_lt_of_le hl x.1)).trans (x.2 i hi hl)⟩
theorem Kp.mono {S S' : Nat → Prop} {H H' : AH} (x : Kp S H H') (h : ∀ i, S i → i < H.length → S' i) : Kp S' H H' := ⟨x.1, fun i hi hl => x.2 i (fun hs => hi (h i hs hl)) hl⟩
theorem Kp.get {S : Nat → Prop} {H H' : AH} (x : Kp S H H') {i : Nat} {o : AObj} (e : H[i]? = some o) (h : ¬ S i) : H'[i]? = some o := (x.2 i h (List.getElem?_eq_some_iff.mp e).1).trans e
theorem Kp.app {S : Nat → Prop} {H : AH} (e : AH) : Kp S H (H ++ e) := ⟨by simp, fun i _ hl => List.getElem?_append_left hl⟩
theorem Kp.set {S : Nat → Prop} {H : AH} {i : Nat} (h : S i) (o : AObj) : Kp S H (H.set i o) := ⟨by simp, fun j hj _ => List.getElem?_set_ne (fun e => hj (by rw [← e]; exact h))⟩
noncomputable abbrev Gr := Kp fun _ => False
theorem Gr.any {S : Nat → Prop} {H H' : AH} (x : Gr H H') : Kp S H H' := x.mono fun _ h => h.elim
theorem Gr.g {H H' : AH} (x : Gr H H') {i : Nat} {o : AObj} (e : H[i]? = some o) : H'[i]? = some o := x.get e id
theorem last_app (H : AH) (o : AObj) : (H ++ [o])[H.length]? = some o := by simp
theorem lt_of {H : AH} {i : Nat} {o : AObj} (e : H[i]? = some o) : i < H.length := (List.getElem?_eq_some_iff.mp e).1

theorem lk_put (f g : Nat) (v : V) : ∀ fs : List (Nat × V), lk f (put g v fs) = if g = f then some v else lk f fs
  | [] => by unfold put lk; by_cases h : g = f <;> simp [h, lk]
  | (k, u) :: r => by
    unfold put
    by_cases hk : k = g
    · subst hk
      rw [if_pos rfl]
      unfold lk
      by_cases h : k = f <;> simp [h]
    · rw [if_neg hk]
      unfold lk
      rw [lk_put f g v r]
      by_cases h : k = f
      · subst h
        rw [if_pos rfl, if_neg (Ne.symm hk), if_pos rfl]
      · rw [if_neg h, if_neg h]
theorem put_len (g : Nat) (v : V) : ∀ fs : List (Nat × V), (put g v fs).length ≤ fs.length + 1
  | [] => by simp [put]
  | (k, u) :: r => by
    unfold put
    split
    · simp
    · have := put_len g v r
      simp only [List.length_cons]; omega

/-! ## one step each -/
section
variable {T : Tab} {cl : Cl} {l : Loc} {H : AH} {P : V → AH → Prop}
theorem E_loc {i : Nat} {v : V} (h : l[i]? = some (some v)) (p : P v H) : vcE T cl (.loc i) l H P := ⟨v, h, p⟩
theorem E_cstr {s : Str} (p : P (.str s) H) : vcE T cl (.cstr s) l H P := p
theorem E_cint {i : Int} (p : P (.int i) H) : vcE T cl (.cint i) l H P := p
theorem E_cbool {b : Bool} (p : P (.bool b) H) : vcE T cl (.cbool b) l H P := p
theorem two_lid : 2 ≤ lid := by decide
theorem E_attr {i f o k : Nat} {fs : List (Nat × V)} {r : V} (h : l[i]? = some (some (.ref o))) (h1 : H[o]? = some (.inst k fs)) (h2 : lk f fs = some r) (p : P r H) : vcE T cl (.attr (.loc i) f) l H P :=
  ⟨_, h, r, by unfold getA; simp only [h1, h2], p⟩
theorem E_attr2 {i f g o k o' k' : Nat} {fs fs' : List (Nat × V)} {r : V} (h : l[i]? = some (some (.ref o))) (h1 : H[o]? = some (.inst k fs)) (h2 : lk f fs = some (.ref o')) (h3 : H[o']? = some (.inst k' fs')) (h4 : lk g fs' = some r) (p : P r H) :
    vcE T cl (.attr (.attr (.loc i) f) g) l H P :=
  ⟨_, h, .ref o', by unfold getA; simp only [h1, h2], r, by unfold getA; simp only [h3, h4], p⟩
theorem E_bin {o : Bo} {a b : X} (h : vcE T cl a l H fun v H => vcE T cl b l H fun u H => ∃ r, opBin o v u H = some r ∧ P r.1 r.2) : vcE T cl (.bin o a b) l H P := h
theorem E_cmp {o : Co} {a b : X} (h : vcE T cl a l H fun v H => vcE T cl b l H fun u H => ∃ r, opCmp o v u H = some r ∧ P (.bool r) H) : vcE T cl (.cmp o a b) l H P := h
theorem E_len {a : X} (h : vcE T cl a l H fun v H => ∃ vs, itemsB v H = some vs ∧ vs.length ≤ lid ∧ P (.int vs.length) H) : vcE T cl (.len a) l H P := h
theorem E_idx {a i : X} (h : vcE T cl a l H fun v H => vcE T cl i l H fun k H => ∃ r, itemAt v k H = some r ∧ P r H) : vcE T cl (.idx a i) l H P := h
theorem E_app {a x : X} (h : vcE T cl a l H fun v H => (getL v H).isSome = true ∧ vcE T cl x l H fun u H => ∃ i vs, v = .ref i ∧ H[i]? = some (.list vs) ∧ vs.length ≤ lid ∧ P .none (H.set i (.list (vs ++ [u])))) : vcE T cl (.app a x) l H P := h
theorem E_pop {a : X} (h : vcE T cl a l H fun v H => ∃ i vs u, v = .ref i ∧ H[i]? = some (.list (vs ++ [u])) ∧ vs.length ≤ lid ∧ P u (H.set i (.list vs))) : vcE T cl (.pop a) l H P := h
theorem E_call {g : Nat} {xs : Xs} (h : vcEs T cl xs l H fun vs H => cl g vs H P) : vcE T cl (.call g xs) l H P := h
theorem E_meth {i o k m g : Nat} {fs : List (Nat × V)} {xs : Xs} (h : l[i]? = some (some (.ref o))) (h1 : H[o]? = some (.inst k fs)) (h2 : T.meth k m = some g) (p : vcEs T cl xs l H fun vs H => cl g (.ref o :: vs) H P) : vcE T cl (.meth (.loc i) m xs) l H P :=
  ⟨_, h, k, g, by unfold clsOf; simp only [h1], h2, p⟩
theorem E_methA {i f o k m g o' k' : Nat} {fs fs' : List (Nat × V)} {xs : Xs} (h : l[i]? = some (some (.ref o))) (h1 : H[o]? = some (.inst k fs)) (h3 : lk f fs = some (.ref o')) (h4 : H[o']? = some (.inst k' fs')) (h2 : T.meth k' m = some g)
    (p : vcEs T cl xs l H fun vs H => cl g (.ref o' :: vs) H P) : vcE T cl (.meth (.attr (.loc i) f) m xs) l H P :=
  ⟨_, h, .ref o', by unfold getA; simp only [h1, h3], k', g, by unfold clsOf; simp only [h4], h2, p⟩
theorem E_neg {i : Int} (p : P (.int (-i)) H) : vcE T cl (.neg (.cint i)) l H P := ⟨i, rfl, p⟩
theorem E_tup {xs : Xs} (h : vcEs T cl xs l H fun vs H => vs.length ≤ lid ∧ P (.ref H.length) (H ++ [.tup vs])) : vcE T cl (.tup xs) l H P := h
theorem E_lst {xs : Xs} (h : vcEs T cl xs l H fun vs H => vs.length ≤ lid ∧ P (.ref H.length) (H ++ [.list vs])) : vcE T cl (.lst xs) l H P := h
theorem E_and {x y : X} {ys : Xs} (h : vcE T cl x l H fun v H => ∃ b, truth v H = some b ∧ if b then vcAnd T cl (.cons y ys) l H P else P v H) : vcE T cl (.and (.cons x (.cons y ys))) l H P := h
theorem A_one {x : X} (h : vcE T cl x l H P) : vcAnd T cl (.cons x .nil) l H P := h
theorem A_cons {x y : X} {ys : Xs} (h : vcE T cl x l H fun v H => ∃ b, truth v H = some b ∧ if b then vcAnd T cl (.cons y ys) l H P else P v H) : vcAnd T cl (.cons x (.cons y ys)) l H P := h
theorem E_or {x y : X} {ys : Xs} (h : vcE T cl x l H fun v H => ∃ b, truth v H = some b ∧ if b then P v H else vcOr T cl (.cons y ys) l H P) : vcE T cl (.or (.cons x (.cons y ys))) l H P := h
theorem O_one {x : X} (h : vcE T cl x l H P) : vcOr T cl (.cons x .nil) l H P := h
theorem Es_nil {P : List V → AH → Prop} (p : P [] H) : vcEs T cl .nil l H P := p
theorem Es_cons {x : X} {xs : Xs} {P : List V → AH → Prop} (h : vcE T cl x l H fun v H => vcEs T cl xs l H fun vs H => P (v :: vs) H) : vcEs T cl (.cons x xs) l H P := h
/-- a test whose value is a truth -/
theorem T_bool {x : X} {b : Bool} {Q : Bool → AH → Prop} (h : vcE T cl x l H fun v H' => v = .bool b ∧ Q b H') (C : Cm cl) : tst (vcE T cl x l H) Q :=
  vcE_mono C x l H _ _ (fun v H' ⟨e, q⟩ => ⟨b, by rw [e]; rfl, q⟩) h
end
section
variable {T : Tab} {cl : Cl} {l : Loc} {H : AH} {P : Fl → Loc → AH → Prop} {ss : Ss}
theorem S_ret {x : X} (h : vcE T cl x l H fun v H => P (.ret v) l H) : vcSs T cl (.cons (.ret x) ss) l H P := h
theorem S_retN (h : P (.ret .none) l H) : vcSs T cl (.cons .retN ss) l H P := h
theorem S_asg {i : Nat} {x : X} (h : vcE T cl x l H fun v H => vcSs T cl ss (l.set i (some v)) H P) : vcSs T cl (.cons (.asg i x) ss) l H P := h
theorem S_expr {x : X} (h : vcE T cl x l H fun v H => (∀ i, v ≠ .ref i) ∧ v ≠ .etup ∧ vcSs T cl ss l H P) : vcSs T cl (.cons (.expr x) ss) l H P := h
/-- a test; its ways -/
theorem S_ife {c : X} {a b : Ss} (t : Bool) (C : Cm cl) (h : vcE T cl c l H fun v H' => v = .bool t ∧ (t = true → vcSs T cl a l H' fun fl l H => match fl with | .next => vcSs T cl ss l H P | .ret v => P (.ret v) l H) ∧
    (t = false → vcSs T cl b l H' fun fl l H => match fl with | .next => vcSs T cl ss l H P | .ret v => P (.ret v) l H)) : vcSs T cl (.cons (.ife c a b) ss) l H P :=
  vcE_mono C c l H _ _ (fun v H' ⟨e, q1, q2⟩ => ⟨t, by rw [e]; rfl, by
    cases t with
    | true => exact q1 rfl
    | false => exact q2 rfl⟩) h
theorem S_forD {i : Nat} {hi lo : X} {b : Ss} (h : vcE T cl hi l H fun v H => vcE T cl lo l H fun u H => ∃ n m, v = .int n ∧ u = .int m ∧ -lid ≤ n ∧ n ≤ lid ∧ -lid ≤ m ∧ m ≤ lid ∧
    iterS (fun x l H K => vcSs T cl b (l.set i (some x)) H K) (fun _ => True) (downL n m) l H (fun fl l H => match fl with | .next => vcSs T cl ss l H P | .ret v => P (.ret v) l H)) : vcSs T cl (.cons (.forD i hi lo b) ss) l H P := h
theorem S_forR {i : Nat} {hi : X} {b : Ss} (h : vcE T cl hi l H fun v H => ∃ n, v = .int n ∧ -lid ≤ n ∧ n ≤ lid ∧
    iterS (fun x l H K => vcSs T cl b (l.set i (some x)) H K) (fun _ => True) (upL n) l H (fun fl l H => match fl with | .next => vcSs T cl ss l H P | .ret v => P (.ret v) l H)) : vcSs T cl (.cons (.forR i hi b) ss) l H P := h
theorem S_forL {i : Nat} {src : X} {b : Ss} (h : vcE T cl src l H fun v H => ∃ xs, itemsOf v H = some xs ∧ xs.length ≤ lid ∧
    iterS (fun x l H K => vcSs T cl b (l.set i (some x)) H K) (fun H' => objOf v H' = objOf v H) xs l H (fun fl l H => match fl with | .next => vcSs T cl ss l H P | .ret v => P (.ret v) l H)) : vcSs T cl (.cons (.forL i src b) ss) l H P := h
theorem S_nil (h : P .next l H) : vcSs T cl .nil l H P := h
theorem S_setA {i f o k : Nat} {fs : List (Nat × V)} {x : X} (h : vcE T cl x l H fun u H => ∃ fs, l[i]? = some (some (.ref o)) ∧ H[o]? = some (.inst k fs) ∧ fs.length ≤ 100 ∧ vcSs T cl ss l (H.set o (.inst k (put f u fs))) P) (C : Cm cl) :
    vcSs T cl (.cons (.setA (.loc i) f x) ss) l H P :=
  vcE_mono C x l H _ _ (fun v H' ⟨fs, h1, h2, h3, h4⟩ => ⟨_, h1, o, k, fs, rfl, h2, h3, h4⟩) h
end

theorem for_inv {T : Tab} {cl : Cl} {b : Ss} {i : Nat} (C : Cm cl) {ok : AH → Prop} {xs : List V} {P : Fl → Loc → AH → Prop} (I : Nat → Loc → AH → Prop)
    (step : ∀ k x l H, xs[k]? = some x → I k l H → ∀ Q : Fl → Loc → AH → Prop, (∀ l' H', ok H' → I (k + 1) l' H' → Q .next l' H') → (∀ v l' H', P (.ret v) l' H' → Q (.ret v) l' H') → vcSs T cl b (l.set i (some x)) H Q) (fin : ∀ l H, I xs.length l H → P .next l H) {l : Loc} {H : AH} (h : I 0 l H) :
    iterS (fun x l H K => vcSs T cl b (l.set i (some x)) H K) ok xs l H P := iterS_inv (fun x l H P Q k h => vcSs_mono C b (l.set i (some x)) H P Q k h) I (fun k x l H hx hI => step k x l H hx hI _ (fun _ _ a b => ⟨a, b⟩) fun _ _ _ h => h) fin h
/-- a while by what stays true, its measure going down -/
theorem S_whl {T : Tab} {cl : Cl} {c : X} {b ss : Ss} {l : Loc} {H : AH} {P : Fl → Loc → AH → Prop} (I : Nat → Loc → AH → Prop) {n0 : Nat} (h0 : I n0 l H)
    (st : ∀ n l H, I n l H → ∀ Q : Fl → Loc → AH → Prop, (∀ m l' H', m < n → I m l' H' → Q .next l' H') → (∀ v l' H', P (.ret v) l' H' → Q (.ret v) l' H') → tst (vcE T cl c l H) fun t H => if t = true then vcSs T cl b l H Q else vcSs T cl ss l H P) : vcSs T cl (.cons (.whl c b) ss) l H P :=
  ⟨I, ⟨n0, h0⟩, fun n l H hI => st n l H hI _ (fun m _ _ a b => ⟨m, a, b⟩) fun _ _ _ h => h⟩
noncomputable abbrev CL (k : Nat) : Cl := vcCall TAB FS k
theorem Cm_CL (k : Nat) : Cm (CL k) := vcCall_mono k
/-- what a def hands back -/
noncomputable abbrev Rf (P : V → AH → Prop) : Fl → Loc → AH → Prop := fun fl _ H' => match fl with
  | .next => P .none H'
  | .ret v => P v H'
theorem call_of {k g : Nat} {F : Fn} {args : List V} {H : AH} {P : V → AH → Prop} (hF : FS[g]? = some F) (h1 : args.length = F.np) (h : vcSs TAB (CL k) F.body (args.map some ++ List.replicate (F.ns - F.np) none) H (Rf P)) (h2 : F.dfl.length ≤ F.np) : CL (k + 1) g args H P := by
  refine ⟨F, hF, by omega, by omega, h2, ?_⟩
  have : F.dfl.drop (args.length + F.dfl.length - F.np) = [] := List.drop_eq_nil_of_le (by omega)
  rw [this, List.append_nil]
  exact h

theorem veq_int (H : AH) (d : Nat) (a b : Int) : veq H d (.int a) (.int b) = some (a == b) := by cases d <;> rfl
theorem veq_str (H : AH) (d : Nat) (a b : Str) : veq H d (.str a) (.str b) = some (a == b) := by cases d <;> rfl
theorem veq_bool (H : AH) (d : Nat) (a b : Bool) : veq H d (.bool a) (.bool b) = some (a == b) := by cases d <;> rfl
theorem cmp_eq (v u : V) (H : AH) : opCmp .eq v u H = veq H 2 v u := rfl
theorem cmp_ne (v u : V) (H : AH) : opCmp .ne v u H = (veq H 2 v u).map (!·) := rfl
theorem ne_str (a b : Str) (H : AH) : opCmp .ne (.str a) (.str b) H = some (a != b) := by rw [cmp_ne, veq_str]; rfl
theorem ne_int (a b : Int) (H : AH) : opCmp .ne (.int a) (.int b) H = some (a != b) := by rw [cmp_ne, veq_int]; rfl
theorem eq_str (a b : Str) (H : AH) : opCmp .eq (.str a) (.str b) H = some (a == b) := by rw [cmp_eq, veq_str]
theorem eq_int (a b : Int) (H : AH) : opCmp .eq (.int a) (.int b) H = some (a == b) := by rw [cmp_eq, veq_int]
theorem items_list {H : AH} {i : Nat} {vs : List V} (e : H[i]? = some (.list vs)) : itemsOf (.ref i) H = some vs := by unfold itemsOf; simp only [e]
theorem items_tup {H : AH} {i : Nat} {vs : List V} (e : H[i]? = some (.tup vs)) : itemsOf (.ref i) H = some vs := by unfold itemsOf; simp only [e]
theorem getL_list {H : AH} {i : Nat} {vs : List V} (e : H[i]? = some (.list vs)) : getL (.ref i) H = some vs := by unfold getL; simp only [e]
/-- an item counted from the front -/
theorem at_front {v : V} {H : AH} {vs : List V} {r : V} {n : Nat} (h : itemsB v H = some vs) (hl : vs.length ≤ lid) (e : vs[n]? = some r) : itemAt v (.int n) H = some r := by
  have hn := (List.getElem?_eq_some_iff.mp e).1
  have h2 : (n : Int) ≤ lid := by omega
  unfold itemAt
  simp only [h]
  rw [if_pos hl, if_pos (Int.natCast_nonneg n), if_pos h2]
  simpa using e
theorem at_last {v : V} {H : AH} {vs : List V} {r : V} (h : itemsB v H = some vs) (hl : vs.length ≤ lid) (e : vs.getLast? = some r) : itemAt v (.int (-1)) H = some r := by
  have hne : vs ≠ [] := by rintro rfl; cases e
  have hn : 0 < vs.length := List.length_pos_iff.mpr hne
  unfold itemAt
  simp only [h]
  rw [if_pos hl, if_neg (by omega), if_pos (by omega)]
  rw [List.getLast?_eq_getElem?] at e
  have : ((-1 : Int) + vs.length).toNat = vs.length - 1 := by omega
  rw [this]; exact e
theorem any_strs (H : AH) (x : Str) : ∀ ss : List Str, anyEq H (.str x) (ss.map V.str) = some (ss.contains x)
  | [] => rfl
  | s :: ss => by
    rw [List.map_cons]
    unfold anyEq
    rw [any_strs H x ss, veq_str]
    rw [List.contains_cons]
    have : (s == x) = (x == s) := Bool.eq_iff_iff.mpr ⟨fun h => by rw [beq_iff_eq.mp h]; exact beq_self_eq_true _, fun h => by rw [beq_iff_eq.mp h]; exact beq_self_eq_true _⟩
    simp only [this]
theorem in_strs {u : V} {H : AH} {x : Str} {ss : List Str} (h : itemsOf u H = some (ss.map V.str)) (hl : ss.length ≤ lid) : opCmp .isin (.str x) u H = some (ss.contains x) := by
  show (itemsOf u H).bind _ = _
  rw [h, Option.bind_some, if_pos (by rw [List.length_map]; exact hl), any_strs]
theorem notin_strs {u : V} {H : AH} {x : Str} {ss : List Str} (h : itemsOf u H = some (ss.map V.str)) (hl : ss.length ≤ lid) : opCmp .notin (.str x) u H = some (!ss.contains x) :=
  congrArg (Option.map (!·)) (in_strs (x := x) h hl)
theorem veq_seq {H : AH} {d i j : Nat} {o o' : AObj} (h1 : H[i]? = some o) (h2 : H[j]? = some o') : veq H (d + 1) (.ref i) (.ref j) = seqEq (veq H d) o o' := by
  show (match H[i]? with
    | some o => (H[j]?).bind (seqEq (veq H d) o)
    | none => _) = _
  rw [h1, h2]; rfl
theorem veq_lists {H : AH} {d i j : Nat} {a b : List V} (h1 : H[i]? = some (.list a)) (h2 : H[j]? = some (.list b)) (hl : a.length ≤ lid) (e : a.length = b.length) : veq H (d + 1) (.ref i) (.ref j) = all2 (veq H d) a b := by
  rw [veq_seq h1 h2]
  exact (if_pos ⟨hl, e ▸ hl⟩).trans (if_pos e)
end Mine
end
section
open PySem PySem.W PySem.Calls PyProof.Rows
namespace Mine

noncomputable abbrev MATHS : List Str := [s_mi, s_mo, s_mn, s_ms, s_mtext, s_annotationXxml]
noncomputable abbrev SVGS : List Str := [s_foreignObject, s_desc, s_title]
noncomputable abbrev HTMLS : List Str := [s_address, s_applet, s_area, s_article, s_aside, s_base, s_basefont, s_bgsound, s_blockquote, s_body, s_br, s_button, s_caption, s_center, s_col, s_colgroup, s_dd, s_details, s_dir, s_div, s_dl, s_dt, s_embed, s_fieldset, s_figcaption, s_figure, s_footer, s_form, s_frame, s_frameset, s_h1, s_h2, s_h3, s_h4, s_h5, s_h6, s_head, s_header, s_hgroup, s_hr, s_html, s_iframe, s_img, s_input, s_keygen, s_li, s_link, s_listing, s_main, s_marquee, s_menu, s_meta, s_nav, s_noembed, s_noframes, s_noscript, s_object, s_ol, s_p, s_param, s_plaintext, s_pre, s_script, s_search, s_section, s_select, s_source, s_style, s_summary, s_table, s_tbody, s_td, s_template, s_textarea, s_tfoot, s_th, s_thead, s_title, s_tr, s_track, s_ul, s_wbr, s_xmp]
noncomputable abbrev IMPS : List Str := [s_dd, s_dt, s_li, s_optgroup, s_option, s_p, s_rb, s_rp, s_rt, s_rtc]
noncomputable abbrev ENDS : List Str := [s_applet, s_caption, s_html, s_table, s_td, s_th, s_marquee, s_object, s_template]
/-- is it special? -/
noncomputable def spB (k : Str × Str) : Bool := if k.1 = s_math then MATHS.contains k.2 else if k.1 = s_svg then SVGS.contains k.2 else k.1 == s_html && HTMLS.contains k.2
/-- does it end a button scope? -/
noncomputable def enB (k : Str × Str) : Bool := if k.1 = s_math then MATHS.contains k.2 else if k.1 = s_svg then SVGS.contains k.2 else ENDS.contains k.2 || k.2 == s_button

theorem ne_true {b : Bool} (h : b = false) : ¬ b = true := by rw [h]; decide
theorem sp_is_special {k : Nat} {sp nm : Str} {H : AH} {P : V → AH → Prop} (p : P (.bool (spB (sp, nm))) H) : CL (k + 1) 0 [.str sp, .str nm] H P := by
  refine call_of rfl rfl ?_ (by decide)
  refine S_ife (sp == s_math) (Cm_CL k) (E_cmp (E_loc rfl ⟨_, veq_str _ _ _ _, rfl, fun h => ?_, fun h => ?_⟩))
  · refine S_ret ⟨_, rfl, nm, rfl, ?_⟩
    rw [spB, if_pos (eq_of_beq h)] at p
    rw [Bool.false_xor]; exact p
  · refine S_nil ?_
    refine S_ife (sp == s_svg) (Cm_CL k) (E_cmp (E_loc rfl ⟨_, veq_str _ _ _ _, rfl, fun h' => ?_, fun h' => ?_⟩))
    · refine S_ret ⟨_, rfl, nm, rfl, ?_⟩
      rw [spB, if_neg (by simpa using h), if_pos (eq_of_beq h')] at p
      rw [Bool.false_xor]; exact p
    · refine S_nil ?_
      rw [spB, if_neg (by simpa using h), if_neg (by simpa using h')] at p
      refine S_ret (E_and (E_cmp (E_loc rfl ⟨_, veq_str _ _ _ _, _, rfl, ?_⟩)))
      dsimp only at p
      cases hb : sp == s_html with
      | true => rw [hb, Bool.true_and] at p; exact A_one ⟨_, rfl, nm, rfl, by rw [Bool.false_xor]; exact p⟩
      | false => rw [hb, Bool.false_and] at p; exact p

theorem sp_implied_names {k : Nat} {H : AH} {P : V → AH → Prop} (p : P (.ref H.length) (H ++ [.tup (IMPS.map V.str)])) : CL (k + 1) 1 [] H P :=
  call_of rfl rfl (S_ret (E_tup ⟨by decide, p⟩)) (by decide)

/-! ## the open elements -/
/-- what the kinds, the nodes and the tree's tables have to do with each other -/
structure Kds (kd : List (Str × Str)) (nd : List Nat) (SP NM : List Str) : Prop where
  len : kd.length = nd.length
  small : nd.length ≤ 1000
  spl : SP.length ≤ lid
  nml : NM.length ≤ lid
  at_ : ∀ (j : Nat) (k : Str × Str) (n : Nat), kd[j]? = some k → nd[j]? = some n → SP[n]? = some k.1 ∧ NM[n]? = some k.2
  nodup : nd.Nodup
  spaces : ∀ k ∈ kd, k.1 = s_html ∨ k.1 = s_svg ∨ k.1 = s_math
noncomputable abbrev nodesV (nd : List Nat) : List V := nd.map fun (n : Nat) => V.int (n : Int)
structure Stk (H : AH) (st t it isp inm : Nat) (nd : List Nat) (SP NM : List Str) (m : Nat) : Prop where
  hst : ∃ fs, H[st]? = some (.inst 0 fs) ∧ lk 0 fs = some (.ref t) ∧ lk 1 fs = some (.ref it)
  htr : ∃ ft, H[t]? = some (.inst 2 ft) ∧ lk 3 ft = some (.ref isp) ∧ lk 4 ft = some (.ref inm)
  hsp : H[isp]? = some (.list (SP.map V.str))
  hnm : H[inm]? = some (.list (NM.map V.str))
  hit : H[it]? = some (.list (nodesV (nd.take m)))
  hne : it ≠ st ∧ it ≠ t ∧ it ≠ isp ∧ it ≠ inm
  hle : m ≤ nd.length
section
variable {H H' : AH} {st t it isp inm m k : Nat} {kd : List (Str × Str)} {nd : List Nat} {SP NM : List Str} {P : V → AH → Prop}
theorem Stk.keep (s : Stk H st t it isp inm nd SP NM m) (g : Gr H H') : Stk H' st t it isp inm nd SP NM m := by
  obtain ⟨⟨fs, a, b⟩, ⟨ft, c, d⟩, e1, e2, e3, e4, e5⟩ := s
  exact ⟨⟨fs, g.g a, b⟩, ⟨ft, g.g c, d⟩, g.g e1, g.g e2, g.g e3, e4, e5⟩
theorem Stk.cut (s : Stk H st t it isp inm nd SP NM m) {m' : Nat} (h : m' ≤ m) : Stk (H.set it (.list (nodesV (nd.take m')))) st t it isp inm nd SP NM m' := by
  obtain ⟨⟨fs, a, b⟩, ⟨ft, c, d⟩, e1, e2, e3, ⟨n1, n2, n3, n4⟩, e5⟩ := s
  refine ⟨⟨fs, ?_, b⟩, ⟨ft, ?_, d⟩, ?_, ?_, ?_, ⟨n1, n2, n3, n4⟩, Nat.le_trans h e5⟩
  · rw [List.getElem?_set_ne n1]; exact a
  · rw [List.getElem?_set_ne n2]; exact c
  · rw [List.getElem?_set_ne n3]; exact e1
  · rw [List.getElem?_set_ne n4]; exact e2
  · rw [List.getElem?_set_self (lt_of e3)]
theorem Stk.len (s : Stk H st t it isp inm nd SP NM m) : (nodesV (nd.take m)).length = m := by
  have := s.hle
  simp; omega

theorem sp_many (K : Kds kd nd SP NM) (s : Stk H st t it isp inm nd SP NM m) (p : P (.int m) H) : CL (k + 1) 23 [.ref st] H P := by
  obtain ⟨fs, a, b, c⟩ := s.hst
  refine call_of rfl rfl (S_ret (E_len (E_attr rfl a c ⟨_, items_list s.hit, ?_, ?_⟩))) (by decide)
  · rw [s.len]; have := s.hle; have := K.small; unfold lid; omega
  · rw [s.len]; exact p
noncomputable def curV (nd : List Nat) : Nat → V
  | 0 => .int (-1)
  | m + 1 => .int ((nd[m]?).getD 0 : Nat)
theorem lid_of (K : Kds kd nd SP NM) (s : Stk H st t it isp inm nd SP NM m) : (nodesV (nd.take m)).length ≤ lid := by
  rw [s.len]; have := s.hle; have := K.small; unfold lid; omega
theorem int_eq0 (m : Nat) : ((m : Int) == 0) = (m == 0) := by
  cases m <;> simp
  omega
theorem nodes_at (s : Stk H st t it isp inm nd SP NM (m + 1)) : (nodesV (nd.take (m + 1)))[m]? = some (.int ((nd[m]?).getD 0 : Nat)) := by
  have := s.hle
  have h : m < nd.length := by omega
  rw [List.getElem?_map, List.getElem?_take, if_pos (Nat.lt_succ_self m), List.getElem?_eq_getElem h]; rfl
theorem sp_current (K : Kds kd nd SP NM) (s : Stk H st t it isp inm nd SP NM m) (p : P (curV nd m) H) : CL (k + 1) 22 [.ref st] H P := by
  obtain ⟨fs, a, b, c⟩ := s.hst
  have hl := lid_of K s
  refine call_of rfl rfl ?_ (by decide)
  refine S_ife (m == 0) (Cm_CL k) (E_cmp (E_len (E_attr rfl a c ⟨_, items_list s.hit, hl, ⟨_, veq_int _ _ _ _, ?_, fun h => ?_, fun h => ?_⟩⟩)))
  · rw [s.len, int_eq0]
  · have : m = 0 := by simpa using h
    subst this
    exact S_ret (E_neg p)
  · cases m with
    | zero => cases h
    | succ m =>
      refine S_nil (S_ret (E_idx (E_attr rfl a c (E_bin (E_len (E_attr rfl a c ⟨_, items_list s.hit, hl, ⟨_, rfl, ?_⟩⟩))))))
      dsimp only
      have e : ((nodesV (nd.take (m + 1))).length : Int) - 1 = (m : Int) := by rw [s.len]; omega
      rw [e]
      exact ⟨_, at_front (items_list s.hit) hl (nodes_at s), p⟩
/-- the name of the top, as far as it is html's -/
noncomputable def topName (kd : List (Str × Str)) : Nat → Str
  | 0 => s_
  | m + 1 => match kd[m]? with
    | some k => if k.1 = s_html then k.2 else s_
    | none => s_
theorem sp_name (K : Kds kd nd SP NM) (s : Stk H st t it isp inm nd SP NM m) (p : P (.str (topName kd m)) H) : CL (k + 2) 24 [.ref st] H P := by
  obtain ⟨fs, a, b, c⟩ := s.hst
  obtain ⟨ft, d, e, f⟩ := s.htr
  refine call_of rfl rfl ?_ (by decide)
  refine S_asg (E_meth rfl a rfl (sp_current K s ?_))
  cases m with
  | zero =>
    refine S_ife true (Cm_CL _) (E_or (E_cmp (E_loc rfl (E_neg ⟨_, veq_int _ _ _ _, true, rfl, ⟨rfl, fun _ => ?_, fun h => by cases h⟩⟩))))
    exact S_ret p
  | succ m =>
    have hm : m < nd.length := by have := s.hle; omega
    have hk : m < kd.length := by rw [K.len]; exact hm
    obtain ⟨hs, hn⟩ := K.at_ m kd[m] nd[m] (List.getElem?_eq_getElem hk) (List.getElem?_eq_getElem hm)
    have e1 : curV nd (m + 1) = .int (nd[m] : Nat) := by show V.int ((nd[m]?).getD 0 : Nat) = _; rw [List.getElem?_eq_getElem hm]; rfl
    have e2 : topName kd (m + 1) = if kd[m].1 = s_html then kd[m].2 else s_ := by
      show (match kd[m]? with
        | some k => if k.1 = s_html then k.2 else s_
        | none => s_) = _
      rw [List.getElem?_eq_getElem hk]
    rw [e1]
    have hS : (SP.map V.str)[nd[m]]? = some (.str kd[m].1) := by rw [List.getElem?_map, hs]; rfl
    have hN : (NM.map V.str)[nd[m]]? = some (.str kd[m].2) := by rw [List.getElem?_map, hn]; rfl
    refine S_ife (kd[m].1 != s_html) (Cm_CL _) (E_or (E_cmp (E_loc rfl (E_neg ⟨_, veq_int _ _ _ _, false, ?_, ?_⟩))))
    · have : ((nd[m] : Nat) : Int) ≠ -1 := by omega
      simp only [truth, Option.some.injEq]
      simpa using this
    · refine O_one (E_cmp (E_idx (E_attr2 rfl a b d e (E_loc rfl ⟨_, at_front (items_list s.hsp) (by simpa using K.spl) hS, ⟨_, ne_str _ _ _, rfl, fun h => ?_, fun h => ?_⟩⟩))))
      · refine S_ret ?_
        rw [e2, if_neg (by simpa using h)] at p
        exact p
      · refine S_nil (S_ret (E_idx (E_attr2 rfl a b d f (E_loc rfl ⟨_, at_front (items_list s.hnm) (by simpa using K.nml) hN, ?_⟩))))
        rw [e2, if_pos (by simpa using h)] at p
        exact p
theorem sp_pop (K : Kds kd nd SP NM) (s : Stk H st t it isp inm nd SP NM (m + 1)) (p : P (.int ((nd[m]?).getD 0 : Nat)) (H.set it (.list (nodesV (nd.take m))))) : CL (k + 1) 21 [.ref st] H P := by
  obtain ⟨fs, a, b, c⟩ := s.hst
  have hl := lid_of K s
  refine call_of rfl rfl ?_ (by decide)
  refine S_ife false (Cm_CL k) (E_cmp (E_len (E_attr rfl a c ⟨_, items_list s.hit, hl, ⟨_, veq_int _ _ _ _, ?_, fun h => (by cases h), fun h => ?_⟩⟩)))
  · rw [s.len, int_eq0]; rfl
  · have hm : m < nd.length := by have := s.hle; omega
    refine S_nil (S_ret (E_pop (E_attr rfl a c ⟨it, nodesV (nd.take m), _, rfl, ?_, ?_, p⟩)))
    · rw [s.hit, List.take_succ_eq_append_getElem hm]
      rw [List.getElem?_eq_getElem hm]
      simp only [nodesV, List.map_append, List.map_cons, List.map_nil, Option.getD_some]
    · have := s.hle; have := K.small; simp [nodesV, lid]; omega
end
end Mine
end
section
open PySem PySem.W PySem.Calls PyProof.Rows
namespace Mine
section
variable {H H' : AH} {st t it isp inm m k : Nat} {kd : List (Str × Str)} {nd : List Nat} {SP NM : List Str} {P : V → AH → Prop}

/-- is the top let go of by implied end tags? -/
noncomputable def goes (kd : List (Str × Str)) (but : Str) (m : Nat) : Bool := IMPS.contains (topName kd m) && topName kd m != but
noncomputable def popImp (kd : List (Str × Str)) (but : Str) : Nat → Nat
  | 0 => 0
  | m + 1 => if goes kd but (m + 1) then popImp kd but m else m + 1
theorem popImp_le (kd : List (Str × Str)) (but : Str) : ∀ m, popImp kd but m ≤ m
  | 0 => Nat.le_refl _
  | m + 1 => by
    unfold popImp
    split
    · exact Nat.le_succ_of_le (popImp_le kd but m)
    · exact Nat.le_refl _
theorem goes_zero (kd : List (Str × Str)) (but : Str) : goes kd but 0 = false := by
  unfold goes
  have : IMPS.contains s_ = false := by decide +kernel
  show (IMPS.contains s_ && _) = false
  rw [this]; rfl
theorem popImp_stay {kd : List (Str × Str)} {but : Str} {m : Nat} (h : goes kd but m = false) : popImp kd but m = m := by
  cases m with
  | zero => rfl
  | succ m => unfold popImp; rw [h]; rfl
theorem popImp_go {kd : List (Str × Str)} {but : Str} {m : Nat} (h : goes kd but (m + 1) = true) : popImp kd but (m + 1) = popImp kd but m := by
  conv => lhs; unfold popImp
  rw [h]; rfl

theorem sp_pop_implied {but : Str} (K : Kds kd nd SP NM) (s : Stk H st t it isp inm nd SP NM m) (p : ∀ H', Stk H' st t it isp inm nd SP NM (popImp kd but m) → Kp (· = it) H H' → P .none H') : CL (k + 3) 4 [.ref st, .str but] H P := by
  refine call_of rfl rfl ?_ (by decide)
  refine S_asg (E_call (Es_nil (sp_implied_names ?_)))
  have hit := lt_of s.hit
  refine S_whl (fun n l H' => l = [some (.ref st), some (.str but), some (.ref H.length)] ∧ Stk H' st t it isp inm nd SP NM n ∧ H'[H.length]? = some (.tup (IMPS.map V.str)) ∧ popImp kd but n = popImp kd but m ∧ Kp (· = it) H H')
    (n0 := m) ⟨rfl, s.keep (Kp.app _), last_app _ _, rfl, (Kp.app _)⟩ ?_
  rintro n l H' ⟨rfl, s', hq, he, hk⟩ Q qn qr
  obtain ⟨fs, a, _, _⟩ := s'.hst
  have step : goes kd but n = true → vcSs TAB (CL (k + 2)) (.cons (.expr (.meth (.loc 0) 0 .nil)) .nil) [some (.ref st), some (.str but), some (.ref H.length)] H' Q := by
    intro h
    cases n with
    | zero => rw [goes_zero] at h; cases h
    | succ n =>
      refine S_expr (E_meth rfl a rfl (Es_nil (sp_pop K s' ⟨nofun, nofun, S_nil (qn n _ _ (Nat.lt_succ_self n) ⟨rfl, s'.cut (Nat.le_succ n), ?_, by rw [← he, popImp_go h], hk.trans (Kp.set (S := fun x => x = it) rfl _)⟩)⟩)))
      rw [List.getElem?_set_ne (Nat.ne_of_lt hit)]; exact hq
  have stay : goes kd but n = false → Rf P .next [some (.ref st), some (.str but), some (.ref H.length)] H' := fun h => by
    rw [popImp_stay h] at he
    subst he
    exact p H' s' hk
  refine T_bool (b := goes kd but n) (E_and (E_cmp (E_meth rfl a rfl (Es_nil (sp_name K s' (E_loc rfl ⟨_, in_strs (items_tup hq) (by decide), _, rfl, ?_⟩)))))) (Cm_CL _)
  cases hc : IMPS.contains (topName kd n) with
  | false =>
    have hg : goes kd but n = false := by unfold goes; rw [hc]; rfl
    rw [if_neg (by decide)]
    exact ⟨by rw [hg], by rw [hg]; exact stay hg⟩
  | true =>
    rw [if_pos rfl]
    have hg : goes kd but n = (topName kd n != but) := by unfold goes; rw [hc]; rfl
    refine A_one (E_cmp (E_meth rfl a rfl (Es_nil (sp_name K s' (E_loc rfl ⟨_, ne_str _ _ _, by rw [hg], ?_⟩)))))
    cases hg' : goes kd but n with
    | true => exact step hg'
    | false => exact stay hg'

theorem curV_ne (K : Kds kd nd SP NM) {q n : Nat} (hq : q < nd.length) (hn : n ≤ nd.length) (h : q < n) : curV nd n = .int ((nd[q]?).getD 0 : Nat) ↔ n = q + 1 := by
  cases n with
  | zero => omega
  | succ n =>
    have hn' : n < nd.length := by omega
    show V.int ((nd[n]?).getD 0 : Nat) = _ ↔ _
    rw [List.getElem?_eq_getElem hn', List.getElem?_eq_getElem hq]
    simp only [Option.getD_some, V.int.injEq]
    constructor
    · intro e
      have e2 : nd[n] = nd[q] := by omega
      have := (List.getElem_inj K.nodup).mp e2
      omega
    · intro e
      have : n = q := by omega
      subst this; rfl

theorem sp_pop_with {q : Nat} (K : Kds kd nd SP NM) (s : Stk H st t it isp inm nd SP NM m) (hq : q < m) (p : ∀ H', Stk H' st t it isp inm nd SP NM q → Kp (· = it) H H' → P .none H') : CL (k + 2) 5 [.ref st, .int ((nd[q]?).getD 0 : Nat)] H P := by
  refine call_of rfl rfl ?_ (by decide)
  have hql : q < nd.length := by have := s.hle; omega
  refine S_whl (fun n l H' => l = [some (.ref st), some (.int ((nd[q]?).getD 0 : Nat))] ∧ Stk H' st t it isp inm nd SP NM n ∧ q < n ∧ Kp (· = it) H H') (n0 := m) ⟨rfl, s, hq, Kp.refl⟩ ?_
  rintro n l H' ⟨rfl, s', hn, hk⟩ Q qn qr
  obtain ⟨fs, a, _, _⟩ := s'.hst
  obtain ⟨n, rfl⟩ : ∃ n', n = n' + 1 := ⟨n - 1, by omega⟩
  refine T_bool (b := !(curV nd (n + 1) == .int ((nd[q]?).getD 0 : Nat))) (E_cmp (E_meth rfl a rfl (Es_nil (sp_current K s' (E_loc rfl ⟨_, ne_int _ _ _, ?_, ?_⟩))))) (Cm_CL _)
  · have : ∀ a b : Int, (a != b) = !(V.int a == V.int b) := fun a b => by
      by_cases h : a = b
      · subst h; simp
      · have : (V.int a == V.int b) = false := beq_eq_false_iff_ne.mpr fun e => h (V.int.inj e)
        rw [this]; simpa using h
    rw [this]; rfl
  · by_cases h : curV nd (n + 1) = .int ((nd[q]?).getD 0 : Nat)
    · have e := (curV_ne K hql s'.hle hn).mp h
      obtain rfl : n = q := by omega
      rw [h]
      simp only [beq_self_eq_true, Bool.not_true, Bool.false_eq_true, if_false]
      refine S_expr (E_meth rfl a rfl (Es_nil (sp_pop K s' ⟨nofun, nofun, S_nil (p _ (s'.cut (Nat.le_succ n)) (hk.trans (Kp.set (S := fun x => x = it) rfl _)))⟩)))
    · have hb : (curV nd (n + 1) == V.int ((nd[q]?).getD 0 : Nat)) = false := beq_eq_false_iff_ne.mpr h
      have hne : n ≠ q := fun e => h ((curV_ne K hql s'.hle hn).mpr (by omega))
      rw [hb]
      simp only [Bool.not_false, if_true]
      exact S_expr (E_meth rfl a rfl (Es_nil (sp_pop K s' ⟨nofun, nofun, S_nil (qn n _ _ (Nat.lt_succ_self n) ⟨rfl, s'.cut (Nat.le_succ n), by omega, hk.trans (Kp.set (S := fun x => x = it) rfl _)⟩)⟩)))
end
end Mine
end
section
open PySem PySem.W PySem.Calls PyProof.Rows
namespace Mine

/-! ## the builder -/
structure Bld (H : AH) (b t st er : Nat) (ws : List Str) : Prop where
  hb : ∃ fb, H[b]? = some (.inst 3 fb) ∧ lk 0 fb = some (.ref t) ∧ lk 11 fb = some (.ref st) ∧ lk 24 fb = some (.ref er) ∧ lk 13 fb = some (.str s_inXbody)
  her : ∃ es : List Nat, H[er]? = some (.list (es.map V.ref)) ∧ es.length = ws.length ∧ ∀ (j e : Nat) (w : Str), es[j]? = some e → ws[j]? = some w → H[e]? = some (.tup [.str w, .str s_inXbody])
  small : ws.length ≤ 1000
theorem Bld.keep {S : Nat → Prop} {H H' : AH} {b t st er : Nat} {ws : List Str} (s : Bld H b t st er ws) (g : Kp S H H') (h1 : ¬ S b) (h2 : ¬ S er) (h3 : ∀ i, S i → ∃ vs, H[i]? = some (.list vs)) : Bld H' b t st er ws := by
  obtain ⟨⟨fb, a, b⟩, ⟨es, c, d, e⟩, f⟩ := s
  refine ⟨⟨fb, g.get a h1, b⟩, ⟨es, g.get c h2, d, fun j x w hx hw => ?_⟩, f⟩
  have := e j x w hx hw
  refine g.get this fun hs => ?_
  obtain ⟨vs, hv⟩ := h3 x hs
  rw [this] at hv; cases hv
structure Sys (H : AH) (b st t it er isp inm : Nat) (nd : List Nat) (SP NM : List Str) (m : Nat) (ws : List Str) : Prop where
  stk : Stk H st t it isp inm nd SP NM m
  bld : Bld H b t st er ws
  e1 : er ≠ st
  e2 : er ≠ t
  e3 : er ≠ isp
  e4 : er ≠ inm
  e5 : er ≠ it
  e6 : it ≠ b
  e7 : er ≠ b
section
variable {H H' : AH} {b st t it er isp inm m k : Nat} {kd : List (Str × Str)} {nd : List Nat} {SP NM : List Str} {P : V → AH → Prop} {ws : List Str}

/-- the stack alone has turned -/
theorem Sys.turn (s : Sys H b st t it er isp inm nd SP NM m ws) {m' : Nat} (s' : Stk H' st t it isp inm nd SP NM m') (g : Kp (· = it) H H') : Sys H' b st t it er isp inm nd SP NM m' ws :=
  ⟨s', s.bld.keep g (fun e => s.e6 e.symm) s.e5 (fun i hi => by
    cases (show i = it from hi)
    exact ⟨_, s.stk.hit⟩), s.e1, s.e2, s.e3, s.e4, s.e5, s.e6, s.e7⟩
theorem Sys.keep (s : Sys H b st t it er isp inm nd SP NM m ws) (g : Gr H H') : Sys H' b st t it er isp inm nd SP NM m ws := s.turn (s.stk.keep g) g.any

theorem sp_error {w : Str} (s : Sys H b st t it er isp inm nd SP NM m ws) (hw : ws.length < 1000) (p : ∀ H', Sys H' b st t it er isp inm nd SP NM m (ws ++ [w]) → Kp (· = er) H H' → P .none H') : CL (k + 1) 35 [.ref b, .str w] H P := by
  obtain ⟨fb, a, b1, b2, b3, b4⟩ := s.bld.hb
  obtain ⟨es, c, d, e⟩ := s.bld.her
  have g : Gr H (H ++ [AObj.tup [.str w, .str s_inXbody]]) := Kp.app _
  have g2 : Kp (fun x => x = er) (H ++ [AObj.tup [.str w, .str s_inXbody]]) ((H ++ [AObj.tup [.str w, .str s_inXbody]]).set er (.list (es.map V.ref ++ [V.ref H.length]))) := Kp.set (S := fun x => x = er) rfl _
  have gg := g.any.trans g2
  have her := lt_of c
  refine call_of rfl rfl ?_ (by decide)
  refine S_expr (E_app (E_attr rfl a b3 ⟨by rw [getL_list c]; rfl, E_tup (Es_cons (E_loc rfl (Es_cons (E_attr rfl a b4 (Es_nil ⟨two_lid, er, es.map V.ref, rfl, g.g c, ?_, nofun, nofun, ?_⟩)))))⟩))
  · rw [List.length_map, d]; have := s.bld.small; unfold lid; omega
  · refine S_nil (p _ ⟨?_, ?_, s.e1, s.e2, s.e3, s.e4, s.e5, s.e6, s.e7⟩ gg)
    · obtain ⟨⟨fs, x1, x2⟩, ⟨ft, y1, y2⟩, z1, z2, z3, z4, z5⟩ := s.stk
      exact ⟨⟨fs, gg.get x1 s.e1.symm, x2⟩, ⟨ft, gg.get y1 s.e2.symm, y2⟩, gg.get z1 s.e3.symm, gg.get z2 s.e4.symm, gg.get z3 s.e5.symm, z4, z5⟩
    · refine ⟨⟨fb, gg.get a s.e7.symm, b1, b2, b3, b4⟩, ⟨es ++ [H.length], ?_, by simp [d], fun j x w' hx hw' => ?_⟩, by simp; omega⟩
      · rw [List.getElem?_set_self (by simp; omega), List.map_append]; rfl
      · by_cases hj : j < es.length
        · rw [List.getElem?_append_left hj] at hx
          rw [List.getElem?_append_left (by omega)] at hw'
          have hx' := e j x w' hx hw'
          refine gg.get hx' fun z => ?_
          rw [show x = er from z, c] at hx'; cases hx'
        · rw [List.getElem?_append_right (by omega)] at hx
          rw [List.getElem?_append_right (by omega)] at hw'
          have h0 : j - es.length = 0 := by
            have := (List.getElem?_eq_some_iff.mp hx).1
            simp at this; omega
          rw [h0] at hx
          rw [← d, h0] at hw'
          cases hx; cases hw'
          rw [List.getElem?_set_ne (Nat.ne_of_lt her)]
          exact last_app _ _

theorem sp_is_html {q : Nat} {kq : Str × Str} {nm : Str} (K : Kds kd nd SP NM) (s : Stk H st t it isp inm nd SP NM m) (hq : kd[q]? = some kq) (p : P (.bool (kq.1 == s_html && kq.2 == nm)) H) :
    CL (k + 1) 33 [.ref t, .int ((nd[q]?).getD 0 : Nat), .str nm] H P := by
  obtain ⟨ft, d, e, f⟩ := s.htr
  have hql : q < nd.length := by rw [← K.len]; exact (List.getElem?_eq_some_iff.mp hq).1
  have en : nd[q]? = some nd[q] := List.getElem?_eq_getElem hql
  obtain ⟨hs, hn⟩ := K.at_ q kq nd[q] hq en
  have hS : (SP.map V.str)[nd[q]]? = some (.str kq.1) := by rw [List.getElem?_map, hs]; rfl
  have hN : (NM.map V.str)[nd[q]]? = some (.str kq.2) := by rw [List.getElem?_map, hn]; rfl
  rw [en]
  refine call_of rfl rfl ?_ (by decide)
  have hne : (((nd[q] : Nat) : Int) != -1) = true := by
    have : ((nd[q] : Nat) : Int) ≠ -1 := by omega
    simpa using this
  refine S_ret (E_and (E_cmp (E_loc rfl (E_neg ⟨_, ne_int _ _ _, true, by show some _ = some true; rw [← hne]; rfl, ?_⟩))))
  rw [if_pos rfl]
  refine A_cons (E_cmp (E_idx (E_attr rfl d e (E_loc rfl ⟨_, at_front (items_list s.hsp) (by simpa using K.spl) hS, ⟨_, eq_str _ _ _, _, rfl, ?_⟩⟩))))
  cases hb : kq.1 == s_html with
  | false => rw [hb, Bool.false_and] at p; exact p
  | true =>
    rw [hb, Bool.true_and] at p
    exact A_one (E_cmp (E_idx (E_attr rfl d f (E_loc rfl ⟨_, at_front (items_list s.hnm) (by simpa using K.nml) hN, E_loc rfl ⟨_, eq_str _ _ _, p⟩⟩))))

/-- what any_other_end leaves: how many, and the words told -/
noncomputable def endScan (kd : List (Str × Str)) (name : Str) (M : Nat) : Nat → Nat × List Str
  | 0 => (M, [])
  | n + 1 => match kd[n]? with
    | some k => if k.1 == s_html && k.2 == name then (n, if popImp kd name M = n + 1 then [] else [s_openXelements]) else if spB k then (M, [s_unexpectedXendXtag]) else endScan kd name M n
    | none => (M, [])

theorem popImp_above {name : Str} {q : Nat} {kq : Str × Str} (hq : kd[q]? = some kq) (h1 : kq.1 = s_html) (h2 : kq.2 = name) : ∀ m, q < m → q < popImp kd name m
  | 0, h => by omega
  | m + 1, h => by
    unfold popImp
    by_cases hm : m = q
    · subst hm
      have : goes kd name (m + 1) = false := by
        unfold goes
        have : topName kd (m + 1) = name := by
          show (match kd[m]? with
            | some k => if k.1 = s_html then k.2 else s_
            | none => s_) = _
          rw [hq]
          dsimp only
          rw [if_pos h1, h2]
        rw [this]; simp
      rw [this]; exact h
    · split
      · exact popImp_above hq h1 h2 m (by omega)
      · exact h

theorem sp_end {name : Str} (K : Kds kd nd SP NM) (s : Sys H b st t it er isp inm nd SP NM m ws) (hw : ws.length < 1000)
    (p : ∀ H', Sys H' b st t it er isp inm nd SP NM (endScan kd name m m).1 (ws ++ (endScan kd name m m).2) → Kp (fun x => x = it ∨ x = er) H H' → P .none H') : CL (k + 4) 6 [.ref b, .str name] H P := by
  obtain ⟨fb, a, b1, b2, b3, b4⟩ := s.bld.hb
  obtain ⟨fs, a', _, c'⟩ := s.stk.hst
  refine call_of rfl rfl ?_ (by decide)
  refine S_asg (E_attr rfl a b1 (S_asg (E_attr rfl a b2 (S_asg (E_bin (E_meth rfl a' rfl (Es_nil (sp_many K s.stk ⟨_, rfl, ?_⟩))))))))
  refine S_whl (fun n l H' => (∃ x, l = [some (.ref b), some (.str name), some (.ref t), some (.ref st), some (.int ((n : Int) - 1)), x]) ∧ n ≤ m ∧ Sys H' b st t it er isp inm nd SP NM m ws ∧ endScan kd name m n = endScan kd name m m ∧ Gr H H')
    (n0 := m) ⟨⟨_, rfl⟩, Nat.le_refl _, s, rfl, Kp.refl⟩ ?_
  rintro n l H' ⟨⟨x, rfl⟩, hn, s', he, hk⟩ Q qn qr
  obtain ⟨fb, a, b1, b2, b3, b4⟩ := s'.bld.hb
  obtain ⟨fs, a', b', c'⟩ := s'.stk.hst
  obtain ⟨ft, d, e, f⟩ := s'.stk.htr
  refine T_bool (b := decide ((n : Int) - 1 ≥ 0)) (E_cmp (E_loc rfl ⟨_, rfl, rfl, ?_⟩)) (Cm_CL _)
  cases n with
  | zero =>
    rw [if_neg (by decide)]
    have he0 : endScan kd name m m = (m, []) := he.symm
    refine S_nil (p H' ?_ hk.any)
    rw [he0, List.append_nil]
    exact s'
  | succ n =>
    have hnl : n < nd.length := by have := s.stk.hle; omega
    have hnk : n < kd.length := by rw [K.len]; exact hnl
    have ek : kd[n]? = some kd[n] := List.getElem?_eq_getElem hnk
    have en : nd[n]? = some nd[n] := List.getElem?_eq_getElem hnl
    rw [if_pos (by simp)]
    have hat : ((n + 1 : Nat) : Int) - 1 = (n : Int) := by omega
    rw [hat]
    have hitm : (nodesV (nd.take m))[n]? = some (.int ((nd[n]?).getD 0 : Nat)) := by
      rw [List.getElem?_map, List.getElem?_take, if_pos (by omega), en]; rfl
    have hl := lid_of K s'.stk
    refine S_asg (E_idx (E_attr rfl a' c' (E_loc rfl ⟨_, at_front (items_list s'.stk.hit) hl hitm, ?_⟩)))
    have hes : endScan kd name m (n + 1) = if kd[n].1 == s_html && kd[n].2 == name then (n, if popImp kd name m = n + 1 then [] else [s_openXelements]) else if spB kd[n] then (m, [s_unexpectedXendXtag]) else endScan kd name m n := by
      conv => lhs; unfold endScan
      rw [ek]
    refine S_ife (kd[n].1 == s_html && kd[n].2 == name) (Cm_CL _) (E_meth rfl d rfl (Es_cons (E_loc rfl (Es_cons (E_loc rfl (Es_nil (sp_is_html K s'.stk ek ⟨rfl, fun h => ?_, fun h => ?_⟩)))))))
    · -- the element itself
      rw [hes, if_pos h] at he
      obtain ⟨h1, h2⟩ := Bool.and_eq_true_iff.mp h
      have habove := popImp_above ek (eq_of_beq h1) (eq_of_beq h2) m (by omega)
      refine S_expr (E_call (Es_cons (E_loc rfl (Es_cons (E_loc rfl (Es_nil (sp_pop_implied (but := name) K s'.stk fun H2 s2 g2 => ⟨nofun, nofun, ?_⟩)))))))
      have S2 := s'.turn s2 g2
      obtain ⟨fb2, aa, bb1, bb2, bb3, bb4⟩ := S2.bld.hb
      obtain ⟨fs2, aa', _, cc'⟩ := s2.hst
      have hg2 : Kp (fun x => x = it ∨ x = er) H H2 := hk.any.trans (g2.mono fun i h _ => .inl h)
      have hcur := curV_ne K hnl s2.hle habove
      have last : ∀ (Q2 : Fl → Loc → AH → Prop), (∀ v l' H', Rf P (.ret v) l' H' → Q2 (.ret v) l' H') → ∀ H3 ws', Sys H3 b st t it er isp inm nd SP NM (popImp kd name m) ws' → Kp (fun x => x = it ∨ x = er) H H3 → ws' = ws ++ (endScan kd name m m).2 →
          vcSs TAB (CL (k + 3)) (.cons (.expr (.call 5 (.cons (.loc 3) (.cons (.loc 5) .nil)))) (.cons .retN .nil)) [some (.ref b), some (.str name), some (.ref t), some (.ref st), some (.int (n : Int)), some (.int ((nd[n]?).getD 0 : Nat))] H3 Q2 := by
        intro Q2 q2 H3 ws' S3 g3 hws
        refine S_expr (E_call (Es_cons (E_loc rfl (Es_cons (E_loc rfl (Es_nil (sp_pop_with K S3.stk habove fun H4 s4 g4 => ⟨nofun, nofun, S_retN (q2 _ _ _ ?_)⟩)))))))
        refine p H4 ?_ (g3.trans (g4.mono fun i h _ => .inl h))
        rw [← hws, ← he]
        exact S3.turn s4 g4
      refine S_ife (!(curV nd (popImp kd name m) == .int ((nd[n]?).getD 0 : Nat))) (Cm_CL _) (E_cmp (E_meth rfl aa' rfl (Es_nil (sp_current K s2 (E_loc rfl ⟨_, ?_, rfl, fun h => ?_, fun h => ?_⟩)))))
      · obtain ⟨j, hj⟩ : ∃ j : Int, curV nd (popImp kd name m) = .int j := by
          cases popImp kd name m with
          | zero => exact ⟨_, rfl⟩
          | succ j => exact ⟨_, rfl⟩
        rw [hj, ne_int]
        congr 1
        by_cases h : j = ((nd[n]?).getD 0 : Nat)
        · subst h; simp
        · have : (V.int j == V.int ((nd[n]?).getD 0 : Nat)) = false := beq_eq_false_iff_ne.mpr fun e => h (V.int.inj e)
          rw [this]; simpa using h
      · have hne : ¬ popImp kd name m = n + 1 := fun e => by
          rw [hcur.mpr e] at h; simp at h
        refine S_expr (E_meth rfl aa rfl (Es_cons (E_cstr (Es_nil (sp_error (w := s_openXelements) S2 hw fun H3 S3 g3 => ⟨nofun, nofun, S_nil (last _ qr H3 _ S3 (hg2.trans (g3.mono fun i h _ => .inr h)) ?_)⟩)))))
        rw [← he, if_neg hne]
      · have he' : popImp kd name m = n + 1 := hcur.mp (by simpa using h)
        refine S_nil (last _ qr H2 ws S2 hg2 ?_)
        rw [← he, if_pos he']; simp
    · -- another one
      rw [hes, if_neg (by rw [h]; decide)] at he
      obtain ⟨hs, hn'⟩ := K.at_ n kd[n] nd[n] ek en
      have hS : (SP.map V.str)[(nd[n]?).getD 0]? = some (.str kd[n].1) := by rw [List.getElem?_map, en]; show Option.map _ SP[nd[n]]? = _; rw [hs]; rfl
      have hN : (NM.map V.str)[(nd[n]?).getD 0]? = some (.str kd[n].2) := by rw [List.getElem?_map, en]; show Option.map _ NM[nd[n]]? = _; rw [hn']; rfl
      refine S_nil (S_ife (spB kd[n]) (Cm_CL _) (E_call (Es_cons (E_idx (E_attr rfl d e (E_loc rfl ⟨_, at_front (items_list s'.stk.hsp) (by simpa using K.spl) hS, Es_cons (E_idx (E_attr rfl d f (E_loc rfl ⟨_, at_front (items_list s'.stk.hnm) (by simpa using K.nml) hN, Es_nil (sp_is_special ⟨rfl, fun h' => ?_, fun h' => ?_⟩)⟩)))⟩))))))
      · rw [if_pos h'] at he
        refine S_expr (E_meth rfl a rfl (Es_cons (E_cstr (Es_nil (sp_error (w := s_unexpectedXendXtag) s' hw fun H3 S3 g3 => ⟨nofun, nofun, S_retN (qr _ _ _ (p H3 ?_ (hk.any.trans (g3.mono fun i h _ => .inr h))))⟩)))))
        rw [← he]; exact S3
      · rw [if_neg (by rw [h']; decide)] at he
        refine S_nil ⟨_, rfl, ⟨n, 1, rfl, rfl, _, rfl, S_nil (qn n _ _ (Nat.lt_succ_self n) ⟨⟨_, rfl⟩, by omega, s', he, hk⟩)⟩⟩
end
end Mine
end
section
open PySem PySem.W PySem.Calls PyProof.Rows
namespace Mine
section
variable {H H' : AH} {b st t it er isp inm m k : Nat} {kd : List (Str × Str)} {nd : List Nat} {SP NM : List Str} {P : V → AH → Prop} {ws : List Str}

/-- a node's tables -/
theorem node_at {q : Nat} (K : Kds kd nd SP NM) (hq : q < nd.length) : ∃ (kq : Str × Str) (n : Nat), kd[q]? = some kq ∧ nd[q]? = some n ∧ (SP.map V.str)[n]? = some (.str kq.1) ∧ (NM.map V.str)[n]? = some (.str kq.2) := by
  have hk : q < kd.length := by rw [K.len]; exact hq
  have ek : kd[q]? = some kd[q] := List.getElem?_eq_getElem hk
  have en : nd[q]? = some nd[q] := List.getElem?_eq_getElem hq
  obtain ⟨hs, hn⟩ := K.at_ q _ _ ek en
  exact ⟨kd[q], nd[q], ek, en, by rw [List.getElem?_map, hs]; rfl, by rw [List.getElem?_map, hn]; rfl⟩

theorem sp_stops {q : Nat} {kq : Str × Str} {n : Nat} (K : Kds kd nd SP NM) (s : Stk H st t it isp inm nd SP NM m) (hS : (SP.map V.str)[n]? = some (.str kq.1)) (hN : (NM.map V.str)[n]? = some (.str kq.2)) (p : P (.bool (enB kq)) H) :
    CL (k + 1) 2 [.ref t, .int n, .str s_button] H P := by
  obtain ⟨ft, d, e, f⟩ := s.htr
  have c1 : (s_button == s_select) = false := by decide +kernel
  have c2 : (s_button == s_table) = false := by decide +kernel
  have c3 : (s_button == s_listXitem) = false := by decide +kernel
  refine call_of rfl rfl ?_ (by decide)
  refine S_asg (E_idx (E_attr rfl d e (E_loc rfl ⟨_, at_front (items_list s.hsp) (by simpa using K.spl) hS, ?_⟩)))
  refine S_asg (E_idx (E_attr rfl d f (E_loc rfl ⟨_, at_front (items_list s.hnm) (by simpa using K.nml) hN, ?_⟩)))
  refine S_ife false (Cm_CL k) (E_cmp (E_loc rfl ⟨_, eq_str _ _ _, by rw [c1], fun h => (by cases h), fun _ => S_nil ?_⟩))
  refine S_ife false (Cm_CL k) (E_cmp (E_loc rfl ⟨_, eq_str _ _ _, by rw [c2], fun h => (by cases h), fun _ => S_nil ?_⟩))
  unfold enB at p
  refine S_ife (kq.1 == s_math) (Cm_CL k) (E_cmp (E_loc rfl ⟨_, eq_str _ _ _, rfl, fun h => ?_, fun h => S_nil ?_⟩))
  · rw [if_pos (eq_of_beq h)] at p
    exact S_ret ⟨_, rfl, _, rfl, by rw [Bool.false_xor]; exact p⟩
  · rw [if_neg (by simpa using h)] at p
    refine S_ife (kq.1 == s_svg) (Cm_CL k) (E_cmp (E_loc rfl ⟨_, eq_str _ _ _, rfl, fun h => ?_, fun h => S_nil ?_⟩))
    · rw [if_pos (eq_of_beq h)] at p
      exact S_ret ⟨_, rfl, _, rfl, by rw [Bool.false_xor]; exact p⟩
    · rw [if_neg (by simpa using h)] at p
      refine S_ife (ENDS.contains kq.2) (Cm_CL k) ⟨_, rfl, _, rfl, by rw [Bool.false_xor], fun h => ?_, fun h => S_nil ?_⟩
      · rw [h, Bool.true_or] at p
        exact S_ret p
      · rw [h, Bool.false_or] at p
        refine S_ife false (Cm_CL k) (E_cmp (E_loc rfl ⟨_, eq_str _ _ _, by rw [c3], fun h => (by cases h), fun _ => S_nil ?_⟩))
        exact S_ret (E_and (E_cmp (E_loc rfl ⟨_, eq_str _ _ _, true, by rw [beq_self_eq_true]; rfl, A_one (E_cmp (E_loc rfl ⟨_, eq_str _ _ _, p⟩))⟩)))

/-- is a p in scope? -/
noncomputable def scanP (kd : List (Str × Str)) : Nat → Bool
  | 0 => false
  | n + 1 => match kd[n]? with
    | some k => if k.1 == s_html && k.2 == s_p then true else if enB k then false else scanP kd n
    | none => false

theorem sp_in_scope {q : Nat} (K : Kds kd nd SP NM) (s : Stk H st t it isp inm nd SP NM m) (hq : H[q]? = some (.tup [.str s_p])) (p : ∀ H', Gr H H' → P (.bool (scanP kd m)) H') : CL (k + 3) 3 [.ref st, .ref q, .str s_button] H P := by
  obtain ⟨fs, a, b, c⟩ := s.hst
  have hm := s.hle
  have hsm := K.small
  refine call_of rfl rfl ?_ (by decide)
  refine S_asg (E_attr rfl a b ?_)
  refine S_forD (E_bin (E_meth rfl a rfl (Es_nil (sp_many K s ⟨_, rfl, E_neg ⟨_, _, rfl, rfl, ?_, ?_, by decide, by decide, ?_⟩⟩))))
  · show -(lid : Int) ≤ (m : Int) - 1; unfold lid; omega
  · show (m : Int) - 1 ≤ lid; unfold lid; omega
  have hlen : (downL ((m : Int) - 1) (-1)).length = m := by unfold downL; simp
  refine for_inv (Cm_CL _) (fun j l H' => (∃ x y, l = [some (.ref st), some (.ref q), some (.str s_button), some (.ref t), x, y]) ∧ Gr H H' ∧ scanP kd (m - j) = scanP kd m ∧ j ≤ m) ?_ ?_ ⟨⟨_, _, rfl⟩, Kp.refl, rfl, Nat.zero_le _⟩
  · rintro j x l H' hx ⟨⟨x0, y0, rfl⟩, hk, hs, hj⟩ Q qn qr
    have hjm : j < m := by rw [← hlen]; exact (List.getElem?_eq_some_iff.mp hx).1
    obtain ⟨n, hn⟩ := Nat.exists_eq_add_one_of_ne_zero (Nat.sub_ne_zero_of_lt hjm)
    have hxv : x = .int (n : Int) := by
      unfold downL at hx
      rw [List.getElem?_map, List.getElem?_range (by omega)] at hx
      simp only [Option.map_some, Option.some.injEq] at hx
      rw [← hx]
      congr 1; omega
    subst hxv
    have s' := s.keep hk
    obtain ⟨fs, a, b, c⟩ := s'.hst
    obtain ⟨ft, d, e, f⟩ := s'.htr
    have hnl : n < nd.length := by omega
    obtain ⟨kq, nn, ek, en, hS, hN⟩ := node_at K hnl
    have hitm : (nodesV (nd.take m))[n]? = some (.int (nn : Int)) := by
      rw [List.getElem?_map, List.getElem?_take, if_pos (by omega), en]; rfl
    have hsc : scanP kd (m - j) = if kq.1 == s_html && kq.2 == s_p then true else if enB kq then false else scanP kd n := by
      rw [hn]; conv => lhs; unfold scanP
      rw [ek]
    rw [hsc] at hs
    have hin : opCmp .isin (.str kq.2) (.ref q) H' = some (kq.2 == s_p) := by
      rw [in_strs (ss := [s_p]) (items_tup (hk.g hq)) (by decide)]
      rw [List.contains_cons, List.contains_nil, Bool.or_false]
    refine S_asg (E_idx (E_attr rfl a c (E_loc rfl ⟨_, at_front (items_list s'.hit) (lid_of K s') hitm, ?_⟩)))
    have next : (if enB kq then false else scanP kd n) = scanP kd m → vcSs TAB (CL (k + 2)) (.cons (.ife (.call 2 (.cons (.loc 3) (.cons (.loc 5) (.cons (.loc 2) .nil)))) (.cons (.ret (.cbool false)) .nil) .nil) .nil) [some (.ref st), some (.ref q), some (.str s_button), some (.ref t), some (.int (n : Int)), some (.int (nn : Int))] H' Q := by
      intro hs
      refine S_ife (enB kq) (Cm_CL _) (E_call (Es_cons (E_loc rfl (Es_cons (E_loc rfl (Es_cons (E_loc rfl (Es_nil (sp_stops (q := n) K s' hS hN ⟨rfl, fun h => ?_, fun h => S_nil (S_nil (qn _ _ trivial ⟨⟨_, _, rfl⟩, hk, ?_, by omega⟩))⟩)))))))))
      · rw [if_pos h] at hs
        exact S_ret (qr _ _ _ (by have := p H' hk; rw [← hs] at this; exact this))
      · rw [if_neg (by rw [h]; decide)] at hs
        rw [← hs]; congr 1; omega
    refine S_ife (kq.1 == s_html && kq.2 == s_p) (Cm_CL _) (E_and (E_cmp (E_idx (E_attr rfl d e (E_loc rfl ⟨_, at_front (items_list s'.hsp) (by simpa using K.spl) hS, ⟨_, eq_str _ _ _, _, rfl, ?_⟩⟩)))))
    cases h1 : kq.1 == s_html with
    | false =>
      rw [if_neg (by decide)]
      rw [h1, Bool.false_and, if_neg (by decide)] at hs
      exact ⟨by rw [Bool.false_and], fun h => (by cases h), fun _ => S_nil (next hs)⟩
    | true =>
      rw [if_pos rfl]
      rw [h1, Bool.true_and] at hs
      refine A_one (E_cmp (E_idx (E_attr rfl d f (E_loc rfl ⟨_, at_front (items_list s'.hnm) (by simpa using K.nml) hN, E_loc rfl ⟨_, hin, ?_⟩⟩))))
      refine ⟨by rw [Bool.true_and], fun h => ?_, fun h => S_nil (next ?_)⟩
      · rw [Bool.true_and] at h
        rw [if_pos h] at hs
        exact S_ret (qr _ _ _ (by have := p H' hk; rw [← hs] at this; exact this))
      · rw [Bool.true_and] at h
        rw [if_neg (by rw [h]; decide)] at hs
        exact hs
  · rintro l H' ⟨_, hk, hs, _⟩
    rw [hlen, Nat.sub_self] at hs
    exact S_ret (by have := p H' hk; rw [← hs] at this; exact this)

/-- what is left behind the last p -/
noncomputable def popP (kd : List (Str × Str)) : Nat → Nat
  | 0 => 0
  | n + 1 => if topName kd (n + 1) == s_p then n else popP kd n

theorem sp_pop_until {q : Nat} (K : Kds kd nd SP NM) (s : Stk H st t it isp inm nd SP NM m) (hq : H[q]? = some (.tup [.str s_p])) (hqi : q ≠ it) (p : ∀ H' i, Stk H' st t it isp inm nd SP NM (popP kd m) → Kp (· = it) H H' → P (.int i) H') :
    CL (k + 3) 25 [.ref st, .ref q] H P := by
  refine call_of rfl rfl ?_ (by decide)
  refine S_whl (fun n l H' => (∃ x y, l = [some (.ref st), some (.ref q), x, y]) ∧ Stk H' st t it isp inm nd SP NM n ∧ popP kd n = popP kd m ∧ Kp (· = it) H H') (n0 := m) ⟨⟨_, _, rfl⟩, s, rfl, Kp.refl⟩ ?_
  rintro n l H' ⟨⟨x, y, rfl⟩, s', he, hk⟩ Q qn qr
  obtain ⟨fs, a, b, c⟩ := s'.hst
  refine T_bool (b := decide ((n : Int) > 0)) (E_cmp (E_len (E_attr rfl a c ⟨_, items_list s'.hit, lid_of K s', ⟨_, rfl, by rw [s'.len], ?_⟩⟩))) (Cm_CL _)
  cases n with
  | zero =>
    rw [if_neg (by decide)]
    exact S_ret (E_neg (p H' _ (he ▸ s') hk))
  | succ n =>
    rw [if_pos (by simp)]
    have hn : n < nd.length := by have := s'.hle; omega
    have hp : popP kd (n + 1) = if topName kd (n + 1) == s_p then n else popP kd n := rfl
    have hitm : H'[it]? = some (.list (nodesV (nd.take n) ++ [.int ((nd[n]?).getD 0 : Nat)])) := by
      rw [s'.hit, List.take_succ_eq_append_getElem hn, List.getElem?_eq_getElem hn]
      simp only [nodesV, List.map_append, List.map_cons, List.map_nil, Option.getD_some]
    have hl : (nodesV (nd.take n)).length ≤ lid := by have := K.small; simp [nodesV, lid]; omega
    have s2 := s'.cut (Nat.le_succ n)
    have k2 : Kp (fun x => x = it) H (H'.set it (.list (nodesV (nd.take n)))) := hk.trans (Kp.set (S := fun x => x = it) rfl _)
    have hin : opCmp .isin (.str (topName kd (n + 1))) (.ref q) (H'.set it (.list (nodesV (nd.take n)))) = some (topName kd (n + 1) == s_p) := by
      rw [in_strs (ss := [s_p]) (items_tup (k2.get hq hqi)) (by decide)]
      rw [List.contains_cons, List.contains_nil, Bool.or_false]
    refine S_asg (E_meth rfl a rfl (Es_nil (sp_name K s' (S_asg (E_pop (E_attr rfl a c ⟨it, _, _, rfl, hitm, hl, ?_⟩))))))
    refine S_ife (topName kd (n + 1) == s_p) (Cm_CL _) (E_cmp (E_loc rfl (E_loc rfl ⟨_, hin, rfl, fun h => ?_, fun h => S_nil (S_nil (qn n _ _ (Nat.lt_succ_self n) ⟨⟨_, _, rfl⟩, s2, ?_, k2⟩))⟩)))
    · rw [hp, if_pos h] at he
      exact S_ret (E_loc rfl (qr _ _ _ (p _ _ (he ▸ s2) k2)))
    · rw [hp, if_neg (by rw [h]; decide)] at he
      exact he

theorem sp_close_p (K : Kds kd nd SP NM) (s : Sys H b st t it er isp inm nd SP NM m ws) (hw : ws.length < 1000)
    (p : ∀ H', Sys H' b st t it er isp inm nd SP NM (popP kd (popImp kd s_p m)) (ws ++ if topName kd (popImp kd s_p m) = s_p then [] else [s_openXelements]) → Kp (fun x => x = it ∨ x = er) H H' → P .none H') : CL (k + 4) 8 [.ref b] H P := by
  obtain ⟨fb, a, b1, b2, b3, b4⟩ := s.bld.hb
  refine call_of rfl rfl ?_ (by decide)
  refine S_expr (E_call (Es_cons (E_attr rfl a b2 (Es_cons (E_cstr (Es_nil (sp_pop_implied (but := s_p) K s.stk fun H2 s2 g2 => ⟨nofun, nofun, ?_⟩)))))))
  have S2 := s.turn s2 g2
  obtain ⟨fb, a, b1, b2, b3, b4⟩ := S2.bld.hb
  obtain ⟨fs, a', b', c'⟩ := s2.hst
  have hg2 : Kp (fun x => x = it ∨ x = er) H H2 := g2.mono fun i h _ => .inl h
  have last : ∀ H3 ws', Sys H3 b st t it er isp inm nd SP NM (popImp kd s_p m) ws' → Kp (fun x => x = it ∨ x = er) H H3 → ws' = ws ++ (if topName kd (popImp kd s_p m) = s_p then [] else [s_openXelements]) →
      vcSs TAB (CL (k + 3)) (.cons (.expr (.meth (.attr (.loc 0) 11) 4 (.cons (.tup (.cons (.cstr s_p) .nil)) .nil))) .nil) [some (.ref b)] H3 (Rf P) := by
    intro H3 ws' S3 g3 hws
    obtain ⟨fb, a, b1, b2, b3, b4⟩ := S3.bld.hb
    obtain ⟨fs, a', b', c'⟩ := S3.stk.hst
    refine S_expr (E_methA rfl a b2 a' rfl (Es_cons (E_tup ⟨(show 1 ≤ lid by decide), Es_nil (sp_pop_until K (S3.stk.keep (Kp.app _)) (last_app _ _) ?_ fun H4 i s4 g4 => ⟨nofun, nofun, S_nil (p H4 ?_ ?_)⟩)⟩)))
    · exact Nat.ne_of_gt (lt_of S3.stk.hit)
    · have := (S3.keep (Kp.app [AObj.tup [V.str s_p]])).turn s4 g4
      rw [hws] at this; exact this
    · exact g3.trans ((Kp.app _).trans (g4.mono fun i h _ => .inl h))
  refine S_ife (topName kd (popImp kd s_p m) != s_p) (Cm_CL _) (E_cmp (E_methA rfl a b2 a' rfl (Es_nil (sp_name K s2 (E_cstr ⟨_, ne_str _ _ _, rfl, fun h => ?_, fun h => ?_⟩)))))
  · refine S_expr (E_meth rfl a rfl (Es_cons (E_cstr (Es_nil (sp_error (w := s_openXelements) S2 hw fun H3 S3 g3 => ⟨nofun, nofun, S_nil (last H3 _ S3 (hg2.trans (g3.mono fun i h _ => .inr h)) ?_)⟩)))))
    rw [if_neg (by simpa using h)]
  · refine S_nil (last H2 _ S2 hg2 ?_)
    rw [if_pos (by simpa using h), List.append_nil]
end
end Mine
end
section
open PySem PySem.W PySem.Calls PyProof.Rows
namespace Mine

/-! ## the law's own small defs -/
theorem add_str' {a b : Str} {H : AH} (h : a.length + b.length ≤ lid) : opBin .add (.str a) (.str b) H = some (.str (a ++ b), H) := by
  exact if_pos h
/-- words with one blank between them -/
noncomputable def wj : List Str → List Nat
  | [] => []
  | [w] => w.cps.toList
  | w :: ws => w.cps.toList ++ 32 :: wj ws
noncomputable def goodW (w : Str) : Bool := !w.cps.toList.isEmpty && w.cps.toList.all fun c => !Unicode.isSpace c
theorem step_word : ∀ (l : List Nat) (ws : List Str) (r : Str), (l.all fun c => !Unicode.isSpace c) = true → l.foldl KWd.step (ws, r) = (ws, r ++ ⟨l.toArray⟩)
  | [], ws, r, _ => by
    show (ws, r) = (ws, r ++ ⟨#[]⟩)
    rw [show r ++ (⟨#[]⟩ : Str) = r from Str.ext' (by rw [Str.cps_append]; exact Array.append_empty)]
  | c :: l, ws, r, h => by
    rw [List.all_cons, Bool.and_eq_true, Bool.not_eq_true'] at h
    rw [List.foldl_cons]
    have e : KWd.step (ws, r) c = (ws, r ++ ⟨#[c]⟩) := by
      unfold KWd.step
      rw [if_neg (by rw [h.1]; exact Bool.false_ne_true)]
    rw [e, step_word l ws _ h.2]
    congr 1
    refine Str.ext' ?_
    rw [Str.cps_append, Str.cps_append, Str.cps_append]
    apply Array.ext'
    simp
theorem str_of (w : Str) : (⟨w.cps.toList.toArray⟩ : Str) = w := Str.ext' (Array.toArray_toList)
theorem empty_app (w : Str) : Str.empty ++ w = w := Str.ext' (by rw [Str.cps_append]; exact Array.empty_append)
theorem ne_len {w : Str} (h : goodW w = true) : w.length ≠ 0 := fun e => by
  unfold goodW at h
  rw [KWd.len0 e] at h
  cases h
theorem words_run : ∀ (ws acc : List Str), ws.all goodW = true → KWd.fin ((wj ws).foldl KWd.step (acc, Str.empty)) = acc ++ ws
  | [], acc, _ => by
    show KWd.fin (acc, Str.empty) = _
    exact (if_pos rfl).trans (List.append_nil _).symm
  | [w], acc, h => by
    rw [List.all_cons, Bool.and_eq_true] at h
    show KWd.fin (w.cps.toList.foldl _ _) = _
    have hw := h.1
    unfold goodW at hw
    rw [step_word _ _ _ (Bool.and_eq_true_iff.mp hw).2, str_of, empty_app]
    unfold KWd.fin
    rw [if_neg (ne_len h.1)]
  | w :: w' :: ws, acc, h => by
    rw [List.all_cons, Bool.and_eq_true] at h
    show KWd.fin ((w.cps.toList ++ 32 :: wj (w' :: ws)).foldl _ _) = _
    have hw := h.1
    unfold goodW at hw
    rw [List.foldl_append, step_word _ _ _ (Bool.and_eq_true_iff.mp hw).2, str_of, empty_app, List.foldl_cons]
    have e : KWd.step (acc, w) 32 = (acc ++ [w], Str.empty) := by
      unfold KWd.step
      rw [if_pos (by decide +kernel), if_neg (ne_len h.1)]
    rw [e, words_run (w' :: ws) (acc ++ [w]) h.2, List.append_assoc]; rfl
theorem words_told {x : Str} {ws : List Str} (h : ws.all goodW = true) (e : x.cps.toList = wj ws) : Txt.words x = ws := by
  rw [KWd.words_scan]
  unfold KWd.scan
  rw [e]
  exact words_run ws [] h

noncomputable abbrev SPTXT : Str := s_addressXappletXareaXarti ++ s_X ++ s_colgroupXddXdetailsXdirX ++ s_X ++ s_h4Xh5Xh6XheadXheaderXhgr ++ s_X ++ s_noembedXnoframesXnoscrip ++ s_X ++ s_summaryXtableXtbodyXtdXt
theorem sptxt : Txt.words SPTXT = HTMLS := words_told (by decide +kernel) (by
  simp only [SPTXT, Str.cps_append, Array.toList_append]
  kernel_rfl)
noncomputable abbrev IMPL : List Str := [s_rt, s_rp, s_rb, s_rtc, s_option, s_optgroup, s_li, s_dd, s_dt, s_p]
theorem imptxt : Txt.words s_rtXrpXrbXrtcXoptionXoptg = IMPL := words_told (by decide +kernel) (by kernel_rfl)
noncomputable abbrev ENDL : List Str := [s_applet, s_button, s_caption, s_html, s_marquee, s_object, s_table, s_td, s_template, s_th]
theorem endtxt : Txt.words s_appletXbuttonXcaptionXht = ENDL := words_told (by decide +kernel) (by kernel_rfl)
theorem contains_perm {a b : List Str} (h : a.Perm b) (x : Str) : a.contains x = b.contains x := Bool.eq_iff_iff.mpr (by rw [List.contains_iff_mem, List.contains_iff_mem]; exact h.mem_iff)
theorem impl_eq (x : Str) : IMPL.contains x = IMPS.contains x := contains_perm (by decide +kernel) x
theorem endl_eq (x : Str) : ENDL.contains x = (ENDS.contains x || x == s_button) := by
  rw [contains_perm (b := s_button :: ENDS) (by decide +kernel), List.contains_cons, Bool.or_comm]

section
variable {T : Tab} {cl : Cl} {l : Loc} {H : AH} {P : V → AH → Prop}
theorem E_split {a : X} (h : vcE T cl a l H fun v H => ∃ s, v = .str s ∧ s.length ≤ lid ∧ P (.ref H.length) (H ++ [.list ((PySem.Txt.words s).map V.str)])) : vcE T cl (.split a) l H P := h
theorem E_comp {elt src cond : X} {slot : Nat} (h : vcE T cl src l H fun v H => ∃ xs, itemsOf v H = some xs ∧ xs.length ≤ lid ∧
      iterC (fun x H K => tst (vcE T cl cond (l.set slot (some x)) H) fun b H => if b then vcE T cl elt (l.set slot (some x)) H fun r H => K (some r) H else K none H) (fun H' => objOf v H' = objOf v H) xs [] H
        fun acc H => P (.ref H.length) (H ++ [.list acc])) : vcE T cl (.comp elt slot src cond) l H P := h
theorem E_compR {elt hi cond : X} {slot : Nat} (h : vcE T cl hi l H fun v H => ∃ n, v = .int n ∧ 0 ≤ n ∧ n ≤ lid ∧
      iterC (fun x H K => tst (vcE T cl cond (l.set slot (some x)) H) fun b H => if b then vcE T cl elt (l.set slot (some x)) H fun r H => K (some r) H else K none H) (fun _ => True) (upL n) [] H
        fun acc H => P (.ref H.length) (H ++ [.list acc])) : vcE T cl (.compR elt slot hi cond) l H P := h
theorem E_ite {c a b : X} (t : Bool) (C : Cm cl) (h : vcE T cl c l H fun v H' => v = .bool t ∧ (t = true → vcE T cl a l H' P) ∧ (t = false → vcE T cl b l H' P)) : vcE T cl (.ite c a b) l H P :=
  vcE_mono C c l H _ _ (fun v H' ⟨e, q1, q2⟩ => ⟨t, by rw [e]; rfl, by
    cases t with
    | true => exact q1 rfl
    | false => exact q2 rfl⟩) h
theorem E_cmp2 {a b c : X} {o p : Co} (h : vcE T cl a l H fun v H => vcE T cl b l H fun u H => ∃ r, opCmp o v u H = some r ∧
      (if r then vcE T cl c l H fun z H => ∃ q, opCmp p u z H = some q ∧ P (.bool q) H else P (.bool false) H)) : vcE T cl (.cmp2 a o b p c) l H P := h
theorem E_nil' {neg : Bool} {a : X} (h : vcE T cl a l H fun v H => ∃ vs, getL v H = some vs ∧ vs.length ≤ lid ∧ P (.bool (neg ^^ vs.isEmpty)) H) : vcE T cl (.nil neg a) l H P := h

/-- the items one by one, nothing else turning -/
theorem iterC_pure {f : V → AH → (Option V → AH → Prop) → Prop} {ok : AH → Prop} {Q : List V → AH → Prop} (r : V → Option V) {H0 : AH} : ∀ {xs acc : List V} {H : AH}, Gr H0 H → (∀ x ∈ xs, ∀ H, Gr H0 H → ∀ K : Option V → AH → Prop, (∀ H', Gr H H' → K (r x) H') → f x H K) →
    (∀ H, Gr H0 H → ok H) → acc.length + xs.length ≤ lid → (∀ H', Gr H0 H' → Q (acc ++ xs.filterMap r) H') → iterC f ok xs acc H Q
  | [], acc, H, g, _, _, _, p => by have := p H g; rwa [List.filterMap_nil, List.append_nil] at this
  | x :: xs, acc, H, g, st, hok, hl, p => by
    refine st x List.mem_cons_self H g _ fun H' g' => ⟨hok _ (g.trans g'), by omega, ?_⟩
    refine iterC_pure r (g.trans g') (fun y hy => st y (List.mem_cons_of_mem _ hy)) hok ?_ fun H'' g'' => ?_
    · simp only [List.length_append, List.length_cons] at hl ⊢
      cases r x <;> simp <;> omega
    · have := p H'' g''
      rw [List.filterMap_cons] at this
      cases hr : r x with
      | none => rw [hr] at this; simpa using this
      | some y => rw [hr] at this; simpa using this
end

section
variable {H : AH} {k : Nat} {P : V → AH → Prop}
theorem sp_specials (p : P (.ref H.length) (H ++ [.list (HTMLS.map V.str)])) : CL (k + 1) 10 [] H P := by
  refine call_of rfl rfl ?_ (by decide)
  refine S_asg (E_cstr (S_asg (E_cstr (S_asg (E_cstr (S_asg (E_cstr (S_asg (E_cstr ?_)))))))))
  refine S_ret (E_split (E_bin (E_bin (E_bin (E_bin (E_bin (E_bin (E_bin (E_bin (E_loc rfl (E_cstr ⟨_, add_str' (by decide +kernel), E_loc rfl ⟨_, add_str' (by simp only [Str.length_append]; decide +kernel), E_cstr ⟨_, add_str' (by simp only [Str.length_append]; decide +kernel), E_loc rfl ⟨_, add_str' (by simp only [Str.length_append]; decide +kernel),
    E_cstr ⟨_, add_str' (by simp only [Str.length_append]; decide +kernel), E_loc rfl ⟨_, add_str' (by simp only [Str.length_append]; decide +kernel), E_cstr ⟨_, add_str' (by simp only [Str.length_append]; decide +kernel), E_loc rfl ⟨_, add_str' (by simp only [Str.length_append]; decide +kernel), _, rfl, (by simp only [SPTXT, Str.length_append]; decide +kernel : SPTXT.length ≤ lid), ?_⟩⟩⟩⟩⟩⟩⟩⟩)))))))))))
  rw [show Txt.words _ = HTMLS from sptxt]
  exact p
theorem sp_law_implied (p : P (.ref H.length) (H ++ [.list (IMPL.map V.str)])) : CL (k + 1) 11 [] H P := by
  refine call_of rfl rfl (S_ret (E_split (E_cstr ⟨_, rfl, by decide +kernel, ?_⟩))) (by decide)
  rw [imptxt]; exact p

/-- the tuple of a kind -/
noncomputable abbrev kdV (kq : Str × Str) : AObj := .tup [.str kq.1, .str kq.2]
variable {q : Nat} {kq : Str × Str}
theorem kd0 (h : H[q]? = some (kdV kq)) : itemAt (.ref q) (.int 0) H = some (.str kq.1) := at_front (n := 0) (items_tup h) two_lid rfl
theorem kd1 (h : H[q]? = some (kdV kq)) : itemAt (.ref q) (.int 1) H = some (.str kq.2) := at_front (n := 1) (items_tup h) two_lid rfl
theorem svg_ne_math : ¬ s_svg = s_math := by decide +kernel
theorem html_ne_math : ¬ s_html = s_math := by decide +kernel
theorem html_ne_svg : ¬ s_html = s_svg := by decide +kernel
theorem math_ne_svg : ¬ s_math = s_svg := by decide +kernel

theorem sp_law_special (h : H[q]? = some (kdV kq)) (hs : kq.1 = s_html ∨ kq.1 = s_svg ∨ kq.1 = s_math) (p : ∀ H', Gr H H' → P (.bool (spB kq)) H') : CL (k + 2) 13 [.ref q] H P := by
  refine call_of rfl rfl ?_ (by decide)
  refine S_ife (kq.1 == s_svg) (Cm_CL _) (E_cmp (E_idx (E_loc rfl (E_cint ⟨_, kd0 h, E_cstr ⟨_, eq_str _ _ _, rfl, fun h1 => ?_, fun h1 => S_nil ?_⟩⟩))))
  · refine S_ret ⟨_, rfl, _, kd1 h, _, rfl, ?_⟩
    have := p H Kp.refl
    unfold spB at this
    rw [eq_of_beq h1, if_neg svg_ne_math, if_pos rfl] at this
    rw [Bool.false_xor]; exact this
  · refine S_ife (kq.1 == s_math) (Cm_CL _) (E_cmp (E_idx (E_loc rfl (E_cint ⟨_, kd0 h, E_cstr ⟨_, eq_str _ _ _, rfl, fun h2 => ?_, fun h2 => S_nil ?_⟩⟩))))
    · refine S_ret ⟨_, rfl, _, kd1 h, _, rfl, ?_⟩
      have := p H Kp.refl
      unfold spB at this
      rw [eq_of_beq h2, if_pos rfl] at this
      rw [Bool.false_xor]; exact this
    · have e : kq.1 = s_html := by
        rcases hs with e | e | e
        · exact e
        · rw [e] at h1; simp at h1
        · rw [e] at h2; simp at h2
      refine S_ret (E_cmp (E_idx (E_loc rfl (E_cint ⟨_, kd1 h, E_call (Es_nil (sp_specials ⟨_, in_strs (ss := HTMLS) (items_list (last_app _ _)) (by decide +kernel), ?_⟩))⟩))))
      have := p _ (Kp.app [AObj.list (HTMLS.map V.str)])
      unfold spB at this
      rw [e, if_neg html_ne_math, if_neg html_ne_svg, beq_self_eq_true, Bool.true_and] at this
      exact this
theorem sp_law_ends (h : H[q]? = some (kdV kq)) (hs : kq.1 = s_html ∨ kq.1 = s_svg ∨ kq.1 = s_math) (p : ∀ H', Gr H H' → P (.bool (enB kq)) H') : CL (k + 3) 14 [.ref q] H P := by
  refine call_of rfl rfl ?_ (by decide)
  refine S_ife (kq.1 != s_html) (Cm_CL _) (E_cmp (E_idx (E_loc rfl (E_cint ⟨_, kd0 h, E_cstr ⟨_, ne_str _ _ _, rfl, fun h1 => ?_, fun h1 => S_nil ?_⟩⟩))))
  · refine S_ret (E_call (Es_cons (E_loc rfl (Es_nil (sp_law_special h hs fun H' g => ?_)))))
    have := p H' g
    have e : enB kq = spB kq := by
      unfold enB spB
      have hne : ¬ kq.1 = s_html := by simpa using h1
      rcases hs with e | e | e
      · exact absurd e hne
      · rw [e, if_neg svg_ne_math, if_neg svg_ne_math, if_pos rfl, if_pos rfl]
      · rw [e, if_pos rfl, if_pos rfl]
    rw [e] at this; exact this
  · have e : kq.1 = s_html := by simpa using h1
    refine S_ret (E_cmp (E_idx (E_loc rfl (E_cint ⟨_, kd1 h, E_split (E_cstr ⟨_, rfl, by decide +kernel, ⟨_, in_strs (ss := ENDL) (by rw [endtxt]; exact items_list (last_app _ _)) (by decide +kernel), ?_⟩⟩)⟩))))
    rw [endl_eq]
    have := p _ (Kp.app [AObj.list ((Txt.words s_appletXbuttonXcaptionXht).map V.str)])
    unfold enB at this
    rw [e, if_neg html_ne_math, if_neg html_ne_svg] at this
    exact this
/-- is it solid? -/
noncomputable def solB (kq : Str × Str) : Bool := kq.1 != s_html || !IMPS.contains kq.2
theorem sp_law_solid (h : H[q]? = some (kdV kq)) (p : ∀ H', Gr H H' → P (.bool (solB kq)) H') : CL (k + 2) 15 [.ref q] H P := by
  refine call_of rfl rfl ?_ (by decide)
  refine S_ret (E_or (E_cmp (E_idx (E_loc rfl (E_cint ⟨_, kd0 h, E_cstr ⟨_, ne_str _ _ _, _, rfl, ?_⟩⟩)))))
  unfold solB at p
  cases h1 : kq.1 != s_html with
  | true => rw [h1, Bool.true_or] at p; exact p H Kp.refl
  | false =>
    rw [h1, Bool.false_or] at p
    refine O_one (E_cmp (E_idx (E_loc rfl (E_cint ⟨_, kd1 h, E_call (Es_nil (sp_law_implied ⟨_, notin_strs (ss := IMPL) (items_list (last_app _ _)) (by decide +kernel), ?_⟩))⟩))))
    rw [impl_eq]
    exact p _ (Kp.app _)

noncomputable abbrev natsV (ns : List Nat) : List V := ns.map fun (n : Nat) => V.int (n : Int)
/-- the words that the law awaits -/
noncomputable def lawWords (sol : List Nat) (a m : Nat) : List Str := if sol.any (fun j => decide (a < j) && decide (j < m)) then [s_openXelements] else []
theorem sp_law_words {sol : List Nat} {a m : Nat} (h : H[q]? = some (.list (natsV sol))) (hl : sol.length ≤ 1000) (p : ∀ H' r, Gr H H' → H.length ≤ r → H'[r]? = some (.list ((lawWords sol a m).map V.str)) → P (.ref r) H') :
    CL (k + 1) 16 [.ref q, .int a, .int m] H P := by
  refine call_of rfl rfl ?_ (by decide)
  have hll : (natsV sol).length ≤ lid := by simp [lid]; omega
  let r : V → Option V := fun x => match x with
    | .int j => if decide ((a : Int) < j) && decide (j < (m : Int)) then some x else none
    | _ => none
  have hf : (natsV sol).filterMap r = natsV (sol.filter fun j => decide (a < j) && decide (j < m)) := by
    clear h hl p hll
    induction sol with
    | nil => rfl
    | cons j sol ih =>
      show ((V.int (j : Int)) :: natsV sol).filterMap r = _
      rw [List.filterMap_cons, List.filter_cons, ih]
      have e : r (.int (j : Int)) = if decide (a < j) && decide (j < m) then some (.int (j : Int)) else none := by
        show (if decide ((a : Int) < j) && decide ((j : Int) < (m : Int)) then some (V.int j) else none) = _
        simp only [Int.ofNat_lt]
      rw [e]
      by_cases hc : (decide (a < j) && decide (j < m)) = true
      · rw [if_pos hc, if_pos hc]; rfl
      · rw [if_neg hc, if_neg hc]
  have hany : (sol.filter fun j => decide (a < j) && decide (j < m)).isEmpty = !(sol.any fun j => decide (a < j) && decide (j < m)) := by
    clear h hl p hll hf
    induction sol with
    | nil => rfl
    | cons j sol ih =>
      rw [List.filter_cons, List.any_cons]
      by_cases hc : (decide (a < j) && decide (j < m)) = true
      · rw [if_pos hc, hc]; rfl
      · rw [if_neg hc, ih]
        have : (decide (a < j) && decide (j < m)) = false := by simpa using hc
        rw [this, Bool.false_or]
  refine S_ret (E_ite (sol.any fun j => decide (a < j) && decide (j < m)) (Cm_CL _) (E_nil' (E_comp (E_loc rfl ⟨_, items_list h, hll, ?_⟩))))
  refine iterC_pure r (Kp.refl : Gr H H) (fun x hx H1 g K hK => ?_) (fun H' g => by show H'[q]? = H[q]?; rw [g.g h, h]) (by simpa using hll) fun H2 g2 => ?_
  · obtain ⟨j, hj, rfl⟩ := List.mem_map.mp hx
    refine T_bool (b := decide ((a : Int) < j) && decide ((j : Int) < (m : Int))) (E_cmp2 (E_loc rfl (E_loc rfl ⟨_, rfl, ?_⟩))) (Cm_CL _)
    have hK' := hK H1 Kp.refl
    have hr : r (.int (j : Int)) = if decide ((a : Int) < j) && decide ((j : Int) < (m : Int)) then some (V.int j) else none := rfl
    rw [hr] at hK'
    cases h1 : decide ((a : Int) < j) with
    | false =>
      rw [if_neg (by decide)]
      rw [h1, Bool.false_and, if_neg (by decide)] at hK'
      exact ⟨rfl, hK'⟩
    | true =>
      rw [if_pos rfl]
      rw [h1, Bool.true_and] at hK'
      refine E_loc rfl ⟨_, rfl, by rw [Bool.true_and], ?_⟩
      rw [Bool.true_and]
      cases h2 : decide ((j : Int) < (m : Int)) with
      | false => rw [h2, if_neg (by decide)] at hK'; exact hK'
      | true =>
        rw [h2, if_pos rfl] at hK'
        rw [if_pos rfl]
        exact E_loc rfl hK'
  · rw [List.nil_append, hf]
    refine ⟨_, getL_list (last_app _ _), ?_, ?_, fun ht => ?_, fun ht => ?_⟩
    · refine Nat.le_trans ?_ hll
      simp only [natsV, List.length_map]
      exact List.length_filter_le _ _
    · show V.bool (true ^^ (natsV _).isEmpty) = _
      rw [show (natsV (sol.filter fun j => decide (a < j) && decide (j < m))).isEmpty = (sol.filter fun j => decide (a < j) && decide (j < m)).isEmpty from List.isEmpty_map, hany, Bool.true_xor, Bool.not_not]
    · refine E_lst (Es_cons (E_cstr (Es_nil ⟨(by decide : 1 ≤ lid), p _ _ (g2.trans ((Kp.app _).trans (Kp.app _))) ?_ ?_⟩)))
      · have := g2.1; simp; omega
      · unfold lawWords; rw [if_pos ht]; exact last_app _ _
    · refine E_lst (Es_nil ⟨(by decide : 0 ≤ lid), p _ _ (g2.trans ((Kp.app _).trans (Kp.app _))) ?_ ?_⟩)
      · have := g2.1; simp; omega
      · unfold lawWords; rw [if_neg (by rw [ht]; decide)]; exact last_app _ _
end
end Mine
end
section
open PySem PySem.W PySem.Calls PyProof.Rows
namespace Mine

/-! ## the plain law -/
noncomputable def pk (f : Str × Str → Bool) (kd : List (Str × Str)) (j : Nat) : Bool := match kd[j]? with
  | some k => f k
  | none => false
/-- the last place below m -/
noncomputable def lastF (pr : Nat → Bool) : Nat → Option Nat
  | 0 => none
  | m + 1 => if pr m then some m else lastF pr m
theorem lastF_eq (pr : Nat → Bool) : ∀ m, ((List.range m).filter pr).getLast? = lastF pr m
  | 0 => rfl
  | m + 1 => by
    rw [List.range_succ, List.filter_append, List.filter_cons, List.filter_nil]
    unfold lastF
    cases h : pr m with
    | true => simp
    | false =>
      rw [if_neg (by decide), List.append_nil, if_neg (by decide)]
      exact lastF_eq pr m
theorem lastF_some {pr : Nat → Bool} {p : Nat} : ∀ {m}, lastF pr m = some p → p < m ∧ pr p = true ∧ ∀ j, p < j → j < m → pr j = false
  | 0, h => by cases h
  | m + 1, h => by
    unfold lastF at h
    by_cases hm : pr m = true
    · rw [if_pos hm] at h
      cases h
      exact ⟨Nat.lt_succ_self _, hm, fun j h1 h2 => by omega⟩
    · rw [if_neg hm] at h
      obtain ⟨a, b, c⟩ := lastF_some h
      refine ⟨Nat.lt_succ_of_lt a, b, fun j h1 h2 => ?_⟩
      by_cases hj : j = m
      · subst hj; simpa using hm
      · exact c j h1 (by omega)
theorem lastF_none {pr : Nat → Bool} : ∀ {m}, lastF pr m = none → ∀ j, j < m → pr j = false
  | 0, _, j, hj => by omega
  | m + 1, h, j, hj => by
    unfold lastF at h
    by_cases hm : pr m = true
    · rw [if_pos hm] at h; cases h
    · rw [if_neg hm] at h
      by_cases e : j = m
      · subst e; simpa using hm
      · exact lastF_none h j (by omega)
theorem lastF_is {pr : Nat → Bool} {p : Nat} : ∀ {m}, p < m → pr p = true → (∀ j, p < j → j < m → pr j = false) → lastF pr m = some p
  | 0, h, _, _ => by omega
  | m + 1, h, hp, hn => by
    unfold lastF
    by_cases e : p = m
    · subst e; rw [if_pos hp]
    · rw [if_neg (by rw [hn m (by omega) (by omega)]; decide)]
      exact lastF_is (by omega) hp fun j h1 h2 => hn j h1 (by omega)
theorem filter_nil (pr : Nat → Bool) (m : Nat) : ((List.range m).filter pr).isEmpty = (lastF pr m).isNone := by
  rw [← lastF_eq]
  cases (List.range m).filter pr <;> simp

noncomputable abbrev plB (name : Str) (k : Str × Str) : Bool := k.1 == s_html && k.2 == name
section
variable {kd : List (Str × Str)} {name : Str}
theorem endScan_succ {M n : Nat} {k : Str × Str} (h : kd[n]? = some k) : endScan kd name M (n + 1) = if plB name k then (n, if popImp kd name M = n + 1 then [] else [s_openXelements]) else if spB k then (M, [s_unexpectedXendXtag]) else endScan kd name M n := by
  conv => lhs; unfold endScan
  rw [h]
theorem pk_at {f : Str × Str → Bool} {n : Nat} {k : Str × Str} (h : kd[n]? = some k) : pk f kd n = f k := by unfold pk; rw [h]
/-- what any_other_end leaves, by the last places -/
theorem endScan_eq (M : Nat) : ∀ (n s : Nat), n ≤ kd.length → lastF (pk spB kd) n = some s → endScan kd name M n = match lastF (pk (plB name) kd) n with
    | some p => if s ≤ p then (p, if popImp kd name M = p + 1 then [] else [s_openXelements]) else (M, [s_unexpectedXendXtag])
    | none => (M, [s_unexpectedXendXtag])
  | 0, s, _, h => by cases h
  | n + 1, s, hn, h => by
    have hk : n < kd.length := by omega
    have ek : kd[n]? = some kd[n] := List.getElem?_eq_getElem hk
    rw [endScan_succ ek]
    unfold lastF at h ⊢
    rw [pk_at ek] at h
    rw [pk_at ek]
    by_cases h1 : plB name kd[n] = true
    · rw [if_pos h1, if_pos h1]
      dsimp only
      have : s ≤ n := by
        by_cases h2 : spB kd[n] = true
        · rw [if_pos h2] at h; cases h; exact Nat.le_refl _
        · rw [if_neg h2] at h; exact Nat.le_of_lt (lastF_some h).1
      rw [if_pos this]
    · rw [if_neg h1, if_neg h1]
      by_cases h2 : spB kd[n] = true
      · rw [if_pos h2]
        rw [if_pos h2] at h
        cases h
        cases hp : lastF (pk (plB name) kd) n with
        | none => rfl
        | some p =>
          have := (lastF_some hp).1
          dsimp only
          rw [if_neg (by omega)]
      · rw [if_neg h2]
        rw [if_neg h2] at h
        exact endScan_eq M n s (by omega) h

theorem topName_succ {n : Nat} {k : Str × Str} (h : kd[n]? = some k) : topName kd (n + 1) = if k.1 = s_html then k.2 else s_ := by
  show (match kd[n]? with
    | some k => if k.1 = s_html then k.2 else s_
    | none => s_) = _
  rw [h]
theorem goes_eq {n : Nat} {k : Str × Str} (h : kd[n]? = some k) : goes kd name (n + 1) = (!solB k && !plB name k) := by
  unfold goes solB plB
  rw [topName_succ h]
  by_cases h1 : k.1 = s_html
  · rw [if_pos h1, h1, bne_self_eq_false, Bool.false_or, Bool.not_not, beq_self_eq_true, Bool.true_and]; rfl
  · have h2 : (k.1 == s_html) = false := beq_eq_false_iff_ne.mpr h1
    have h3 : (k.1 != s_html) = true := by simpa using h1
    rw [if_neg h1, h3, Bool.true_or]
    have : IMPS.contains s_ = false := by decide +kernel
    rw [this]; rfl
/-- implied ends go down to the last place, or to what is solid above it -/
theorem popImp_eq {p : Nat} (hp : pk (plB name) kd p = true) : ∀ m, p < m → m ≤ kd.length → (∀ j, p < j → j < m → pk (plB name) kd j = false) → (popImp kd name m = p + 1 ↔ ∀ j, p < j → j < m → pk solB kd j = false) ∧ p < popImp kd name m
  | 0, h, _, _ => by omega
  | m + 1, h, hl, hn => by
    have hk : m < kd.length := by omega
    have ek : kd[m]? = some kd[m] := List.getElem?_eq_getElem hk
    have hg := goes_eq (name := name) ek
    by_cases e : p = m
    · subst e
      rw [pk_at ek] at hp
      have : goes kd name (p + 1) = false := by rw [hg, hp]; simp
      rw [popImp_stay this]
      exact ⟨⟨fun _ j h1 h2 => by omega, fun _ => rfl⟩, Nat.lt_succ_self p⟩
    · have h0 := hn m (by omega) (Nat.lt_succ_self m)
      rw [pk_at ek] at h0
      rw [h0, Bool.not_false, Bool.and_true] at hg
      cases hs : solB kd[m] with
      | true =>
        rw [hs] at hg
        rw [popImp_stay (show goes kd name (m + 1) = false from hg)]
        refine ⟨⟨fun e' => by omega, fun hall => ?_⟩, by omega⟩
        have := hall m (by omega) (Nat.lt_succ_self m)
        rw [pk_at ek, hs] at this; cases this
      | false =>
        rw [hs] at hg
        rw [popImp_go (show goes kd name (m + 1) = true from hg)]
        obtain ⟨a, b⟩ := popImp_eq hp m (by omega) (by omega) fun j h1 h2 => hn j h1 (by omega)
        refine ⟨a.trans ⟨fun hall j h1 h2 => ?_, fun hall j h1 h2 => hall j h1 (by omega)⟩, b⟩
        by_cases ej : j = m
        · subst ej; rw [pk_at ek]; exact hs
        · exact hall j h1 (by omega)
theorem any_between (pr : Nat → Bool) (L p m : Nat) (hm : m ≤ L) : ((List.range L).filter pr).any (fun j => decide (p < j) && decide (j < m)) = false ↔ ∀ j, p < j → j < m → pr j = false := by
  rw [List.any_eq_false]
  constructor
  · intro h j h1 h2
    cases hp : pr j with
    | false => rfl
    | true =>
      have := h j (List.mem_filter.mpr ⟨List.mem_range.mpr (by omega), hp⟩)
      simp [h1, h2] at this
  · intro h j hj hc
    obtain ⟨_, hp⟩ := List.mem_filter.mp hj
    simp only [Bool.and_eq_true, decide_eq_true_eq] at hc
    rw [h j hc.1 hc.2] at hp; cases hp
/-- the words told, as the law awaits them -/
theorem words_eq {p m L : Nat} (hp : pk (plB name) kd p = true) (hpm : p < m) (hm : m ≤ kd.length) (hL : m ≤ L) (hn : ∀ j, p < j → j < m → pk (plB name) kd j = false) :
    (if popImp kd name m = p + 1 then [] else [s_openXelements]) = lawWords ((List.range L).filter (pk solB kd)) p m := by
  obtain ⟨h, _⟩ := popImp_eq hp m hpm hm hn
  unfold lawWords
  have hb := any_between (pk solB kd) L p m hL
  by_cases hs : popImp kd name m = p + 1
  · rw [if_pos hs, if_neg (by rw [hb.mpr (h.mp hs)]; decide)]
  · rw [if_neg hs, if_pos]
    cases hc : ((List.range L).filter (pk solB kd)).any (fun j => decide (p < j) && decide (j < m)) with
    | true => rfl
    | false => exact absurd (h.mpr (hb.mp hc)) hs

theorem scanP_succ {n : Nat} {k : Str × Str} (h : kd[n]? = some k) : scanP kd (n + 1) = if plB s_p k then true else if enB k then false else scanP kd n := by
  conv => lhs; unfold scanP
  rw [h]
/-- a p in scope, by the last places -/
theorem scanP_eq {L : Nat} : ∀ m, m ≤ kd.length → m ≤ L → scanP kd m = match lastF (pk (plB s_p) kd) m with
    | some p => !((List.range L).filter (pk enB kd)).any (fun j => decide (p < j) && decide (j < m))
    | none => false
  | 0, _, _ => rfl
  | m + 1, hm, hL => by
    have ek : kd[m]? = some kd[m] := List.getElem?_eq_getElem (by omega)
    rw [scanP_succ ek]
    unfold lastF
    rw [pk_at ek]
    by_cases h1 : plB s_p kd[m] = true
    · rw [if_pos h1, if_pos h1]
      dsimp only
      rw [(any_between _ L m (m + 1) hL).mpr fun j a b => by omega]; rfl
    · rw [if_neg h1, if_neg h1]
      have ih := scanP_eq (L := L) m (by omega) (by omega)
      cases hp : lastF (pk (plB s_p) kd) m with
      | none =>
        rw [hp] at ih
        dsimp only at ih ⊢
        rw [ih]; split <;> rfl
      | some p =>
        rw [hp] at ih
        dsimp only at ih ⊢
        have hpm := (lastF_some hp).1
        by_cases h2 : enB kd[m] = true
        · rw [if_pos h2]
          cases hc : ((List.range L).filter (pk enB kd)).any (fun j => decide (p < j) && decide (j < m + 1)) with
          | true => rfl
          | false =>
            have := (any_between _ L p (m + 1) hL).mp hc m hpm (Nat.lt_succ_self m)
            rw [pk_at ek, h2] at this; cases this
        · rw [if_neg h2, ih]
          congr 1
          cases hc : ((List.range L).filter (pk enB kd)).any (fun j => decide (p < j) && decide (j < m)) with
          | false =>
            refine ((any_between _ L p (m + 1) hL).mpr fun j a b => ?_).symm
            by_cases ej : j = m
            · subst ej; rw [pk_at ek]; simpa using h2
            · exact (any_between _ L p m (by omega)).mp hc j a (by omega)
          | true =>
            cases hc' : ((List.range L).filter (pk enB kd)).any (fun j => decide (p < j) && decide (j < m + 1)) with
            | true => rfl
            | false =>
              have := (any_between _ L p m (by omega)).mpr fun j a b => (any_between _ L p (m + 1) hL).mp hc' j a (by omega)
              rw [hc] at this; cases this

theorem p_ne : ¬ s_ = s_p := by decide +kernel
theorem topName_p {n : Nat} {k : Str × Str} (h : kd[n]? = some k) : (topName kd (n + 1) == s_p) = plB s_p k := by
  rw [topName_succ h]
  unfold plB
  by_cases h1 : k.1 = s_html
  · rw [if_pos h1, h1, beq_self_eq_true, Bool.true_and]
  · rw [if_neg h1, beq_eq_false_iff_ne.mpr h1, Bool.false_and]
    exact beq_eq_false_iff_ne.mpr p_ne
theorem popP_eq {p : Nat} (hp : pk (plB s_p) kd p = true) : ∀ m, p < m → m ≤ kd.length → (∀ j, p < j → j < m → pk (plB s_p) kd j = false) → popP kd m = p
  | 0, h, _, _ => by omega
  | m + 1, h, hl, hn => by
    have ek : kd[m]? = some kd[m] := List.getElem?_eq_getElem (by omega)
    show (if topName kd (m + 1) == s_p then m else popP kd m) = p
    rw [topName_p ek]
    by_cases e : p = m
    · subst e
      rw [pk_at ek] at hp
      rw [if_pos hp]
    · have h0 := hn m (by omega) (Nat.lt_succ_self m)
      rw [pk_at ek] at h0
      rw [if_neg (by rw [h0]; decide)]
      exact popP_eq hp m (by omega) (by omega) fun j h1 h2 => hn j h1 (by omega)
/-- what close_p leaves -/
theorem close_eq {p m L : Nat} (h : lastF (pk (plB s_p) kd) m = some p) (hm : m ≤ kd.length) (hL : m ≤ L) : popP kd (popImp kd s_p m) = p ∧
    (if topName kd (popImp kd s_p m) = s_p then [] else [s_openXelements]) = lawWords ((List.range L).filter (pk solB kd)) p m := by
  obtain ⟨hpm, hp, hn⟩ := lastF_some h
  obtain ⟨_, hgt⟩ := popImp_eq hp m hpm hm hn
  have hle := popImp_le kd s_p m
  refine ⟨popP_eq hp _ hgt (by omega) fun j h1 h2 => hn j h1 (by omega), ?_⟩
  rw [← words_eq (name := s_p) hp hpm hm hL hn]
  obtain ⟨n, hn'⟩ : ∃ n, popImp kd s_p m = n + 1 := ⟨popImp kd s_p m - 1, by omega⟩
  rw [hn']
  have ek : kd[n]? = some kd[n] := List.getElem?_eq_getElem (by omega)
  have ht := topName_p ek
  by_cases e : n = p
  · subst e
    rw [pk_at ek] at hp
    rw [hp] at ht
    rw [if_pos (eq_of_beq ht), if_pos rfl]
  · have h0 := hn n (by omega) (by omega)
    rw [pk_at ek] at h0
    rw [h0] at ht
    rw [if_neg (by simpa using ht), if_neg (by omega)]
end
end Mine
end
section
open PySem PySem.W PySem.Calls PyProof.Rows
namespace Mine

/-! ## lists that are alike -/
theorem all2_self {f : V → V → Option Bool} : ∀ {vs : List V}, (∀ v ∈ vs, f v v = some true) → all2 f vs vs = some true
  | [], _ => rfl
  | v :: vs, h => by
    unfold all2
    rw [h v List.mem_cons_self, all2_self fun w hw => h w (List.mem_cons_of_mem _ hw)]; rfl
theorem all2_map {f : V → V → Option Bool} : ∀ {as bs : List Nat}, as.length = bs.length → (∀ (j a b : Nat), as[j]? = some a → bs[j]? = some b → f (.ref a) (.ref b) = some true) → all2 f (as.map V.ref) (bs.map V.ref) = some true
  | [], [], _, _ => rfl
  | a :: as, b :: bs, hl, h => by
    show (match f (.ref a) (.ref b), all2 f (as.map V.ref) (bs.map V.ref) with
      | some p, some q => some (p && q)
      | _, _ => none) = _
    rw [h 0 a b rfl rfl, all2_map (by simpa using hl) fun j x y hx hy => h (j + 1) x y (by simpa using hx) (by simpa using hy)]; rfl
  | [], _ :: _, hl, _ => by simp at hl
  | _ :: _, [], hl, _ => by simp at hl
theorem veq_nats {H : AH} {d i j : Nat} {ns : List Nat} (h1 : H[i]? = some (.list (natsV ns))) (h2 : H[j]? = some (.list (natsV ns))) (hl : ns.length ≤ 1000) : veq H (d + 1) (.ref i) (.ref j) = some true := by
  have : (natsV ns).length ≤ lid := by simp [lid]; omega
  rw [veq_lists h1 h2 this rfl]
  refine all2_self fun v hv => ?_
  obtain ⟨n, _, rfl⟩ := List.mem_map.mp hv
  rw [veq_int]; simp
theorem veq_tup {H : AH} {d i j : Nat} {a b c e : Str} (h1 : H[i]? = some (.tup [.str a, .str b])) (h2 : H[j]? = some (.tup [.str c, .str e])) : veq H (d + 1) (.ref i) (.ref j) = some ((a == c) && (b == e)) := by
  rw [veq_seq h1 h2]
  refine (if_pos (e := none) (⟨two_lid, rfl⟩ : 2 ≤ lid ∧ 2 = 2)).trans ?_
  show (match veq H d (.str a) (.str c), (match veq H d (.str b) (.str e), some true with
    | some p, some q => some (p && q)
    | _, _ => none) with
    | some p, some q => some (p && q)
    | _, _ => none) = _
  rw [veq_str, veq_str]
  simp
/-- two lists of told words -/
theorem veq_words {H : AH} {i j : Nat} {as bs : List Nat} {ws : List Str} (h1 : H[i]? = some (.list (as.map V.ref))) (h2 : H[j]? = some (.list (bs.map V.ref))) (la : as.length = ws.length) (lb : bs.length = ws.length) (hl : ws.length ≤ 1000)
    (ha : ∀ (j e : Nat) (w : Str), as[j]? = some e → ws[j]? = some w → H[e]? = some (.tup [.str w, .str s_inXbody])) (hb : ∀ (j e : Nat) (w : Str), bs[j]? = some e → ws[j]? = some w → H[e]? = some (.tup [.str w, .str s_inXbody])) :
    veq H 2 (.ref i) (.ref j) = some true := by
  rw [veq_lists h1 h2 (by simp [lid]; omega) (by simp [la, lb])]
  refine all2_map (by omega) fun k a b ea eb => ?_
  have hk : k < ws.length := by rw [← la]; exact (List.getElem?_eq_some_iff.mp ea).1
  have ew : ws[k]? = some ws[k] := List.getElem?_eq_getElem hk
  rw [veq_tup (ha k a _ ea ew) (hb k b _ eb ew)]
  simp

/-! ## comprehensions over a range -/
theorem natsV_filter (pr : Nat → Bool) (r : V → Option V) (hr : ∀ j : Nat, r (.int (j : Int)) = if pr j then some (.int (j : Int)) else none) : ∀ ns : List Nat, (natsV ns).filterMap r = natsV (ns.filter pr)
  | [] => rfl
  | j :: ns => by
    show ((V.int (j : Int)) :: natsV ns).filterMap r = _
    rw [List.filterMap_cons, List.filter_cons, natsV_filter pr r hr ns, hr]
    by_cases h : pr j = true
    · rw [if_pos h, if_pos h]; rfl
    · rw [if_neg h, if_neg h]
theorem upL_nats (n : Nat) : upL (n : Int) = natsV (List.range n) := rfl
section
variable {cl : Cl} {l : Loc} {H : AH} {P : V → AH → Prop}
theorem compR_spec {s n : Nat} {hi cond : X} (C : Cm cl) (pr : Nat → Bool) (hs : s < l.length) (hn : n ≤ 1000) (hhi : vcE TAB cl hi l H fun v H' => v = .int (n : Int) ∧ H' = H)
    (hc : ∀ j, j < n → ∀ H1, Gr H H1 → ∀ K : V → AH → Prop, (∀ H2, Gr H1 H2 → K (.bool (pr j)) H2) → vcE TAB cl cond (l.set s (some (.int (j : Int)))) H1 K)
    (p : ∀ H', Gr H H' → P (.ref H'.length) (H' ++ [.list (natsV ((List.range n).filter pr))])) : vcE TAB cl (.compR (.loc s) s hi cond) l H P := by
  refine E_compR (vcE_mono C hi l H _ _ (fun v H' ⟨e, e'⟩ => ?_) hhi)
  subst e e'
  refine ⟨n, rfl, Int.natCast_nonneg n, by unfold lid; omega, ?_⟩
  rw [upL_nats]
  let r : V → Option V := fun x => match x with
    | .int j => if pr j.toNat then some x else none
    | _ => none
  have hr : ∀ j : Nat, r (.int (j : Int)) = if pr j then some (.int (j : Int)) else none := fun j => rfl
  refine iterC_pure r (Kp.refl : Gr H' H') (fun x hx H1 g K hK => ?_) (fun _ _ => trivial) (by simp [lid]; omega) fun H2 g2 => ?_
  · obtain ⟨j, hj, rfl⟩ := List.mem_map.mp hx
    have hK' : ∀ H2, Gr H1 H2 → K (if pr j then some (.int (j : Int)) else none) H2 := fun H2 g => by rw [← hr j]; exact hK H2 g
    refine vcE_mono C cond _ H1 _ _ (fun v H2 q => q) (hc j (List.mem_range.mp hj) H1 g _ fun H2 g2 => ⟨pr j, rfl, ?_⟩)
    have := hK' H2 g2
    cases hp : pr j with
    | true =>
      rw [hp, if_pos rfl] at this
      dsimp only
      rw [if_pos rfl]
      exact E_loc (by rw [List.getElem?_set_self hs]) this
    | false =>
      rw [hp, if_neg (by decide)] at this
      dsimp only
      rw [if_neg (by decide)]
      exact this
  · rw [List.nil_append, natsV_filter pr r hr]
    exact p H2 g2
end

/-! ## the kinds, as they lie -/
structure Knd (H : AH) (kq : Nat) (kd : List (Str × Str)) : Prop where
  ex : ∃ rs : List Nat, H[kq]? = some (.list (rs.map V.ref)) ∧ rs.length = kd.length ∧ ∀ (j r : Nat) (k : Str × Str), rs[j]? = some r → kd[j]? = some k → H[r]? = some (kdV k)
theorem Knd.keep {S : Nat → Prop} {H H' : AH} {kq : Nat} {kd : List (Str × Str)} (x : Knd H kq kd) (g : Kp S H H') (h : ∀ i, S i → ∃ o, H[i]? = some o ∧ ∀ vs, o ≠ .list vs ∧ o ≠ .tup vs) : Knd H' kq kd := by
  obtain ⟨rs, a, b, c⟩ := x.ex
  refine ⟨rs, g.get a fun hs => ?_, b, fun j r k h1 h2 => g.get (c j r k h1 h2) fun hs => ?_⟩
  · obtain ⟨o, ho, hn⟩ := h kq hs
    rw [a] at ho; cases ho; exact (hn _).1 rfl
  · obtain ⟨o, ho, hn⟩ := h r hs
    rw [c j r k h1 h2] at ho; cases ho; exact (hn _).2 rfl
theorem Knd.grow {H H' : AH} {kq : Nat} {kd : List (Str × Str)} (x : Knd H kq kd) (g : Gr H H') : Knd H' kq kd := x.keep g fun i h => h.elim
/-- the j-th kind -/
theorem Knd.item {H : AH} {kq : Nat} {kd : List (Str × Str)} (x : Knd H kq kd) (hl : kd.length ≤ 1000) {j : Nat} (hj : j < kd.length) : ∃ r k, itemAt (.ref kq) (.int (j : Int)) H = some (.ref r) ∧ kd[j]? = some k ∧ H[r]? = some (kdV k) := by
  obtain ⟨rs, a, b, c⟩ := x.ex
  have er : rs[j]? = some rs[j] := List.getElem?_eq_getElem (by omega)
  have ek : kd[j]? = some kd[j] := List.getElem?_eq_getElem hj
  exact ⟨rs[j], kd[j], at_front (items_list a) (by simp [lid]; omega) (by rw [List.getElem?_map, er]; rfl), ek, c j _ _ er ek⟩

/-! ## the ground that others_hold and closes_hold stand on -/
structure Bas (H : AH) (b t st isp inm : Nat) (fx : List (Nat × V)) (SP NM : List Str) : Prop where
  hb : ∃ fb, H[b]? = some (.inst 3 fb) ∧ lk 0 fb = some (.ref t) ∧ lk 11 fb = some (.ref st) ∧ lk 13 fb = some (.str s_inXbody) ∧ (lk 24 fb).isSome = true ∧ fb.length ≤ 50 ∧ lk 12 fb = lk 12 fx
  hst : ∃ fs, H[st]? = some (.inst 0 fs) ∧ lk 0 fs = some (.ref t) ∧ (lk 1 fs).isSome = true ∧ fs.length ≤ 50
  htr : ∃ ft, H[t]? = some (.inst 2 ft) ∧ lk 3 ft = some (.ref isp) ∧ lk 4 ft = some (.ref inm)
  hsp : H[isp]? = some (.list (SP.map V.str))
  hnm : H[inm]? = some (.list (NM.map V.str))
noncomputable abbrev Two (b st : Nat) : Nat → Prop := fun i => i = b ∨ i = st
theorem put_same (f : Nat) (v : V) : ∀ {fs : List (Nat × V)}, (lk f fs).isSome = true → (put f v fs).length = fs.length
  | [], h => by cases h
  | (g, u) :: r, h => by
    unfold put
    unfold lk at h
    by_cases e : g = f
    · rw [if_pos e]; rfl
    · rw [if_neg e] at h ⊢
      simp [put_same f v h]
section
variable {H H' : AH} {b t st isp inm : Nat} {fx : List (Nat × V)} {SP NM : List Str}
theorem Bas.grow (x : Bas H b t st isp inm fx SP NM) (g : Gr H H') : Bas H' b t st isp inm fx SP NM := by
  obtain ⟨⟨fb, a1, a2⟩, ⟨fs, b1, b2⟩, ⟨ft, c1, c2⟩, d, e⟩ := x
  exact ⟨⟨fb, g.g a1, a2⟩, ⟨fs, g.g b1, b2⟩, ⟨ft, g.g c1, c2⟩, g.g d, g.g e⟩
theorem Bas.ne (x : Bas H b t st isp inm fx SP NM) : b ≠ st ∧ b ≠ t ∧ b ≠ isp ∧ b ≠ inm ∧ st ≠ t ∧ st ≠ isp ∧ st ≠ inm := by
  obtain ⟨⟨fb, a1, _⟩, ⟨fs, b1, _⟩, ⟨ft, c1, _⟩, d, e⟩ := x
  refine ⟨?_, ?_, ?_, ?_, ?_, ?_, ?_⟩
  · rintro rfl; rw [a1] at b1; cases b1
  · rintro rfl; rw [a1] at c1; cases c1
  · rintro rfl; rw [a1] at d; cases d
  · rintro rfl; rw [a1] at e; cases e
  · rintro rfl; rw [b1] at c1; cases c1
  · rintro rfl; rw [b1] at d; cases d
  · rintro rfl; rw [b1] at e; cases e
/-- a new stack and new words -/
theorem Bas.sys (x : Bas H b t st isp inm fx SP NM) {nd : List Nat} {m : Nat} (hm : m ≤ nd.length) {fs fb : List (Nat × V)} (hs : H[st]? = some (.inst 0 fs)) (hbb : H[b]? = some (.inst 3 fb)) :
    let H1 := (H ++ [AObj.list (nodesV (nd.take m))]).set st (.inst 0 (put 1 (.ref H.length) fs))
    let H2 := (H1 ++ [AObj.list []]).set b (.inst 3 (put 24 (.ref H1.length) fb))
    Sys H2 b st t H.length H1.length isp inm nd SP NM m [] ∧ Bas H2 b t st isp inm fx SP NM ∧ Kp (Two b st) H H2 ∧ H1[b]? = some (.inst 3 fb) := by
  intro H1 H2
  obtain ⟨n1, n2, n3, n4, n5, n6, n7⟩ := x.ne
  obtain ⟨⟨fb', a1, a2, a3, a4, a5, a6, a7⟩, ⟨fs', b1, b2, b3, b4⟩, ⟨ft, c1, c2, c3⟩, d, e⟩ := x
  rw [hs] at b1; cases b1
  rw [hbb] at a1; cases a1
  have hst := lt_of hs
  have hbl := lt_of hbb
  have k1 : Kp (Two b st) H H1 := (Kp.app _).trans (Kp.set (S := Two b st) (.inr rfl) _)
  have k2 : Kp (Two b st) H1 H2 := (Kp.app _).trans (Kp.set (S := Two b st) (.inl rfl) _)
  have kk := k1.trans k2
  have hl1 : H1.length = H.length + 1 := by simp [H1]
  have g1b : H1[b]? = some (.inst 3 fb) := by
    show ((H ++ _).set st _)[b]? = _
    rw [List.getElem?_set_ne n1.symm, List.getElem?_append_left hbl]; exact hbb
  have g2b : H2[b]? = some (.inst 3 (put 24 (.ref H1.length) fb)) := List.getElem?_set_self (by simp; omega)
  have g1s : H1[st]? = some (.inst 0 (put 1 (.ref H.length) fs)) := List.getElem?_set_self (by simp; omega)
  have g2s : H2[st]? = some (.inst 0 (put 1 (.ref H.length) fs)) := by
    show ((H1 ++ _).set b _)[st]? = _
    rw [List.getElem?_set_ne n1, List.getElem?_append_left (lt_of g1s)]; exact g1s
  have nT : ¬ Two b st t := fun z => z.elim (fun z => n2 z.symm) (fun z => n5 z.symm)
  have nS : ¬ Two b st isp := fun z => z.elim (fun z => n3 z.symm) (fun z => n6 z.symm)
  have nN : ¬ Two b st inm := fun z => z.elim (fun z => n4 z.symm) (fun z => n7 z.symm)
  have htl := lt_of c1
  have hsl := lt_of d
  have hnl := lt_of e
  have g1i : H1[H.length]? = some (.list (nodesV (nd.take m))) := by
    show ((H ++ _).set st _)[H.length]? = _
    rw [List.getElem?_set_ne (Nat.ne_of_lt hst)]; exact last_app _ _
  have g2i : H2[H.length]? = some (.list (nodesV (nd.take m))) := by
    show ((H1 ++ _).set b _)[H.length]? = _
    rw [List.getElem?_set_ne (Nat.ne_of_lt hbl), List.getElem?_append_left (by omega)]; exact g1i
  have g2e : H2[H1.length]? = some (.list []) := by
    show ((H1 ++ _).set b _)[H1.length]? = _
    rw [List.getElem?_set_ne (by omega)]; exact last_app _ _
  refine ⟨⟨⟨⟨_, g2s, by rw [lk_put, if_neg (by decide)]; exact b2, by rw [lk_put, if_pos rfl]⟩, ⟨ft, kk.get c1 nT, c2, c3⟩, kk.get d nS, kk.get e nN, g2i, ⟨by omega, by omega, by omega, by omega⟩, hm⟩,
    ⟨⟨_, g2b, by rw [lk_put, if_neg (by decide)]; exact a2, by rw [lk_put, if_neg (by decide)]; exact a3, by rw [lk_put, if_pos rfl], by rw [lk_put, if_neg (by decide)]; exact a4⟩, ⟨[], g2e, rfl, fun j e w h => by simp at h⟩, by simp⟩,
    by omega, by omega, by omega, by omega, by omega, by omega, by omega⟩, ⟨⟨_, g2b, by rw [lk_put, if_neg (by decide)]; exact a2, by rw [lk_put, if_neg (by decide)]; exact a3, by rw [lk_put, if_neg (by decide)]; exact a4, by rw [lk_put, if_pos rfl]; rfl, by rw [put_same _ _ a5]; exact a6, by rw [lk_put, if_neg (by decide)]; exact a7⟩,
    ⟨_, g2s, by rw [lk_put, if_neg (by decide)]; exact b2, by rw [lk_put, if_pos rfl]; rfl, by rw [put_same _ _ b3]; exact b4⟩, ⟨ft, kk.get c1 nT, c2, c3⟩, kk.get d nS, kk.get e nN⟩, kk, g1b⟩
/-- what new places turn leaves the ground -/
theorem Kp.fresh {S S' : Nat → Prop} {H0 H1 H2 : AH} (x : Kp S H0 H1) (y : Kp S' H1 H2) (h : ∀ i, S' i → H0.length ≤ i) : Kp S H0 H2 :=
  ⟨Nat.le_trans x.1 y.1, fun i hi hl => (y.2 i (fun z => absurd (h i z) (by omega)) (Nat.lt_of_lt_of_le hl x.1)).trans (x.2 i hi hl)⟩
theorem Bas.turn {S : Nat → Prop} (x : Bas H b t st isp inm fx SP NM) (g : Kp S H H') (h1 : ¬ S b) (h2 : ¬ S st) (h3 : ¬ S t) (h4 : ¬ S isp) (h5 : ¬ S inm) : Bas H' b t st isp inm fx SP NM := by
  obtain ⟨⟨fb, a1, a2⟩, ⟨fs, b1, b2⟩, ⟨ft, c1, c2⟩, d, e⟩ := x
  exact ⟨⟨fb, g.get a1 h1, a2⟩, ⟨fs, g.get b1 h2, b2⟩, ⟨ft, g.get c1 h3, c2⟩, g.get d h4, g.get e h5⟩
end
end Mine
end
section
open PySem PySem.W PySem.Calls PyProof.Rows
namespace Mine
section
variable {T : Tab} {cl : Cl} {l : Loc} {H : AH}
theorem S_setA' {a x : X} {f : Nat} {ss : Ss} {P : Fl → Loc → AH → Prop} (h : vcE T cl x l H fun u H => vcE T cl a l H fun v H => ∃ i c fs, v = .ref i ∧ H[i]? = some (.inst c fs) ∧ fs.length ≤ 100 ∧ vcSs T cl ss l (H.set i (.inst c (put f u fs))) P) :
    vcSs T cl (.cons (.setA a f x) ss) l H P := h
theorem E_upto {a hi : X} {P : V → AH → Prop} (h : vcE T cl a l H fun v H => vcE T cl hi l H fun k H => ∃ vs n, getL v H = some vs ∧ vs.length ≤ lid ∧ k = .int n ∧ 0 ≤ n ∧ n ≤ vs.length ∧ P (.ref H.length) (H ++ [.list (vs.take n.toNat)])) : vcE T cl (.upto a hi) l H P := h
theorem add_list {i j : Nat} {a b : List V} (h1 : H[i]? = some (.list a)) (h2 : H[j]? = some (.list b)) (hl : a.length + b.length ≤ lid) : opBin .add (.ref i) (.ref j) H = some (.ref H.length, H ++ [.list (a ++ b)]) := by
  show (getL (.ref i) H).bind _ = _
  rw [getL_list h1, Option.bind_some, getL_list h2]
  exact if_pos hl
end
theorem natsV_len (ns : List Nat) : (natsV ns).length = ns.length := List.length_map _
theorem natsV_take (ns : List Nat) (m : Nat) : (natsV ns).take m = natsV (ns.take m) := List.map_take.symm
theorem natsV_last {ns : List Nat} {p : Nat} (h : ns.getLast? = some p) : (natsV ns).getLast? = some (.int (p : Int)) := by rw [List.getLast?_map, h]; rfl
section
variable {H H' : AH} {b t st isp inm kq nq m k : Nat} {kd : List (Str × Str)} {nd : List Nat} {SP NM : List Str} {fx : List (Nat × V)} {P : V → AH → Prop}
theorem Bas.notL (x : Bas H b t st isp inm fx SP NM) {q : Nat} {vs : List V} (h : H[q]? = some (.list vs)) : ¬ Two b st q := by
  obtain ⟨⟨fb, a1, _⟩, ⟨fs, b1, _⟩, _⟩ := x
  rintro (rfl | rfl)
  · rw [a1] at h; cases h
  · rw [b1] at h; cases h
theorem Bas.keepL (x : Bas H b t st isp inm fx SP NM) (g : Kp (Two b st) H H') {q : Nat} {vs : List V} (h : H[q]? = some (.list vs)) : H'[q]? = some (.list vs) := g.get h (x.notL h)
theorem Bas.keepK (x : Bas H b t st isp inm fx SP NM) (g : Kp (Two b st) H H') (kn : Knd H kq kd) : Knd H' kq kd := by
  obtain ⟨⟨fb, a1, _⟩, ⟨fs, b1, _⟩, _⟩ := x
  refine kn.keep g fun i hi => ?_
  rcases hi with rfl | rfl
  · exact ⟨_, a1, fun vs => ⟨nofun, nofun⟩⟩
  · exact ⟨_, b1, fun vs => ⟨nofun, nofun⟩⟩
/-- the last of the filtered -/
theorem last_nats {pr : Nat → Bool} {p m : Nat} (h : lastF pr m = some p) : (natsV ((List.range m).filter pr)).getLast? = some (.int (p : Int)) := natsV_last (by rw [lastF_eq]; exact h)

/-- the words, as tuples -/
theorem words_comp {cl : Cl} {l : Loc} {q s : Nat} {src : X} {ws : List Str} (C : Cm cl) (hs : s < l.length) (hw : ws.length ≤ 1000) (hsrc : vcE TAB cl src l H fun v H' => v = .ref q ∧ H' = H) (hq : H[q]? = some (.list (ws.map V.str)))
    (p : ∀ H' (es : List Nat), Gr H H' → es.length = ws.length → (∀ (j e : Nat) (w : Str), es[j]? = some e → ws[j]? = some w → H'[e]? = some (.tup [.str w, .str s_inXbody])) → P (.ref H'.length) (H' ++ [.list (es.map V.ref)])) :
    vcE TAB cl (.comp (.tup (.cons (.loc s) (.cons (.cstr s_inXbody) .nil))) s src (.cbool true)) l H P := by
  refine E_comp (vcE_mono C src l H _ _ (fun v H' ⟨e, e'⟩ => ?_) hsrc)
  subst e e'
  refine ⟨_, items_list hq, by simp [lid]; omega, ?_⟩
  refine iterC_inv (fun x H P Q k h => tst_mono (fun P Q k h => vcE_mono C (.cbool true) (l.set s (some x)) H P Q k h) (fun b H h => by
      cases b with
      | true => exact vcE_mono C _ (l.set s (some x)) H _ _ (fun r H h => k _ _ h) h
      | false => exact k _ _ h) h)
    (fun n acc H1 => ∃ es : List Nat, acc = es.map V.ref ∧ es.length = n ∧ n ≤ ws.length ∧ Gr H' H1 ∧ ∀ (j e : Nat) (w : Str), es[j]? = some e → ws[j]? = some w → H1[e]? = some (.tup [.str w, .str s_inXbody])) ?_ ?_ ⟨[], rfl, rfl, Nat.zero_le _, Kp.refl, fun j e w h => by simp at h⟩
  · rintro n x acc H1 hx ⟨es, rfl, hl, hn, g, he⟩
    rw [List.getElem?_map, Option.map_eq_some_iff] at hx
    obtain ⟨w, hw', rfl⟩ := hx
    have hnl : n < ws.length := (List.getElem?_eq_some_iff.mp hw').1
    refine ⟨true, rfl, ?_⟩
    dsimp only
    rw [if_pos rfl]
    refine E_tup (Es_cons (E_loc (by rw [List.getElem?_set_self hs]) (Es_cons (E_cstr (Es_nil ⟨two_lid, ?_, ?_, es ++ [H1.length], by simp, by simp [hl], hnl, g.trans (Kp.app _), fun j e w' h1 h2 => ?_⟩)))))
    · show (H1 ++ _)[q]? = H'[q]?
      rw [Gr.g (g.trans (Kp.app _)) hq, hq]
    · simp [hl, lid]; omega
    · by_cases hj : j < es.length
      · rw [List.getElem?_append_left hj] at h1
        have := he j e w' h1 h2
        rw [List.getElem?_append_left (lt_of this)]; exact this
      · rw [List.getElem?_append_right (by omega)] at h1
        have h0 : j - es.length = 0 := by
          have := (List.getElem?_eq_some_iff.mp h1).1
          simp at this; omega
        rw [h0] at h1
        cases h1
        have : j = n := by omega
        subst this
        rw [hw'] at h2; cases h2
        exact last_app _ _
  · rintro acc H1 ⟨es, rfl, hl, hn, g, he⟩
    exact p H1 es g (by simpa using hl) he

noncomputable def oBody : Ss := (.cons (.setA (.attr (.loc 0) 11) 1 (.upto (.loc 2) (.loc 3)))
  (.cons (.setA (.loc 0) 24 (.lst .nil))
  (.cons (.expr (.call 6 (.cons (.loc 0) (.cons (.loc 6) .nil))))
  (.cons (.asg 7 (.compR (.loc 10) 10 (.loc 3) (.cmp .eq (.idx (.loc 1) (.loc 10)) (.tup (.cons (.cstr s_html) (.cons (.loc 6) .nil))))))
  (.cons (.asg 8 (.loc 3))
  (.cons (.asg 9 (.lst (.cons (.cstr s_unexpectedXendXtag) .nil)))
  (.cons (.ife (.and (.cons (.nil true (.loc 7)) (.cons (.cmp .ge (.idx (.loc 7) (.neg (.cint 1))) (.idx (.loc 4) (.neg (.cint 1)))) .nil))) (.cons (.asg 8 (.idx (.loc 7) (.neg (.cint 1))))
  (.cons (.asg 9 (.call 16 (.cons (.loc 5) (.cons (.loc 8) (.cons (.loc 3) .nil)))))
  .nil)) .nil)
  (.cons (.ife (.or (.cons (.cmp .ne (.attr (.attr (.loc 0) 11) 1) (.upto (.loc 2) (.loc 8))) (.cons (.cmp .ne (.attr (.loc 0) 24) (.comp (.tup (.cons (.loc 12) (.cons (.cstr s_inXbody) .nil))) 12 (.loc 9) (.cbool true))) .nil))) (.cons (.ret (.cbool false))
  .nil) .nil)
  .nil))))))))

/-- one name of the row -/
theorem others_turn {q4 q5 : Nat} {nm : Str} {x7 x8 x9 : Option V} (K : Kds kd nd SP NM) (x : Bas H b t st isp inm fx SP NM) (kn : Knd H kq kd) (hn : H[nq]? = some (.list (nodesV nd))) (h1 : 1 ≤ m) (hm : m ≤ nd.length) (h0 : kd[0]? = some (s_html, s_html))
    (h4 : H[q4]? = some (.list (natsV ((List.range m).filter (pk spB kd))))) (h5 : H[q5]? = some (.list (natsV ((List.range m).filter (pk solB kd)))))
    {Pf : Fl → Loc → AH → Prop} (pn : ∀ x7 x8 x9 H', Bas H' b t st isp inm fx SP NM → Kp (Two b st) H H' → Pf .next [some (.ref b), some (.ref kq), some (.ref nq), some (.int (m : Int)), some (.ref q4), some (.ref q5), some (.str nm), x7, x8, x9, none, none, none] H') :
    vcSs TAB (CL (k + 4)) oBody [some (.ref b), some (.ref kq), some (.ref nq), some (.int (m : Int)), some (.ref q4), some (.ref q5), some (.str nm), x7, x8, x9, none, none, none] H Pf := by
  have hkl : kd.length ≤ 1000 := by rw [K.len]; exact K.small
  have hml : m ≤ kd.length := by rw [K.len]; exact hm
  have hsm := K.small
  obtain ⟨fb, a1, a2, a3, a4, a5, a6, a7⟩ := x.hb
  obtain ⟨fs, b1, b2, b3, b4⟩ := x.hst
  obtain ⟨S2, B2, k2, g1b⟩ := x.sys (nd := nd) hm b1 a1
  unfold oBody
  refine S_setA' (E_upto (E_loc rfl (E_loc rfl ⟨nodesV nd, (m : Int), getL_list hn, by rw [natsV_len]; unfold lid; omega, rfl, Int.natCast_nonneg m, by rw [natsV_len]; omega, ?_⟩)))
  rw [Int.toNat_natCast, natsV_take]
  have gA : Gr H (H ++ [AObj.list (nodesV (nd.take m))]) := Kp.app _
  refine E_attr rfl (gA.g a1) a3 ⟨st, 0, fs, rfl, gA.g b1, by omega, ?_⟩
  refine S_setA' (E_lst ⟨by decide, E_loc rfl ⟨b, 3, fb, rfl, Gr.g (Kp.app _) g1b, by omega, ?_⟩⟩)
  -- any_other_end
  obtain ⟨s0, hs0⟩ : ∃ s0, lastF (pk spB kd) m = some s0 := by
    cases hc : lastF (pk spB kd) m with
    | some s0 => exact ⟨s0, rfl⟩
    | none =>
      have := lastF_none hc 0 (by omega)
      rw [pk_at h0] at this
      exact absurd this (by decide +kernel)
  have hes := endScan_eq (name := nm) m m s0 hml hs0
  refine S_expr (E_call (Es_cons (E_loc rfl (Es_cons (E_loc rfl (Es_nil (sp_end K S2 (by decide) fun H3 S3 k3 => ⟨nofun, nofun, ?_⟩)))))))
  rw [List.nil_append] at S3
  generalize hit : H.length = it at *
  generalize hH1 : ((H ++ [AObj.list (nodesV (nd.take m))]).set st (.inst 0 (put 1 (.ref it) fs))) = H1 at *
  have hl1 : H1.length = H.length + 1 := by rw [← hH1]; simp
  generalize her : H1.length = er at *
  generalize hH2 : ((H1 ++ [AObj.list []]).set b (.inst 3 (put 24 (.ref er) fb))) = H2 at *
  have k03 : Kp (Two b st) H H3 := k2.fresh k3 fun i hi => by rcases hi with rfl | rfl <;> omega
  obtain ⟨n1, n2, n3, n4, n5, n6, n7⟩ := x.ne
  have ltb := lt_of a1
  have lts := lt_of b1
  have ltt : t < H.length := by obtain ⟨ft, c1, _⟩ := x.htr; exact lt_of c1
  have lti := lt_of x.hsp
  have ltn := lt_of x.hnm
  have B3 : Bas H3 b t st isp inm fx SP NM := B2.turn k3 (by rintro (z | z) <;> omega) (by rintro (z | z) <;> omega) (by rintro (z | z) <;> omega) (by rintro (z | z) <;> omega) (by rintro (z | z) <;> omega)
  have kn3 := x.keepK k03 kn
  have hn3 := x.keepL k03 hn
  have h43 := x.keepL k03 h4
  have h53 := x.keepL k03 h5
  -- the places
  refine S_asg (compR_spec (Cm_CL _) (pk (plB nm) kd) (show 10 < 13 by decide) (by omega) (E_loc rfl ⟨rfl, rfl⟩) (fun j hj H4 g4 KK hKK => ?_) fun H4 g4 => ?_)
  · obtain ⟨r, kk, e1, ek, er'⟩ := (kn3.grow g4).item hkl (show j < kd.length by omega)
    refine E_cmp (E_idx (E_loc rfl (E_loc rfl ⟨_, e1, E_tup (Es_cons (E_cstr (Es_cons (E_loc rfl (Es_nil ⟨two_lid, _, ?_, hKK _ (Kp.app _)⟩)))))⟩)))
    rw [cmp_eq, veq_tup (Gr.g (Kp.app _) er') (last_app _ _), pk_at ek]
  · have g5 : Gr H3 (H4 ++ [AObj.list (natsV ((List.range m).filter (pk (plB nm) kd)))]) := g4.trans (Kp.app _)
    have hq7 := last_app H4 (AObj.list (natsV ((List.range m).filter (pk (plB nm) kd))))
    generalize hq7' : H4.length = q7 at *
    generalize hH5 : H4 ++ [AObj.list (natsV ((List.range m).filter (pk (plB nm) kd)))] = H5 at *
    refine S_asg (E_loc rfl (S_asg (E_lst (Es_cons (E_cstr (Es_nil ⟨(by decide : 1 ≤ lid), ?_⟩))))))
    have g6 : Gr H3 (H5 ++ [AObj.list [V.str s_unexpectedXendXtag]]) := g5.trans (Kp.app _)
    have hq7b := Gr.g (H := H5) (Kp.app [AObj.list [V.str s_unexpectedXendXtag]]) hq7
    have hq9 := last_app H5 (AObj.list [V.str s_unexpectedXendXtag])
    generalize hq9' : H5.length = q9 at *
    generalize hH6 : H5 ++ [AObj.list [V.str s_unexpectedXendXtag]] = H6 at *
    -- the last test
    have rest : ∀ H7 (q9 : Nat), Gr H3 H7 → H7[q9]? = some (.list ((endScan kd nm m m).2.map V.str)) → vcSs TAB (CL (k + 4)) (.cons (.ife (.or (.cons (.cmp .ne (.attr (.attr (.loc 0) 11) 1) (.upto (.loc 2) (.loc 8))) (.cons (.cmp .ne (.attr (.loc 0) 24) (.comp (.tup (.cons (.loc 12) (.cons (.cstr s_inXbody) .nil))) 12 (.loc 9) (.cbool true))) .nil))) (.cons (.ret (.cbool false))
  .nil) .nil)
  .nil) [some (.ref b), some (.ref kq), some (.ref nq), some (.int (m : Int)), some (.ref q4), some (.ref q5), some (.str nm), some (.ref q7), some (.int ((endScan kd nm m m).1 : Nat)), some (.ref q9), none, none, none] H7 Pf := by
      intro H7 q9 g7 h9
      have S7 := S3.keep g7
      obtain ⟨fs7, c1, c2, c3⟩ := S7.stk.hst
      obtain ⟨fb7, d1, d2, d3, d4, d5⟩ := S7.bld.hb
      have hle := S7.stk.hle
      refine S_ife false (Cm_CL _) (E_or (E_cmp (E_attr2 rfl d1 d3 c1 c3 (E_upto (E_loc rfl (E_loc rfl ⟨nodesV nd, ((endScan kd nm m m).1 : Nat), getL_list (g7.g hn3), by rw [natsV_len]; unfold lid; omega, rfl, Int.natCast_nonneg _, by rw [natsV_len]; omega, ?_⟩))))))
      rw [Int.toNat_natCast, natsV_take]
      have g8 : Gr H7 (H7 ++ [AObj.list (nodesV (nd.take (endScan kd nm m m).1))]) := Kp.app _
      refine ⟨false, ?_, false, rfl, ?_⟩
      · rw [cmp_ne, veq_nats (g8.g S7.stk.hit) (last_app _ _) (by simp; omega)]; rfl
      · have S8 := S7.keep g8
        obtain ⟨fb8, d1, d2, d3, d4, d5⟩ := S8.bld.hb
        obtain ⟨es, f1, f2, f3⟩ := S8.bld.her
        refine O_one (E_cmp (E_attr rfl d1 d4 (words_comp (q := q9) (Cm_CL _) (show 12 < 13 by decide) S8.bld.small (E_loc rfl ⟨rfl, rfl⟩) (g8.g h9) fun H9 es' g9 l9 t9 => ?_)))
        have gT : Gr H9 (H9 ++ [AObj.list (es'.map V.ref)]) := Kp.app _
        refine ⟨false, ?_, rfl, fun h => (by cases h), fun _ => S_nil (S_nil (pn _ _ _ _ ?_ ?_))⟩
        · rw [cmp_ne, veq_words (Gr.g (g9.trans gT) f1) (last_app _ _) f2 l9 S8.bld.small (fun j e w u v => Gr.g (g9.trans gT) (f3 j e w u v)) (fun j e w u v => gT.g (t9 j e w u v))]; rfl
        · exact B3.grow (g7.trans (g8.trans (g9.trans gT)))
        · exact k03.trans (Gr.any (g7.trans (g8.trans (g9.trans gT))))
    rw [hes] at rest
    have hlen7 : (natsV ((List.range m).filter (pk (plB nm) kd))).length ≤ lid := by
      rw [natsV_len]
      have := List.length_filter_le (pk (plB nm) kd) (List.range m)
      simp at this; unfold lid; omega
    have hlen4 : (natsV ((List.range m).filter (pk spB kd))).length ≤ lid := by
      rw [natsV_len]
      have := List.length_filter_le (pk spB kd) (List.range m)
      simp at this; unfold lid; omega
    have hemp : (natsV ((List.range m).filter (pk (plB nm) kd))).isEmpty = (lastF (pk (plB nm) kd) m).isNone := by
      rw [← filter_nil]; exact List.isEmpty_map
    cases hp : lastF (pk (plB nm) kd) m with
    | none =>
      rw [hp] at rest hemp
      refine S_ife false (Cm_CL _) (E_and (E_nil' (E_loc rfl ⟨_, getL_list hq7b, hlen7, false, by rw [hemp]; rfl, by rw [hemp]; rfl, fun h => (by cases h), fun _ => S_nil (rest H6 q9 g6 hq9)⟩)))
    | some p =>
      rw [hp] at rest hemp
      dsimp only at rest
      obtain ⟨hpm, hpp, hpn⟩ := lastF_some hp
      have cond : ∀ {Q : V → AH → Prop} {l : Loc}, l[7]? = some (some (.ref q7)) → l[4]? = some (some (.ref q4)) → Q (.bool (decide ((p : Int) ≥ (s0 : Int)))) H6 → vcE TAB (CL (k + 4)) (.and (.cons (.nil true (.loc 7)) (.cons (.cmp .ge (.idx (.loc 7) (.neg (.cint 1))) (.idx (.loc 4) (.neg (.cint 1)))) .nil))) l H6 Q := by
        intro Q l hl7 hl4 hQ
        refine E_and (E_nil' (E_loc hl7 ⟨_, getL_list hq7b, hlen7, true, by rw [hemp]; rfl, ?_⟩))
        rw [if_pos rfl]
        exact A_one (E_cmp (E_idx (E_loc hl7 (E_neg ⟨_, at_last (items_list hq7b) hlen7 (last_nats hp), E_idx (E_loc hl4 (E_neg ⟨_, at_last (items_list (g6.g h43)) hlen4 (last_nats hs0), _, rfl, hQ⟩))⟩))))
      by_cases hsp : s0 ≤ p
      · rw [if_pos hsp] at rest
        dsimp only at rest
        refine S_ife true (Cm_CL _) (cond rfl rfl ⟨by rw [decide_eq_true (by omega : (p : Int) ≥ s0)], fun _ => ?_, fun h => (by cases h)⟩)
        refine S_asg (E_idx (E_loc rfl (E_neg ⟨_, at_last (items_list hq7b) hlen7 (last_nats hp), ?_⟩)))
        refine S_asg (E_call (Es_cons (E_loc rfl (Es_cons (E_loc rfl (Es_cons (E_loc rfl (Es_nil (sp_law_words (sol := (List.range m).filter (pk solB kd)) (g6.g h53) ?_ fun H7 r g7 hr h7 => ?_)))))))))
        · have := List.length_filter_le (pk solB kd) (List.range m)
          simp at this; omega
        · rw [words_eq hpp hpm hml (Nat.le_refl m) hpn] at rest
          exact S_nil (rest H7 r (g6.trans g7) h7)
      · rw [if_neg hsp] at rest
        dsimp only at rest
        refine S_ife false (Cm_CL _) (cond rfl rfl ⟨by rw [decide_eq_false (by omega : ¬ (p : Int) ≥ s0)], fun h => (by cases h), fun _ => S_nil (rest H6 q9 g6 hq9)⟩)
end
end Mine
end
section
open PySem PySem.W PySem.Calls PyProof.Rows
namespace Mine
section
variable {H H' : AH} {b t st isp inm kq nq m k : Nat} {kd : List (Str × Str)} {nd : List Nat} {SP NM : List Str} {fx : List (Nat × V)} {P : V → AH → Prop}

theorem names_of {H0 : AH} : ∀ {rs : List Nat} {kd : List (Str × Str)}, rs.length = kd.length → (∀ (j r : Nat) (k : Str × Str), rs[j]? = some r → kd[j]? = some k → H0[r]? = some (kdV k)) →
    (rs.map V.ref).filterMap (fun x => itemAt x (.int 1) H0) = kd.map fun k => V.str k.2
  | [], [], _, _ => rfl
  | r :: rs, k :: kd, hl, h => by
    show (V.ref r :: rs.map V.ref).filterMap _ = _
    rw [List.filterMap_cons, names_of (by simpa using hl) fun j r k a b => h (j + 1) r k (by simpa using a) (by simpa using b), kd1 (h 0 r k rfl rfl)]; rfl
  | [], _ :: _, hl, _ => by simp at hl
  | _ :: _, [], hl, _ => by simp at hl

theorem filt_len (pr : Nat → Bool) {m : Nat} (hm : m ≤ 1000) : ((List.range m).filter pr).length ≤ 1000 := by
  have := List.length_filter_le pr (List.range m)
  simp at this; omega

/-- the row's judgement over the lower part of the stack -/
theorem sp_others (K : Kds kd nd SP NM) (x : Bas H b t st isp inm fx SP NM) (kn : Knd H kq kd) (hn : H[nq]? = some (.list (nodesV nd))) (h1 : 1 ≤ m) (hm : m ≤ nd.length) (h0 : kd[0]? = some (s_html, s_html))
    (p : ∀ H', Bas H' b t st isp inm fx SP NM → Kp (Two b st) H H' → P (.bool true) H') : CL (k + 5) 17 [.ref b, .ref kq, .ref nq, .int (m : Int)] H P := by
  have hsm := K.small
  have hkl : kd.length ≤ 1000 := by rw [K.len]; exact hsm
  have hml : m ≤ kd.length := by rw [K.len]; exact hm
  refine call_of rfl rfl ?_ (by decide)
  refine S_asg (compR_spec (Cm_CL _) (pk spB kd) (show 10 < 13 by decide) (by omega) (E_loc rfl ⟨rfl, rfl⟩) (fun j hj H4 g4 KK hKK => ?_) fun H1 g1 => ?_)
  · obtain ⟨r, kk, e1, ek, er'⟩ := (kn.grow g4).item hkl (show j < kd.length by omega)
    refine E_call (Es_cons (E_idx (E_loc rfl (E_loc rfl ⟨_, e1, Es_nil (sp_law_special er' (K.spaces kk (List.mem_of_getElem? ek)) fun H5 g5 => ?_)⟩))))
    have := hKK H5 g5
    rw [pk_at ek] at this; exact this
  have g2 : Gr H (H1 ++ [AObj.list (natsV ((List.range m).filter (pk spB kd)))]) := g1.trans (Kp.app _)
  have hq4 := last_app H1 (AObj.list (natsV ((List.range m).filter (pk spB kd))))
  generalize hq4' : H1.length = q4 at *
  generalize hH2 : H1 ++ [AObj.list (natsV ((List.range m).filter (pk spB kd)))] = H2 at *
  have kn2 := kn.grow g2
  refine S_asg (compR_spec (Cm_CL _) (pk solB kd) (show 10 < 13 by decide) (by omega) (E_loc rfl ⟨rfl, rfl⟩) (fun j hj H4 g4 KK hKK => ?_) fun H3 g3 => ?_)
  · obtain ⟨r, kk, e1, ek, er'⟩ := (kn2.grow g4).item hkl (show j < kd.length by omega)
    refine E_call (Es_cons (E_idx (E_loc rfl (E_loc rfl ⟨_, e1, Es_nil (sp_law_solid er' fun H5 g5 => ?_)⟩))))
    have := hKK H5 g5
    rw [pk_at ek] at this; exact this
  have g4 : Gr H2 (H3 ++ [AObj.list (natsV ((List.range m).filter (pk solB kd)))]) := g3.trans (Kp.app _)
  have hq5 := last_app H3 (AObj.list (natsV ((List.range m).filter (pk solB kd))))
  generalize hq5' : H3.length = q5 at *
  generalize hH4 : H3 ++ [AObj.list (natsV ((List.range m).filter (pk solB kd)))] = H4 at *
  have kn4 := kn2.grow g4
  obtain ⟨rs, r1, r2, r3⟩ := kn4.ex
  -- the names asked
  refine S_forL (E_bin (E_comp (E_loc rfl ⟨rs.map V.ref, items_list r1, by simp [lid]; omega, ?_⟩)))
  refine iterC_pure (fun x => itemAt x (.int 1) H4) (Kp.refl : Gr H4 H4) (fun x hx H5 g5 KK hKK => ?_) (fun H5 g5 => by show H5[kq]? = H4[kq]?; rw [g5.g r1, r1]) (by simp [lid]; omega) fun H5 g5 => ?_
  · obtain ⟨r, hr, rfl⟩ := List.mem_map.mp hx
    obtain ⟨j, hj, rfl⟩ := List.getElem_of_mem hr
    have er : rs[j]? = some rs[j] := List.getElem?_eq_getElem hj
    have ek : kd[j]? = some kd[j] := List.getElem?_eq_getElem (by omega)
    have hk := r3 j _ _ er ek
    refine ⟨true, rfl, ?_⟩
    dsimp only
    rw [if_pos rfl]
    refine E_idx (E_loc rfl (E_cint ⟨_, kd1 (g5.g hk), ?_⟩))
    have := hKK H5 Kp.refl
    rw [kd1 hk] at this; exact this
  rw [List.nil_append, names_of r2 r3]
  have g6 : Gr H4 (H5 ++ [AObj.list (kd.map fun k => V.str k.2)]) := g5.trans (Kp.app _)
  have hq6 := last_app H5 (AObj.list (kd.map fun k => V.str k.2))
  generalize hq6' : H5.length = q6 at *
  generalize hH6 : H5 ++ [AObj.list (kd.map fun k => V.str k.2)] = H6 at *
  refine E_lst (Es_cons (E_cstr (Es_nil ⟨(by decide : 1 ≤ lid), ?_⟩)))
  have g7 : Gr H6 (H6 ++ [AObj.list [V.str s_code]]) := Kp.app _
  have hq7 := last_app H6 (AObj.list [V.str s_code])
  generalize hq7' : H6.length = q7 at *
  generalize hH7 : H6 ++ [AObj.list [V.str s_code]] = H7 at *
  refine ⟨_, add_list (g7.g hq6) hq7 (by simp [lid]; omega), ?_⟩
  dsimp only
  have g8 : Gr H7 (H7 ++ [AObj.list ((kd.map fun k => V.str k.2) ++ [V.str s_code])]) := Kp.app _
  have hq8 := last_app H7 (AObj.list ((kd.map fun k => V.str k.2) ++ [V.str s_code]))
  generalize hq8' : H7.length = q8 at *
  generalize hH8 : H7 ++ [AObj.list ((kd.map fun k => V.str k.2) ++ [V.str s_code])] = H8 at *
  have gAll : Gr H H8 := g2.trans (g4.trans (g6.trans (g7.trans g8)))
  have x8 := x.grow gAll
  have kn8 := kn.grow gAll
  refine ⟨_, items_list hq8, by simp [lid]; omega, ?_⟩
  refine for_inv (Cm_CL _) (fun j l H' => (∃ x6 x7 x8 x9, l = [some (.ref b), some (.ref kq), some (.ref nq), some (.int (m : Int)), some (.ref q4), some (.ref q5), x6, x7, x8, x9, none, none, none]) ∧ Bas H' b t st isp inm fx SP NM ∧ Kp (Two b st) H8 H') ?_ ?_ ⟨⟨_, _, _, _, rfl⟩, x8, Kp.refl⟩
  · rintro j v l H9 hv ⟨⟨y6, y7, y8, y9, rfl⟩, x9, k9⟩ Q qn qr
    obtain ⟨nm, rfl⟩ : ∃ nm, v = .str nm := by
      have := List.mem_of_getElem? hv
      rcases List.mem_append.mp this with h | h
      · obtain ⟨k, _, rfl⟩ := List.mem_map.mp h; exact ⟨_, rfl⟩
      · exact ⟨_, List.mem_singleton.mp h⟩
    refine others_turn (k := k) (nm := nm) (q4 := q4) (q5 := q5) (x7 := y7) (x8 := y8) (x9 := y9) K x9 (x8.keepK k9 kn8) (x8.keepL k9 (gAll.g hn)) h1 hm h0
      (x8.keepL k9 (Gr.g (g4.trans (g6.trans (g7.trans g8))) hq4)) (x8.keepL k9 (Gr.g (g6.trans (g7.trans g8)) hq5)) fun z7 z8 z9 H' x' k' => qn _ _ ?_ ⟨⟨_, _, _, _, rfl⟩, x', k9.trans k'⟩
    show H'[q8]? = H8[q8]?
    rw [x8.keepL (k9.trans k') hq8, hq8]
  · rintro l H9 ⟨_, x9, k9⟩
    exact S_ret (p H9 x9 ((gAll.any).trans k9))
end
end Mine
end
section
open PySem PySem.W PySem.Calls PyProof.Rows
namespace Mine
section
variable {T : Tab} {cl : Cl} {l : Loc} {H : AH}
theorem E_whole {a : X} {P : V → AH → Prop} (h : vcE T cl a l H fun v H => ∃ vs, getL v H = some vs ∧ vs.length ≤ lid ∧ P (.ref H.length) (H ++ [.list vs])) : vcE T cl (.whole a) l H P := h
theorem E_not {a : X} {P : V → AH → Prop} {b : Bool} (C : Cm cl) (h : vcE T cl a l H fun v H' => v = .bool b ∧ P (.bool (!b)) H') : vcE T cl (.not a) l H P := T_bool h C

/-- what lies between two places -/
theorem comp_between {s q a m : Nat} {src A B : X} {sol : List Nat} {P : V → AH → Prop} (C : Cm cl) (hs : s < l.length) (hl : sol.length ≤ 1000) (hsrc : vcE T cl src l H fun v H' => v = .ref q ∧ H' = H) (hq : H[q]? = some (.list (natsV sol)))
    (hA : ∀ x H1 (Q : V → AH → Prop), Gr H H1 → Q (.int (a : Int)) H1 → vcE T cl A (l.set s x) H1 Q) (hB : ∀ x H1 (Q : V → AH → Prop), Gr H H1 → Q (.int (m : Int)) H1 → vcE T cl B (l.set s x) H1 Q)
    (p : ∀ H', Gr H H' → P (.ref H'.length) (H' ++ [.list (natsV (sol.filter fun j => decide (a < j) && decide (j < m)))])) : vcE T cl (.comp (.loc s) s src (.cmp2 A .lt (.loc s) .lt B)) l H P := by
  refine E_comp (vcE_mono C src l H _ _ (fun v H' ⟨e, e'⟩ => ?_) hsrc)
  subst e e'
  let r : V → Option V := fun x => match x with
    | .int j => if decide ((a : Int) < j) && decide (j < (m : Int)) then some x else none
    | _ => none
  have hr : ∀ j : Nat, r (.int (j : Int)) = if (fun j => decide (a < j) && decide (j < m)) j then some (.int (j : Int)) else none := fun j => by
    show (if decide ((a : Int) < j) && decide ((j : Int) < (m : Int)) then some (V.int j) else none) = _
    simp only [Int.ofNat_lt]
  refine ⟨_, items_list hq, by simp [lid]; omega, ?_⟩
  refine iterC_pure r (Kp.refl : Gr H' H') (fun x hx H1 g K hK => ?_) (fun H1 g => by show H1[q]? = H'[q]?; rw [g.g hq, hq]) (by simp [lid]; omega) fun H2 g2 => ?_
  · obtain ⟨j, hj, rfl⟩ := List.mem_map.mp hx
    refine T_bool (b := decide (a < j) && decide (j < m)) (E_cmp2 (hA _ _ _ g (E_loc (by rw [List.getElem?_set_self hs]) ⟨_, rfl, ?_⟩))) C
    have hK' : K (if (decide (a < j) && decide (j < m)) = true then some (V.int (j : Int)) else none) H1 := by
      have := hK H1 Kp.refl
      rw [hr] at this; exact this
    have e1 : decide ((a : Int) < (j : Int)) = decide (a < j) := by simp only [Int.ofNat_lt]
    have e2 : decide ((j : Int) < (m : Int)) = decide (j < m) := by simp only [Int.ofNat_lt]
    rw [e1]
    cases h1 : decide (a < j) with
    | false =>
      rw [h1, Bool.false_and, if_neg (by decide)] at hK'
      rw [if_neg (by decide)]
      exact ⟨rfl, hK'⟩
    | true =>
      rw [h1, Bool.true_and] at hK'
      rw [if_pos rfl]
      refine hB _ _ _ g ⟨_, rfl, by rw [Bool.true_and, e2], ?_⟩
      rw [Bool.true_and]
      cases h2 : decide (j < m) with
      | false => rw [h2, if_neg (by decide)] at hK'; exact hK'
      | true =>
        rw [h2, if_pos rfl] at hK'
        rw [if_pos rfl]
        exact E_loc (by rw [List.getElem?_set_self hs]) hK'
  · rw [List.nil_append, natsV_filter _ r hr]
    exact p H2 g2
end
theorem any_empty (sol : List Nat) (f : Nat → Bool) : (sol.filter f).isEmpty = !sol.any f := by
  induction sol with
  | nil => rfl
  | cons j sol ih =>
    rw [List.filter_cons, List.any_cons]
    by_cases hc : f j = true
    · rw [if_pos hc, hc]; rfl
    · rw [if_neg hc, ih]
      have : f j = false := by simpa using hc
      rw [this, Bool.false_or]
section
variable {H H' G0 : AH} {b t st it er isp inm kq nq m k j : Nat} {kd : List (Str × Str)} {nd : List Nat} {SP NM : List Str} {fx : List (Nat × V)} {P : V → AH → Prop} {ws : List Str}

noncomputable def cBody : Ss := (.cons (.asg 8 (.compR (.loc 10) 10 (.loc 3) (.cmp .eq (.idx (.loc 1) (.loc 10)) (.tup (.cons (.cstr s_html) (.cons (.cstr s_p) .nil))))))
  (.cons (.asg 9 (.and (.cons (.nil true (.loc 8)) (.cons (.nil false (.comp (.loc 10) 10 (.loc 6) (.cmp2 (.idx (.loc 8) (.neg (.cint 1))) .lt (.loc 10) .lt (.loc 3)))) .nil))))
  (.cons (.ife (.cmp .ne (.call 3 (.cons (.attr (.loc 0) 11) (.cons (.tup (.cons (.cstr s_p) .nil)) (.cons (.cstr s_button) .nil)))) (.loc 9)) (.cons (.ret (.cbool false))
  .nil) .nil)
  (.cons (.ife (.not (.loc 9)) (.cons (.ret (.cbool true))
  .nil) .nil)
  (.cons (.expr (.call 8 (.cons (.loc 0) .nil)))
  (.cons (.asg 4 (.bin .add (.loc 4) (.call 16 (.cons (.loc 5) (.cons (.idx (.loc 8) (.neg (.cint 1))) (.cons (.loc 3) .nil))))))
  (.cons (.asg 3 (.idx (.loc 8) (.neg (.cint 1))))
  (.cons (.ife (.or (.cons (.cmp .ne (.attr (.attr (.loc 0) 11) 1) (.upto (.loc 2) (.loc 3))) (.cons (.cmp .ne (.attr (.loc 0) 24) (.comp (.tup (.cons (.loc 11) (.cons (.cstr s_inXbody) .nil))) 11 (.loc 4) (.cbool true))) .nil))) (.cons (.ret (.cbool false))
  .nil) .nil)
  .nil))))))))

theorem lw_len (sol : List Nat) (a m : Nat) : (lawWords sol a m).length ≤ 1 := by
  unfold lawWords; split <;> simp
theorem closes_turn {qw q5 q6 : Nat} {x8 x9 : Option V} (K : Kds kd nd SP NM) (x0 : Bas G0 b t st isp inm fx SP NM) (kn : Knd G0 kq kd) (hn : G0[nq]? = some (.list (nodesV nd))) (h0 : kd[0]? = some (s_html, s_html))
    (h5 : G0[q5]? = some (.list (natsV ((List.range nd.length).filter (pk solB kd))))) (h6 : G0[q6]? = some (.list (natsV ((List.range nd.length).filter (pk enB kd)))))
    (hit : G0.length ≤ it) (her : G0.length ≤ er) (S : Sys H b st t it er isp inm nd SP NM m ws) (x : Bas H b t st isp inm fx SP NM) (g : Kp (Two b st) G0 H) (hw : H[qw]? = some (.list (ws.map V.str))) (hwi : qw ≠ it ∧ qw ≠ er) (hwl : ws.length ≤ 100) (h1 : 1 ≤ m)
    {Pf : Fl → Loc → AH → Prop} (pr : ∀ l' H', Bas H' b t st isp inm fx SP NM → Kp (Two b st) G0 H' → Pf (.ret (.bool true)) l' H')
    (pn : ∀ (p : Nat) (ws' : List Str) (qw' : Nat) (x7 x8 x9 : Option V) (H' : AH), Bas H' b t st isp inm fx SP NM → Kp (Two b st) G0 H' → Sys H' b st t it er isp inm nd SP NM p ws' → H'[qw']? = some (.list (ws'.map V.str)) → (qw' ≠ it ∧ qw' ≠ er) → ws'.length ≤ ws.length + 1 → 1 ≤ p → p < m →
      Pf .next [some (.ref b), some (.ref kq), some (.ref nq), some (.int (p : Int)), some (.ref qw'), some (.ref q5), some (.ref q6), x7, x8, x9, none, none] H') :
    vcSs TAB (CL (k + 4)) cBody [some (.ref b), some (.ref kq), some (.ref nq), some (.int (m : Int)), some (.ref qw), some (.ref q5), some (.ref q6), some (.int (j : Int)), x8, x9, none, none] H Pf := by
  have hsm := K.small
  have hkl : kd.length ≤ 1000 := by rw [K.len]; exact hsm
  have hml : m ≤ kd.length := by rw [K.len]; exact S.stk.hle
  have hm : m ≤ nd.length := S.stk.hle
  have knH := x0.keepK g kn
  have hnH := x0.keepL g hn
  have h5H := x0.keepL g h5
  have h6H := x0.keepL g h6
  unfold cBody
  -- the places
  refine S_asg (compR_spec (Cm_CL _) (pk (plB s_p) kd) (show 10 < 12 by decide) (by omega) (E_loc rfl ⟨rfl, rfl⟩) (fun j hj H4 g4 KK hKK => ?_) fun H1 g1 => ?_)
  · obtain ⟨r, kk, e1, ek, er'⟩ := (knH.grow g4).item hkl (show j < kd.length by omega)
    refine E_cmp (E_idx (E_loc rfl (E_loc rfl ⟨_, e1, E_tup (Es_cons (E_cstr (Es_cons (E_cstr (Es_nil ⟨two_lid, _, ?_, hKK _ (Kp.app _)⟩)))))⟩)))
    rw [cmp_eq, veq_tup (Gr.g (Kp.app _) er') (last_app _ _), pk_at ek]
  have g2 : Gr H (H1 ++ [AObj.list (natsV ((List.range m).filter (pk (plB s_p) kd)))]) := g1.trans (Kp.app _)
  have hq8 := last_app H1 (AObj.list (natsV ((List.range m).filter (pk (plB s_p) kd))))
  generalize hq8' : H1.length = q8 at *
  generalize hH2 : H1 ++ [AObj.list (natsV ((List.range m).filter (pk (plB s_p) kd)))] = H2 at *
  have hlen8 : (natsV ((List.range m).filter (pk (plB s_p) kd))).length ≤ lid := by
    have := filt_len (pk (plB s_p) kd) (show m ≤ 1000 by omega)
    rw [natsV_len]; unfold lid; omega
  have hemp : (natsV ((List.range m).filter (pk (plB s_p) kd))).isEmpty = (lastF (pk (plB s_p) kd) m).isNone := by
    rw [← filter_nil]; exact List.isEmpty_map
  have hsc := scanP_eq (L := nd.length) m hml hm
  -- is it in scope?
  have isin : ∀ {Q : V → AH → Prop}, (∀ H3, Gr H2 H3 → Q (.bool (scanP kd m)) H3) → vcE TAB (CL (k + 4)) (.and (.cons (.nil true (.loc 8)) (.cons (.nil false (.comp (.loc 10) 10 (.loc 6) (.cmp2 (.idx (.loc 8) (.neg (.cint 1))) .lt (.loc 10) .lt (.loc 3)))) .nil)))
      [some (.ref b), some (.ref kq), some (.ref nq), some (.int (m : Int)), some (.ref qw), some (.ref q5), some (.ref q6), some (.int (j : Int)), some (.ref q8), x9, none, none] H2 Q := by
    intro Q hQ
    cases hp : lastF (pk (plB s_p) kd) m with
    | none =>
      rw [hp] at hsc hemp
      dsimp only at hsc
      refine E_and (E_nil' (E_loc rfl ⟨_, getL_list hq8, hlen8, false, by rw [hemp]; rfl, ?_⟩))
      rw [if_neg (by decide), hemp]
      have := hQ H2 Kp.refl
      rw [hsc] at this; exact this
    | some p =>
      rw [hp] at hsc hemp
      dsimp only at hsc
      refine E_and (E_nil' (E_loc rfl ⟨_, getL_list hq8, hlen8, true, by rw [hemp]; rfl, ?_⟩))
      rw [if_pos rfl]
      refine A_one (E_nil' (comp_between (q := q6) (a := p) (m := m) (sol := (List.range nd.length).filter (pk enB kd)) (Cm_CL _) (show 10 < 12 by decide) (filt_len _ hsm) (E_loc rfl ⟨rfl, rfl⟩) (g2.g h6H)
        (fun y H3 Q g3 hQ => E_idx (E_loc rfl (E_neg ⟨_, at_last (items_list (g3.g hq8)) hlen8 (last_nats hp), hQ⟩))) (fun y H3 Q g3 hQ => E_loc rfl hQ) fun H3 g3 => ⟨_, getL_list (last_app _ _), ?_, ?_⟩))
      · rw [natsV_len]
        have h1 := List.length_filter_le (fun j => decide (p < j) && decide (j < m)) ((List.range nd.length).filter (pk enB kd))
        have h2 := filt_len (pk enB kd) hsm
        unfold lid; omega
      · rw [show (natsV (((List.range nd.length).filter (pk enB kd)).filter fun j => decide (p < j) && decide (j < m))).isEmpty = (((List.range nd.length).filter (pk enB kd)).filter fun j => decide (p < j) && decide (j < m)).isEmpty from List.isEmpty_map, any_empty, ← hsc, Bool.false_xor]
        exact hQ _ (g3.trans (Kp.app _))
  refine S_asg (isin fun H3 g3 => ?_)
  have g03 : Gr H H3 := g2.trans g3
  have S3 := S.keep g03
  obtain ⟨fb, a1, a2, a3, a4, a5⟩ := S3.bld.hb
  have gT : Gr H3 (H3 ++ [AObj.tup [V.str s_p]]) := Kp.app _
  have hq83 := g3.g hq8
  refine S_ife false (Cm_CL _) (E_cmp (E_call (Es_cons (E_attr rfl a1 a3 (Es_cons (E_tup ⟨(by decide : 1 ≤ lid), Es_cons (E_cstr (Es_nil (sp_in_scope K (S3.stk.keep gT) (last_app _ _) fun H4 g4 => E_loc rfl ⟨false, by rw [cmp_ne, veq_bool]; simp, rfl, fun h => (by cases h), fun _ => S_nil ?_⟩)))⟩))))))
  have g04 : Gr H H4 := g03.trans (gT.trans g4)
  have S4 := S.keep g04
  have x4 := x.grow g04
  have k04 : Kp (Two b st) G0 H4 := g.trans (Gr.any g04)
  have hq84 := Gr.g (gT.trans g4) hq83
  refine S_ife (!scanP kd m) (Cm_CL _) (E_not (b := scanP kd m) (Cm_CL _) (E_loc rfl ⟨rfl, rfl, fun _ => S_ret (pr _ _ x4 k04), fun hs => S_nil ?_⟩))
  have hs : scanP kd m = true := by simpa using hs
  obtain ⟨p, hp⟩ : ∃ p, lastF (pk (plB s_p) kd) m = some p := by
    cases hc : lastF (pk (plB s_p) kd) m with
    | some p => exact ⟨p, rfl⟩
    | none => rw [hsc, hc] at hs; cases hs
  obtain ⟨hpm, hpp, hpn⟩ := lastF_some hp
  have hp1 : 1 ≤ p := by
    cases p with
    | succ p => omega
    | zero =>
      rw [pk_at h0] at hpp
      exact absurd hpp (by decide +kernel)
  obtain ⟨c1, c2⟩ := close_eq (L := nd.length) hp hml hm
  refine S_expr (E_call (Es_cons (E_loc rfl (Es_nil (sp_close_p K S4 (by omega) fun H5 S5 k5 => ⟨nofun, nofun, ?_⟩)))))
  rw [c1, c2] at S5
  have itl : it < H.length := lt_of S.stk.hit
  have erl : er < H.length := by obtain ⟨es, e1, _⟩ := S.bld.her; exact lt_of e1
  have hq8l : H.length ≤ q8 := by rw [← hq8']; exact g1.1
  have fr : ∀ i, (i = it ∨ i = er) → G0.length ≤ i := fun i hi => by rcases hi with rfl | rfl <;> assumption
  have k05 : Kp (Two b st) G0 H5 := k04.fresh k5 fr
  obtain ⟨n1, n2, n3, n4, n5, n6, n7⟩ := x0.ne
  have x5 : Bas H5 b t st isp inm fx SP NM := by
    have l1 := lt_of x0.hsp
    have l2 := lt_of x0.hnm
    obtain ⟨fb0, y1, _⟩ := x0.hb
    obtain ⟨fs0, y2, _⟩ := x0.hst
    obtain ⟨ft0, y3, _⟩ := x0.htr
    have l3 := lt_of y1
    have l4 := lt_of y2
    have l5 := lt_of y3
    refine x4.turn k5 ?_ ?_ ?_ ?_ ?_ <;> (rintro (z | z) <;> omega)
  have hq85 : H5[q8]? = some (.list (natsV ((List.range m).filter (pk (plB s_p) kd)))) := k5.get hq84 (by rintro (z | z) <;> omega)
  have hw4 := g04.g hw
  have hw5 : H5[qw]? = some (.list (ws.map V.str)) := k5.get hw4 (fun z => z.elim hwi.1 hwi.2)
  have h55 := x0.keepL k05 h5
  have hn5 := x0.keepL k05 hn
  have hle2 := lw_len ((List.range nd.length).filter (pk solB kd)) p m
  refine S_asg (E_bin (E_loc rfl (E_call (Es_cons (E_loc rfl (Es_cons (E_idx (E_loc rfl (E_neg ⟨_, at_last (items_list hq85) hlen8 (last_nats hp), Es_cons (E_loc rfl (Es_nil (sp_law_words (sol := (List.range nd.length).filter (pk solB kd)) (a := p) (m := m) h55 (filt_len _ hsm) fun H6 r g6 hr h6' => ⟨_, add_list (g6.g hw5) h6' (by simp [lid]; omega), ?_⟩)))⟩)))))))))
  dsimp only
  rw [← List.map_append]
  have gW : Gr H6 (H6 ++ [AObj.list ((ws ++ lawWords ((List.range nd.length).filter (pk solB kd)) p m).map V.str)]) := Kp.app _
  have hq10 := last_app H6 (AObj.list ((ws ++ lawWords ((List.range nd.length).filter (pk solB kd)) p m).map V.str))
  have hl10 : H5.length ≤ H6.length := g6.1
  generalize hqq : H6.length = q10 at *
  generalize hH7 : H6 ++ [AObj.list ((ws ++ lawWords ((List.range nd.length).filter (pk solB kd)) p m).map V.str)] = H7 at *
  have g57 : Gr H5 H7 := g6.trans gW
  refine S_asg (E_idx (E_loc rfl (E_neg ⟨_, at_last (items_list (g57.g hq85)) hlen8 (last_nats hp), ?_⟩)))
  -- the last test
  have S7 := S5.keep g57
  obtain ⟨fs7, d1, d2, d3⟩ := S7.stk.hst
  obtain ⟨fb7, f1, f2, f3, f4, f5⟩ := S7.bld.hb
  refine S_ife false (Cm_CL _) (E_or (E_cmp (E_attr2 rfl f1 f3 d1 d3 (E_upto (E_loc rfl (E_loc rfl ⟨nodesV nd, (p : Int), getL_list (g57.g hn5), by rw [natsV_len]; unfold lid; omega, rfl, Int.natCast_nonneg _, by rw [natsV_len]; omega, ?_⟩))))))
  rw [Int.toNat_natCast, natsV_take]
  have g8 : Gr H7 (H7 ++ [AObj.list (nodesV (nd.take p))]) := Kp.app _
  refine ⟨false, ?_, false, rfl, ?_⟩
  · rw [cmp_ne, veq_nats (g8.g S7.stk.hit) (last_app _ _) (by simp; omega)]; rfl
  · have S8 := S7.keep g8
    obtain ⟨fb8, e1, e2, e3, e4, e5⟩ := S8.bld.hb
    obtain ⟨es, w1, w2, w3⟩ := S8.bld.her
    refine O_one (E_cmp (E_attr rfl e1 e4 (words_comp (q := q10) (Cm_CL _) (show 11 < 12 by decide) S8.bld.small (E_loc rfl ⟨rfl, rfl⟩) (g8.g hq10) fun H9 es' g9 l9 t9 => ?_)))
    have gL : Gr H9 (H9 ++ [AObj.list (es'.map V.ref)]) := Kp.app _
    have gall : Gr H5 (H9 ++ [AObj.list (es'.map V.ref)]) := g57.trans (g8.trans (g9.trans gL))
    refine ⟨false, ?_, rfl, fun h => (by cases h), fun _ => S_nil (S_nil (pn p (ws ++ lawWords ((List.range nd.length).filter (pk solB kd)) p m) q10 _ _ _ _ (x5.grow gall) (k05.trans (Gr.any gall)) (S5.keep gall) (Gr.g (g8.trans (g9.trans gL)) hq10) ?_ ?_ hp1 hpm))⟩
    · rw [cmp_ne, veq_words (Gr.g (g9.trans gL) w1) (last_app _ _) w2 l9 S8.bld.small (fun j e w u v => Gr.g (g9.trans gL) (w3 j e w u v)) (fun j e w u v => gL.g (t9 j e w u v))]; rfl
    · have := g04.1; have := k5.1; omega
    · rw [List.length_append]; omega
end
end Mine
end
section
open PySem PySem.W PySem.Calls PyProof.Rows
namespace Mine
section
variable {H H' : AH} {b t st isp inm kq nq m k : Nat} {kd : List (Str × Str)} {nd : List Nat} {SP NM : List Str} {fx : List (Nat × V)} {P : V → AH → Prop}

/-- the row's judgement of the p's -/
theorem sp_closes (K : Kds kd nd SP NM) (x : Bas H b t st isp inm fx SP NM) (kn : Knd H kq kd) (hn : H[nq]? = some (.list (nodesV nd))) (h1 : 1 ≤ nd.length) (hL : nd.length ≤ 12) (h0 : kd[0]? = some (s_html, s_html))
    (p : ∀ H', Bas H' b t st isp inm fx SP NM → Kp (Two b st) H H' → P (.bool true) H') : CL (k + 5) 18 [.ref b, .ref kq, .ref nq] H P := by
  have hsm := K.small
  have hkl : kd.length ≤ 1000 := by rw [K.len]; exact hsm
  have hnl : nd.length ≤ kd.length := by rw [K.len]; exact Nat.le_refl _
  refine call_of rfl rfl ?_ (by decide)
  refine S_asg (E_len (E_loc rfl ⟨_, items_list hn, by rw [natsV_len]; unfold lid; omega, ?_⟩))
  rw [natsV_len]
  refine S_asg (E_lst ⟨(by decide : 0 ≤ lid), ?_⟩)
  have g1 : Gr H (H ++ [AObj.list []]) := Kp.app _
  have hq4 := last_app H (AObj.list [])
  generalize hq4' : H.length = q4 at *
  generalize hH1 : H ++ [AObj.list []] = H1 at *
  have kn1 := kn.grow g1
  refine S_asg (compR_spec (Cm_CL _) (pk solB kd) (show 10 < 12 by decide) (by omega) (E_loc rfl ⟨rfl, rfl⟩) (fun j hj H4 g4 KK hKK => ?_) fun H2 g2 => ?_)
  · obtain ⟨r, kk, e1, ek, er'⟩ := (kn1.grow g4).item hkl (show j < kd.length by omega)
    refine E_call (Es_cons (E_idx (E_loc rfl (E_loc rfl ⟨_, e1, Es_nil (sp_law_solid er' fun H5 g5 => ?_)⟩))))
    have := hKK H5 g5
    rw [pk_at ek] at this; exact this
  have g3 : Gr H1 (H2 ++ [AObj.list (natsV ((List.range nd.length).filter (pk solB kd)))]) := g2.trans (Kp.app _)
  have hq5 := last_app H2 (AObj.list (natsV ((List.range nd.length).filter (pk solB kd))))
  have l5 := g2.1
  generalize hq5' : H2.length = q5 at *
  generalize hH3 : H2 ++ [AObj.list (natsV ((List.range nd.length).filter (pk solB kd)))] = H3 at *
  have kn3 := kn1.grow g3
  refine S_asg (compR_spec (Cm_CL _) (pk enB kd) (show 10 < 12 by decide) (by omega) (E_loc rfl ⟨rfl, rfl⟩) (fun j hj H4 g4 KK hKK => ?_) fun H4 g4 => ?_)
  · obtain ⟨r, kk, e1, ek, er'⟩ := (kn3.grow g4).item hkl (show j < kd.length by omega)
    refine E_call (Es_cons (E_idx (E_loc rfl (E_loc rfl ⟨_, e1, Es_nil (sp_law_ends er' (K.spaces kk (List.mem_of_getElem? ek)) fun H5 g5 => ?_)⟩))))
    have := hKK H5 g5
    rw [pk_at ek] at this; exact this
  have g5 : Gr H3 (H4 ++ [AObj.list (natsV ((List.range nd.length).filter (pk enB kd)))]) := g4.trans (Kp.app _)
  have hq6 := last_app H4 (AObj.list (natsV ((List.range nd.length).filter (pk enB kd))))
  generalize hq6' : H4.length = q6 at *
  generalize hG0 : H4 ++ [AObj.list (natsV ((List.range nd.length).filter (pk enB kd)))] = G0 at *
  have gA : Gr H G0 := g1.trans (g3.trans g5)
  have x0 := x.grow gA
  have kn0 := kn.grow gA
  have hn0 := gA.g hn
  have hq40 := Gr.g (g3.trans g5) hq4
  have hq50 := g5.g hq5
  obtain ⟨fb, a1, a2, a3, a4, a5, a6, a7⟩ := x0.hb
  obtain ⟨fs, b1, b2, b3, b4⟩ := x0.hst
  obtain ⟨S2, B2, k2, g1b⟩ := x0.sys (nd := nd) (Nat.le_refl _) b1 a1
  refine S_setA' (E_whole (E_loc rfl ⟨_, getL_list hn0, by rw [natsV_len]; unfold lid; omega, ?_⟩))
  have gS : Gr G0 (G0 ++ [AObj.list (nodesV nd)]) := Kp.app _
  refine E_attr rfl (gS.g a1) a3 ⟨st, 0, fs, rfl, gS.g b1, by omega, ?_⟩
  rw [List.take_length] at S2 B2 k2 g1b
  refine S_setA' (E_lst ⟨(by decide : 0 ≤ lid), E_loc rfl ⟨b, 3, fb, rfl, Gr.g (Kp.app _) g1b, by omega, ?_⟩⟩)
  generalize hit : G0.length = it at *
  generalize hH5 : ((G0 ++ [AObj.list (nodesV nd)]).set st (.inst 0 (put 1 (.ref it) fs))) = H5 at *
  have hl5 : H5.length = G0.length + 1 := by rw [← hH5]; simp
  generalize her : H5.length = er at *
  generalize hH6 : ((H5 ++ [AObj.list []]).set b (.inst 3 (put 24 (.ref er) fb))) = H6 at *
  have hq4l := lt_of hq40
  refine S_forR (E_cint ⟨12, rfl, by decide, by decide, ?_⟩)
  refine for_inv (Cm_CL _) (fun j l H' => ∃ (m : Nat) (ws : List Str) (qw : Nat) (x7 x8 x9 : Option V), l = [some (.ref b), some (.ref kq), some (.ref nq), some (.int (m : Int)), some (.ref qw), some (.ref q5), some (.ref q6), x7, x8, x9, none, none] ∧ Sys H' b st t it er isp inm nd SP NM m ws ∧
    Bas H' b t st isp inm fx SP NM ∧ Kp (Two b st) G0 H' ∧ H'[qw]? = some (.list (ws.map V.str)) ∧ (qw ≠ it ∧ qw ≠ er) ∧ ws.length ≤ j ∧ 1 ≤ m ∧ m + j ≤ nd.length) ?_ ?_ ⟨nd.length, [], q4, _, _, _, rfl, S2, B2, k2, x0.keepL k2 hq40, ⟨by omega, by omega⟩, Nat.le_refl _, h1, by omega⟩
  · rintro j v l H' hv ⟨m, ws, qw, x7, x8, x9, rfl, S', B', k', hw, hwi, hwl, hm1, hmj⟩ Q qn qr
    have hj : j < 12 := by
      have := (List.getElem?_eq_some_iff.mp hv).1
      simpa [upL] using this
    have hvj : v = .int (j : Int) := by
      have hv' : (natsV (List.range 12))[j]? = some v := hv
      rw [List.getElem?_map, List.getElem?_range hj] at hv'
      exact (Option.some.inj hv').symm
    subst hvj
    exact closes_turn (k := k) (j := j) (G0 := G0) (qw := qw) (q5 := q5) (q6 := q6) (x8 := x8) (x9 := x9) K x0 kn0 hn0 h0 hq50 hq6 (by omega) (by omega) S' B' k' hw hwi (by omega) hm1
      (fun l' H'' y1 y2 => qr _ _ _ (p H'' y1 (Kp.trans (Gr.any gA) y2)))
      fun q ws' qw' z7 z8 z9 H'' y1 y2 S'' hw'' hwi'' hl'' hq1 hqm => qn _ _ trivial ⟨q, ws', qw', z7, z8, z9, rfl, S'', y1, y2, hw'', hwi'', by omega, hq1, by omega⟩
  · rintro l H' ⟨m, ws, qw, x7, x8, x9, rfl, S', B', k', hw, hwi, hwl, hm1, hmj⟩
    have : (upL 12).length = 12 := rfl
    omega
end
end Mine
end
section
open PySem PySem.W PySem.Calls PyProof.Rows
namespace Mine
theorem lt7 : ∀ n : Nat, n < 7 → n = 0 ∨ n = 1 ∨ n = 2 ∨ n = 3 ∨ n = 4 ∨ n = 5 ∨ n = 6 := by decide
theorem lt8 : ∀ n : Nat, n < 8 → n = 0 ∨ n = 1 ∨ n = 2 ∨ n = 3 ∨ n = 4 ∨ n = 5 ∨ n = 6 ∨ n = 7 := by decide
section
variable {H H' : AH} {k : Nat} {P : V → AH → Prop}
theorem lt_int (a b : Int) (H : AH) : opCmp .lt (.int a) (.int b) H = some (decide (a < b)) := rfl
theorem ints_at {ns : List Int} {j : Nat} (h : j < ns.length) (hl : ns.length ≤ 63) : ∃ i, itemAt (.bl ns) (.int (j : Int)) H = some (.int i) := by
  refine ⟨ns[j], at_front (v := .bl ns) rfl (by simp [lid]; omega) ?_⟩
  rw [List.getElem?_map, List.getElem?_eq_getElem h]; rfl

theorem sp_digit {ns : List Int} {j : Nat} (hn : ns.length ≤ 63) (hj : j ≤ 10) (p : ∀ i H', Gr H H' → P (.int i) H') : CL (k + 1) 9 [.bl ns, .int (j : Int)] H P := by
  refine call_of rfl rfl ?_ (by decide)
  refine S_asg (E_tup ⟨(by decide : 11 ≤ lid), ?_⟩)
  have g : Gr H (H ++ [AObj.tup [.int 0, .int 3, .int 1, .int 7, .int 3, .int 20, .int 9, .int 6, .int 17, .int 32, .int 0]]) := Kp.app _
  refine S_ret (E_ite (decide ((j : Int) < (ns.length : Int))) (Cm_CL _) (E_cmp (E_loc rfl (E_len (E_loc rfl ⟨ns.map V.int, rfl, by simp [lid]; omega, ⟨_, lt_int _ _ _, by rw [List.length_map], fun h => ?_, fun h => ?_⟩⟩)))))
  · have hj : j < ns.length := by simpa using h
    obtain ⟨i, hi⟩ := ints_at (H := H ++ [AObj.tup [.int 0, .int 3, .int 1, .int 7, .int 3, .int 20, .int 9, .int 6, .int 17, .int 32, .int 0]]) hj hn
    exact E_idx (E_loc rfl (E_loc rfl ⟨_, hi, p _ _ g⟩))
  · have : ∃ i, ([.int 0, .int 3, .int 1, .int 7, .int 3, .int 20, .int 9, .int 6, .int 17, .int 32, .int 0] : List V)[j]? = some (.int i) := by
      show ∃ i, (([0, 3, 1, 7, 3, 20, 9, 6, 17, 32, 0] : List Int).map V.int)[j]? = _
      rw [List.getElem?_map, List.getElem?_eq_getElem (show j < 11 by omega)]
      exact ⟨_, rfl⟩
    obtain ⟨i, hi⟩ := this
    exact E_idx (E_loc rfl (E_loc rfl ⟨_, at_front (items_tup (last_app _ _)) (by decide : 11 ≤ lid) hi, p _ _ g⟩))

theorem add_fdiv {a b : Int} (h : 0 < b) (hl : b ≤ lid) : opBin .fdiv (.int a) (.int b) H = some (.int (a.fdiv b), H) := by
  exact if_pos ⟨h, hl⟩
theorem add_mod {a b : Int} (h : 0 < b) : opBin .mod (.int a) (.int b) H = some (.int (a.fmod b), H) := by
  exact if_neg (by omega)
/-- a rest is a place -/
theorem rest_at (a : Int) {b : Nat} (h : 0 < b) : ∃ n : Nat, n < b ∧ a.fmod (b : Int) = (n : Int) := by
  have hb : (0 : Int) < (b : Int) := by omega
  have h1 := Int.fmod_nonneg_of_pos a hb
  have h2 := Int.fmod_lt_of_pos a hb
  exact ⟨(a.fmod b).toNat, by omega, by omega⟩
noncomputable abbrev Sps (kq : Str × Str) : Prop := kq.1 = s_html ∨ kq.1 = s_svg ∨ kq.1 = s_math
noncomputable abbrev GW : List Str := Txt.words s_gXdescXpXtitleXrtXforeig
theorem gw_len : 0 < GW.length ∧ GW.length ≤ 100 := by decide +kernel
/-- a list of names -/
noncomputable def NamesAt (H : AH) (q : Nat) : Prop := ∃ ss : List Str, H[q]? = some (.list (ss.map V.str)) ∧ 0 < ss.length ∧ ss.length ≤ 100
theorem NamesAt.grow {q : Nat} (x : NamesAt H q) (g : Gr H H') : NamesAt H' q := by
  obtain ⟨ss, a, b⟩ := x
  exact ⟨ss, g.g a, b⟩
theorem names_new {H : AH} (ss : List Str) (h : 0 < ss.length ∧ ss.length ≤ 100) : NamesAt (H ++ [AObj.list (ss.map V.str)]) H.length := ⟨ss, last_app _ _, h.1, h.2⟩

theorem sp_kind {d : Int} (p : ∀ kq H' r, Sps kq → Gr H H' → H'[r]? = some (kdV kq) → P (.ref r) H') : CL (k + 2) 12 [.int d] H P := by
  refine call_of rfl rfl ?_ (by decide)
  refine S_asg (E_bin (E_loc rfl (E_cint ⟨_, add_fdiv (by decide) (by decide), ?_⟩)))
  dsimp only
  -- the eight lists of names
  refine S_asg (E_idx (E_tup ?_))
  refine Es_cons (E_lst ⟨(by decide : 6 ≤ lid), ?_⟩)
  have g1 : Gr H (H ++ [AObj.list [V.str s_option, V.str s_optgroup, V.str s_rb, V.str s_rp, V.str s_rt, V.str s_rtc]]) := Kp.app _
  have n1 : NamesAt (H ++ [AObj.list [V.str s_option, V.str s_optgroup, V.str s_rb, V.str s_rp, V.str s_rt, V.str s_rtc]]) H.length := names_new (H := H) [s_option, s_optgroup, s_rb, s_rp, s_rt, s_rtc] (by decide)
  have o1 : H ++ [AObj.list [V.str s_option, V.str s_optgroup, V.str s_rb, V.str s_rp, V.str s_rt, V.str s_rtc]] = H ++ [AObj.list [V.str s_option, V.str s_optgroup, V.str s_rb, V.str s_rp, V.str s_rt, V.str s_rtc]] := rfl
  generalize hq1 : H.length = q1 at *
  generalize hH1 : H ++ [AObj.list [V.str s_option, V.str s_optgroup, V.str s_rb, V.str s_rp, V.str s_rt, V.str s_rtc]] = H1 at *
  refine Es_cons (E_lst ⟨(by decide : 8 ≤ lid), ?_⟩)
  have g2 : Gr H1 (H1 ++ [AObj.list [V.str s_span, V.str s_b, V.str s_em, V.str s_ruby, V.str s_abbr, V.str s_label, V.str s_code, V.str s_i]]) := Kp.app _
  have n2 : NamesAt (H1 ++ [AObj.list [V.str s_span, V.str s_b, V.str s_em, V.str s_ruby, V.str s_abbr, V.str s_label, V.str s_code, V.str s_i]]) H1.length := names_new (H := H1) [s_span, s_b, s_em, s_ruby, s_abbr, s_label, s_code, s_i] (by decide)
  have o2 : H1 ++ [AObj.list [V.str s_span, V.str s_b, V.str s_em, V.str s_ruby, V.str s_abbr, V.str s_label, V.str s_code, V.str s_i]] = H1 ++ [AObj.list [V.str s_span, V.str s_b, V.str s_em, V.str s_ruby, V.str s_abbr, V.str s_label, V.str s_code, V.str s_i]] := rfl
  generalize hq2 : H1.length = q2 at *
  generalize hH2 : H1 ++ [AObj.list [V.str s_span, V.str s_b, V.str s_em, V.str s_ruby, V.str s_abbr, V.str s_label, V.str s_code, V.str s_i]] = H2 at *
  refine Es_cons (E_lst ⟨(by decide : 4 ≤ lid), ?_⟩)
  have g3 : Gr H2 (H2 ++ [AObj.list [V.str s_rt, V.str s_option, V.str s_u, V.str s_span]]) := Kp.app _
  have n3 : NamesAt (H2 ++ [AObj.list [V.str s_rt, V.str s_option, V.str s_u, V.str s_span]]) H2.length := names_new (H := H2) [s_rt, s_option, s_u, s_span] (by decide)
  have o3 : H2 ++ [AObj.list [V.str s_rt, V.str s_option, V.str s_u, V.str s_span]] = H2 ++ [AObj.list [V.str s_rt, V.str s_option, V.str s_u, V.str s_span]] := rfl
  generalize hq3 : H2.length = q3 at *
  generalize hH3 : H2 ++ [AObj.list [V.str s_rt, V.str s_option, V.str s_u, V.str s_span]] = H3 at *
  refine Es_cons (E_lst ⟨(by decide : 1 ≤ lid), ?_⟩)
  have g4 : Gr H3 (H3 ++ [AObj.list [V.str s_p]]) := Kp.app _
  have n4 : NamesAt (H3 ++ [AObj.list [V.str s_p]]) H3.length := names_new (H := H3) [s_p] (by decide)
  have o4 : H3 ++ [AObj.list [V.str s_p]] = H3 ++ [AObj.list [V.str s_p]] := rfl
  generalize hq4 : H3.length = q4 at *
  generalize hH4 : H3 ++ [AObj.list [V.str s_p]] = H4 at *
  refine Es_cons (E_lst ⟨(by decide : 4 ≤ lid), ?_⟩)
  have g5 : Gr H4 (H4 ++ [AObj.list [V.str s_dd, V.str s_dt, V.str s_li, V.str s_p]]) := Kp.app _
  have n5 : NamesAt (H4 ++ [AObj.list [V.str s_dd, V.str s_dt, V.str s_li, V.str s_p]]) H4.length := names_new (H := H4) [s_dd, s_dt, s_li, s_p] (by decide)
  have o5 : H4 ++ [AObj.list [V.str s_dd, V.str s_dt, V.str s_li, V.str s_p]] = H4 ++ [AObj.list [V.str s_dd, V.str s_dt, V.str s_li, V.str s_p]] := rfl
  generalize hq5 : H4.length = q5 at *
  generalize hH5 : H4 ++ [AObj.list [V.str s_dd, V.str s_dt, V.str s_li, V.str s_p]] = H5 at *
  refine Es_cons (E_call (Es_nil (sp_specials ?_)))
  have g6 : Gr H5 (H5 ++ [AObj.list (HTMLS.map V.str)]) := Kp.app _
  have n6 : NamesAt (H5 ++ [AObj.list (HTMLS.map V.str)]) H5.length := names_new (H := H5) HTMLS (by decide +kernel)
  have o6 : H5 ++ [AObj.list (HTMLS.map V.str)] = H5 ++ [AObj.list (HTMLS.map V.str)] := rfl
  generalize hq6 : H5.length = q6 at *
  generalize hH6 : H5 ++ [AObj.list (HTMLS.map V.str)] = H6 at *
  refine Es_cons (E_split (E_cstr ⟨_, rfl, by decide +kernel, ?_⟩))
  have g7 : Gr H6 (H6 ++ [AObj.list ((Txt.words s_gXdescXpXtitleXrtXforeig).map V.str)]) := Kp.app _
  have n7 : NamesAt (H6 ++ [AObj.list ((Txt.words s_gXdescXpXtitleXrtXforeig).map V.str)]) H6.length := names_new (H := H6) (Txt.words s_gXdescXpXtitleXrtXforeig) gw_len
  have o7 : H6 ++ [AObj.list ((Txt.words s_gXdescXpXtitleXrtXforeig).map V.str)] = H6 ++ [AObj.list ((Txt.words s_gXdescXpXtitleXrtXforeig).map V.str)] := rfl
  generalize hq7 : H6.length = q7 at *
  generalize hH7 : H6 ++ [AObj.list ((Txt.words s_gXdescXpXtitleXrtXforeig).map V.str)] = H7 at *
  refine Es_cons (E_lst ⟨(by decide : 12 ≤ lid), ?_⟩)
  have g8 : Gr H7 (H7 ++ [AObj.list [V.str s_button, V.str s_td, V.str s_th, V.str s_caption, V.str s_table, V.str s_object, V.str s_applet, V.str s_marquee, V.str s_template, V.str s_ol, V.str s_ul, V.str s_html]]) := Kp.app _
  have n8 : NamesAt (H7 ++ [AObj.list [V.str s_button, V.str s_td, V.str s_th, V.str s_caption, V.str s_table, V.str s_object, V.str s_applet, V.str s_marquee, V.str s_template, V.str s_ol, V.str s_ul, V.str s_html]]) H7.length := names_new (H := H7) [s_button, s_td, s_th, s_caption, s_table, s_object, s_applet, s_marquee, s_template, s_ol, s_ul, s_html] (by decide)
  have o8 : H7 ++ [AObj.list [V.str s_button, V.str s_td, V.str s_th, V.str s_caption, V.str s_table, V.str s_object, V.str s_applet, V.str s_marquee, V.str s_template, V.str s_ol, V.str s_ul, V.str s_html]] = H7 ++ [AObj.list [V.str s_button, V.str s_td, V.str s_th, V.str s_caption, V.str s_table, V.str s_object, V.str s_applet, V.str s_marquee, V.str s_template, V.str s_ol, V.str s_ul, V.str s_html]] := rfl
  generalize hq8 : H7.length = q8 at *
  generalize hH8 : H7 ++ [AObj.list [V.str s_button, V.str s_td, V.str s_th, V.str s_caption, V.str s_table, V.str s_object, V.str s_applet, V.str s_marquee, V.str s_template, V.str s_ol, V.str s_ul, V.str s_html]] = H8 at *
  refine Es_nil ⟨(by decide : 8 ≤ lid), ?_⟩
  have g9 : Gr H8 (H8 ++ [AObj.tup [.ref q1, .ref q2, .ref q3, .ref q4, .ref q5, .ref q6, .ref q7, .ref q8]]) := Kp.app _
  have t9 := last_app H8 (AObj.tup [.ref q1, .ref q2, .ref q3, .ref q4, .ref q5, .ref q6, .ref q7, .ref q8])
  generalize hq9 : H8.length = q9 at *
  generalize hH9 : H8 ++ [AObj.tup [.ref q1, .ref q2, .ref q3, .ref q4, .ref q5, .ref q6, .ref q7, .ref q8]] = H9 at *
  have gall : Gr H H9 := g1.trans (g2.trans (g3.trans (g4.trans (g5.trans (g6.trans (g7.trans (g8.trans g9)))))))
  refine E_bin (E_loc rfl (E_cint ⟨_, add_mod (by decide), ?_⟩))
  dsimp only
  obtain ⟨n, hn, hnm⟩ := rest_at d (b := 8) (by decide)
  rw [show d.fmod 8 = (n : Int) from hnm]
  have pick : ∃ q, ([.ref q1, .ref q2, .ref q3, .ref q4, .ref q5, .ref q6, .ref q7, .ref q8] : List V)[n]? = some (.ref q) ∧ NamesAt H9 q := by
    have m8 : NamesAt H9 q8 := n8.grow g9
    have m7 : NamesAt H9 q7 := n7.grow (g8.trans g9)
    have m6 : NamesAt H9 q6 := n6.grow (g7.trans (g8.trans g9))
    have m5 : NamesAt H9 q5 := n5.grow (g6.trans (g7.trans (g8.trans g9)))
    have m4 : NamesAt H9 q4 := n4.grow (g5.trans (g6.trans (g7.trans (g8.trans g9))))
    have m3 : NamesAt H9 q3 := n3.grow (g4.trans (g5.trans (g6.trans (g7.trans (g8.trans g9)))))
    have m2 : NamesAt H9 q2 := n2.grow (g3.trans (g4.trans (g5.trans (g6.trans (g7.trans (g8.trans g9))))))
    have m1 : NamesAt H9 q1 := n1.grow (g2.trans (g3.trans (g4.trans (g5.trans (g6.trans (g7.trans (g8.trans g9)))))))
    have := lt8 n (by assumption)
    rcases this with rfl | rfl | rfl | rfl | rfl | rfl | rfl | rfl
    · exact ⟨_, rfl, m1⟩
    · exact ⟨_, rfl, m2⟩
    · exact ⟨_, rfl, m3⟩
    · exact ⟨_, rfl, m4⟩
    · exact ⟨_, rfl, m5⟩
    · exact ⟨_, rfl, m6⟩
    · exact ⟨_, rfl, m7⟩
    · exact ⟨_, rfl, m8⟩
  obtain ⟨q, hq, ss, hs, hs0, hs1⟩ := pick
  refine ⟨_, at_front (items_tup t9) (by decide : 8 ≤ lid) hq, ?_⟩
  clear n1 n2 n3 n4 n5 n6 n7 n8 g1 g2 g3 g4 g5 g6 g7 g8 g9
  have hsl : (ss.map V.str).length ≤ lid := by simp [lid]; omega
  have hsn : (0 : Int) < ((ss.map V.str).length : Nat) := by simp; omega
  have hsn2 : (((ss.map V.str).length : Nat) : Int) ≤ lid := by omega
  -- the name
  have last : ∀ sp H10, Gr H H10 → H10[q]? = some (.list (ss.map V.str)) → (sp = s_html ∨ sp = s_svg ∨ sp = s_math) →
      vcSs TAB (CL (k + 1)) (.cons (.ret (.tup (.cons (.loc 3) (.cons (.idx (.loc 2) (.bin .mod (.loc 1) (.len (.loc 2)))) .nil)))) .nil) [some (.int d), some (.int (d.fdiv 8)), some (.ref q), some (.str sp)] H10 (Rf P) := by
    intro sp H10 g10 h10 hsp
    obtain ⟨j, hj, hjm⟩ := rest_at (d.fdiv 8) (b := (ss.map V.str).length) (by simp; omega)
    have hj' : j < ss.length := by simpa using hj
    refine S_ret (E_tup (Es_cons (E_loc rfl (Es_cons (E_idx (E_loc rfl (E_bin (E_loc rfl (E_len (E_loc rfl ⟨_, items_list h10, hsl, ⟨_, add_mod hsn, ?_⟩⟩))))))))))
    dsimp only
    rw [hjm]
    refine ⟨.str ss[j], at_front (items_list h10) hsl (by rw [List.getElem?_map, List.getElem?_eq_getElem hj']; rfl), Es_nil ⟨two_lid, ?_⟩⟩
    exact p (sp, ss[j]) _ _ hsp (g10.trans (Kp.app _)) (last_app _ _)
  refine S_asg (E_ite ((d.fmod 8) == 6) (Cm_CL _) (E_cmp (E_bin (E_loc rfl (E_cint ⟨_, add_mod (by decide), E_cint ⟨_, eq_int _ _ _, rfl, fun h => ?_, fun h => ?_⟩⟩)))))
  · refine E_idx (E_tup (Es_cons (E_cstr (Es_cons (E_cstr (Es_nil ⟨two_lid, ?_⟩))))))
    have g10 : Gr H9 (H9 ++ [AObj.tup [.str s_svg, .str s_math]]) := Kp.app _
    have t10 := last_app H9 (AObj.tup [.str s_svg, .str s_math])
    generalize hq10 : H9.length = q10 at *
    generalize hH10 : H9 ++ [AObj.tup [.str s_svg, .str s_math]] = H10 at *
    refine E_bin (E_bin (E_loc rfl (E_len (E_loc rfl ⟨_, items_list (g10.g hs), hsl, ⟨_, add_fdiv hsn hsn2, E_cint ⟨_, add_mod (by decide), ?_⟩⟩⟩))))
    dsimp only
    obtain ⟨j, hj, hjm⟩ := rest_at ((d.fdiv 8).fdiv ((ss.map V.str).length : Nat)) (b := 2) (by decide)
    rw [show ((d.fdiv 8).fdiv ((ss.map V.str).length : Nat)).fmod 2 = (j : Int) from hjm]
    have : j = 0 ∨ j = 1 := by omega
    rcases this with rfl | rfl
    · exact ⟨.str s_svg, at_front (items_tup t10) two_lid rfl, last _ _ (gall.trans g10) (g10.g hs) (.inr (.inl rfl))⟩
    · exact ⟨.str s_math, at_front (items_tup t10) two_lid rfl, last _ _ (gall.trans g10) (g10.g hs) (.inr (.inr rfl))⟩
  · exact E_cstr (last _ _ gall hs (.inl rfl))
end
end Mine
end
section
open PySem PySem.W PySem.Calls PyProof.Rows
namespace Mine

/-! ## the tree: seven lists that grow together -/
structure Ar (H : AH) (t : Nat) (ls : List (List V)) : Prop where
  ht : ∃ ft, H[t]? = some (.inst 2 ft) ∧ ∀ c, c ≤ 7 → lk (c + 2) ft = some (.ref (t + 1 + c))
  at_ : ∀ (c : Nat) (L : List V), ls[c]? = some L → H[t + 1 + c]? = some (.list L)
  len : ls.length = 7
theorem Ar.lt {H : AH} {t c : Nat} {L : List V} {ls : List (List V)} (x : Ar H t ls) (e : ls[c]? = some L) : c < 7 := by
  have := (List.getElem?_eq_some_iff.mp e).1
  rw [x.len] at this; exact this
theorem Ar.keep {S : Nat → Prop} {H H' : AH} {t : Nat} {ls : List (List V)} (x : Ar H t ls) (g : Kp S H H') (h : ∀ i, S i → i < t ∨ t + 8 ≤ i) : Ar H' t ls := by
  obtain ⟨⟨ft, a, b⟩, d, e⟩ := x
  refine ⟨⟨ft, g.get a fun s => ?_, b⟩, fun c L e' => g.get (d c L e') fun s => ?_, e⟩
  · have := h _ s; omega
  · have := h _ s
    have := (List.getElem?_eq_some_iff.mp e').1
    omega
theorem Ar.grow {H H' : AH} {t : Nat} {ls : List (List V)} (x : Ar H t ls) (g : Gr H H') : Ar H' t ls := x.keep g fun i h => h.elim
theorem Ar.push {H : AH} {t c : Nat} {L L' : List V} {ls : List (List V)} (x : Ar H t ls) (e : ls[c]? = some L) : Ar (H.set (t + 1 + c) (.list L')) t (ls.set c L') := by
  obtain ⟨⟨ft, a, b⟩, d, e'⟩ := x
  have hc := lt_of (d c L e)
  refine ⟨⟨ft, by rw [List.getElem?_set_ne (by omega)]; exact a, b⟩, fun j M h => ?_, by rw [List.length_set]; exact e'⟩
  by_cases hj : j = c
  · subst hj
    rw [List.getElem?_set_self (List.getElem?_eq_some_iff.mp e).1] at h
    cases h
    rw [List.getElem?_set_self hc]
  · rw [List.getElem?_set_ne (by omega)] at h
    rw [List.getElem?_set_ne (by omega)]
    exact d j M h
noncomputable abbrev Row (t : Nat) : Nat → Prop := fun i => t < i ∧ i < t + 8
section
variable {T : Tab} {cl : Cl} {l : Loc} {H : AH}
theorem E_mkl {a : X} {P : V → AH → Prop} (h : vcE T cl a l H fun v H => v = .etup ∧ P (.ref H.length) (H ++ [.list []])) : vcE T cl (.mkl a) l H P := h
theorem S_app {t : Nat} {ls : List (List V)} (c : Nat) {L : List V} {e : X} {ss : Ss} {P : Fl → Loc → AH → Prop} (x : Ar H t ls) (hL : ls[c]? = some L) (hs : L.length ≤ 1000) (h0 : l[0]? = some (some (.ref t)))
    (C : Cm cl) (h : vcE T cl e l H fun v H' => Gr H H' ∧ ∀ H'', Ar H'' t (ls.set c (L ++ [v])) → Kp (Row t) H' H'' → vcSs T cl ss l H'' P) :
    vcSs T cl (.cons (.expr (.app (.attr (.loc 0) (c + 2)) e)) ss) l H P := by
  have hc := x.lt hL
  obtain ⟨ft, a, b⟩ := x.ht
  refine S_expr (E_app (E_attr h0 a (b c (by omega)) ⟨by rw [getL_list (x.at_ c L hL)]; rfl, vcE_mono C e l H _ _ (fun v H' ⟨g, k⟩ => ?_) h⟩))
  have x' := x.grow g
  refine ⟨_, L, rfl, x'.at_ c L hL, by unfold lid; omega, nofun, nofun, k _ (x'.push hL) (Kp.set ⟨by omega, by omega⟩ _)⟩
end

structure Tr (H : AH) (t N : Nat) (SP NM : List Str) (PA : List Int) (CS : List Nat) (B : Nat) : Prop where
  ar : ∃ K A X, Ar H t [K, SP.map V.str, NM.map V.str, A, X, PA.map V.int, CS.map V.ref] ∧ K.length = N ∧ A.length = N ∧ X.length = N
  l1 : SP.length = N
  l2 : NM.length = N
  l3 : PA.length = N
  l4 : CS.length = N
  co : t + 8 < H.length
  ch : ∀ c ∈ CS, t + 8 < c ∧ ∃ ks : List Int, H[c]? = some (.list (ks.map V.int)) ∧ ks.length ≤ B
section
variable {H H' : AH} {t N B : Nat} {SP NM : List Str} {PA : List Int} {CS : List Nat} {k : Nat} {P : V → AH → Prop}
theorem Tr.keep {S : Nat → Prop} (x : Tr H t N SP NM PA CS B) (g : Kp S H H') (h : ∀ i, S i → i < t ∨ t + 8 ≤ i) (h' : ∀ i, S i → ∀ L, H[i]? ≠ some (.list L)) : Tr H' t N SP NM PA CS B := by
  obtain ⟨⟨K, A, X, x, k1, k2, k3⟩, l1, l2, l3, l4, co, ch⟩ := x
  refine ⟨⟨K, A, X, x.keep g h, k1, k2, k3⟩, l1, l2, l3, l4, Nat.lt_of_lt_of_le co g.1, fun c hc => ?_⟩
  obtain ⟨a, ks, b, d⟩ := ch c hc
  exact ⟨a, ks, g.get b fun s => h' c s _ b, d⟩
theorem Tr.grow (x : Tr H t N SP NM PA CS B) (g : Gr H H') : Tr H' t N SP NM PA CS B := x.keep g (fun i h => h.elim) fun i h => h.elim

theorem Tr.keep' {S : Nat → Prop} (x : Tr H t N SP NM PA CS B) (g : Kp S H H') (h : ∀ i, S i → i < t ∨ t + 8 ≤ i) (h' : ∀ i, S i → i ∉ CS) : Tr H' t N SP NM PA CS B := by
  obtain ⟨⟨K, A, X, x, k1, k2, k3⟩, l1, l2, l3, l4, co, ch⟩ := x
  refine ⟨⟨K, A, X, x.keep g h, k1, k2, k3⟩, l1, l2, l3, l4, Nat.lt_of_lt_of_le co g.1, fun c hc => ?_⟩
  obtain ⟨a, ks, b, d⟩ := ch c hc
  exact ⟨a, ks, g.get b fun s => h' c s hc, d⟩
/-- one more node -/
theorem add_body (x : Tr H t N SP NM PA CS B) (hN : N ≤ 1000) {kind sp nm tx : Str} (p : ∀ H' c, Tr H' t (N + 1) (SP ++ [sp]) (NM ++ [nm]) (PA ++ [-1]) (CS ++ [c]) B → Kp (Row t) H H' → H.length ≤ c → P (.int (N : Int)) H') :
    vcSs TAB (CL k) f_Tree_add.body [some (.ref t), some (.str kind), some (.str sp), some (.str nm), some .etup, some (.str tx)] H (Rf P) := by
  obtain ⟨⟨K, A, X, x, k1, k2, k3⟩, l1, l2, l3, l4, co, ch⟩ := x
  refine S_app 0 x rfl (by omega) rfl (Cm_CL _) (E_loc rfl ⟨Kp.refl, fun H1 x1 g1 => ?_⟩)
  refine S_app 1 x1 rfl (by simp; omega) rfl (Cm_CL _) (E_loc rfl ⟨Kp.refl, fun H2 x2 g2 => ?_⟩)
  refine S_app 2 x2 rfl (by simp; omega) rfl (Cm_CL _) (E_loc rfl ⟨Kp.refl, fun H3 x3 g3 => ?_⟩)
  refine S_app 3 x3 rfl (by omega) rfl (Cm_CL _) (E_mkl (E_loc rfl ⟨rfl, Kp.app _, fun H4 x4 g4 => ?_⟩))
  refine S_app 4 x4 rfl (by omega) rfl (Cm_CL _) (E_loc rfl ⟨Kp.refl, fun H5 x5 g5 => ?_⟩)
  refine S_app 5 x5 rfl (by simp; omega) rfl (Cm_CL _) (E_neg ⟨Kp.refl, fun H6 x6 g6 => ?_⟩)
  have gA : Kp (Row t) H H6 := g1.trans (g2.trans (g3.trans ((Kp.app (S := Row t) _).trans (g4.trans (g5.trans g6)))))
  refine S_app 6 x6 rfl (by simp; omega) rfl (Cm_CL _) (E_lst (Es_nil ⟨Nat.zero_le _, Kp.app _, fun H7 x7 g7 => ?_⟩))
  have hc : t + 8 < H6.length := Nat.lt_of_lt_of_le co gA.1
  have hnew := g7.get (last_app H6 (AObj.list [])) (fun s => by have := s.2; omega)
  have hcl : H.length ≤ H6.length := gA.1
  have gB : Kp (Row t) H H7 := gA.trans ((Kp.app (S := Row t) _).trans g7)
  generalize H6.length = c at *
  obtain ⟨ft, a, b⟩ := x7.ht
  have hk := x7.at_ 0 _ rfl
  refine S_ret (E_bin (E_len (E_attr rfl a (b 0 (by omega)) ⟨_, items_list hk, by simp [lid]; omega, E_cint ⟨_, rfl, ?_⟩⟩)))
  have : (((K ++ [V.str kind]).length : Nat) : Int) - 1 = (N : Int) := by simp [k1]
  show P (.int _) _
  rw [this]
  refine p H7 c ⟨⟨K ++ [.str kind], A ++ [.ref H3.length], X ++ [.str tx], ?_, by simp [k1], by simp [k2], by simp [k3]⟩, by simp [l1], by simp [l2], by simp [l3], by simp [l4], Nat.lt_of_lt_of_le co gB.1, fun d hd => ?_⟩ gB hcl
  · simp only [List.map_append, List.map_cons, List.map_nil]
    exact x7
  · rcases List.mem_append.mp hd with hd | hd
    · obtain ⟨u, ks, v, w⟩ := ch d hd
      exact ⟨u, ks, gB.get v fun s => by have := s.2; omega, w⟩
    · cases List.mem_singleton.mp hd
      exact ⟨hc, [], hnew, Nat.zero_le _⟩
/-- with the usual rest -/
theorem sp_add1 (x : Tr H t N SP NM PA CS B) (hN : N ≤ 1000) {kind : Str} (p : ∀ H' c, Tr H' t (N + 1) (SP ++ [s_]) (NM ++ [s_]) (PA ++ [-1]) (CS ++ [c]) B → Kp (Row t) H H' → H.length ≤ c → P (.int (N : Int)) H') :
    CL (k + 1) 28 [.ref t, .str kind] H P := ⟨f_Tree_add, rfl, Nat.le_of_ble_eq_true rfl, Nat.le_of_ble_eq_true rfl, by decide, add_body x hN p⟩
theorem sp_add4 (x : Tr H t N SP NM PA CS B) (hN : N ≤ 1000) {kind sp nm : Str} (p : ∀ H' c, Tr H' t (N + 1) (SP ++ [sp]) (NM ++ [nm]) (PA ++ [-1]) (CS ++ [c]) B → Kp (Row t) H H' → H.length ≤ c → P (.int (N : Int)) H') :
    CL (k + 1) 28 [.ref t, .str kind, .str sp, .str nm, .etup] H P := ⟨f_Tree_add, rfl, Nat.le_of_ble_eq_true rfl, Nat.le_of_ble_eq_true rfl, by decide, add_body x hN p⟩
end
end Mine
end
section
open PySem PySem.W PySem.Calls PyProof.Rows
namespace Mine
section
variable {T : Tab} {cl : Cl} {l : Loc} {H : AH}
theorem E_dnil {P : V → AH → Prop} (h : P (.ref H.length) (H ++ [.dict []])) : vcE T cl .dnil l H P := h
theorem S_setI {a k x : X} {ss : Ss} {P : Fl → Loc → AH → Prop} (h : vcE T cl x l H fun u H => vcE T cl a l H fun v H => vcE T cl k l H fun j H => ∃ i n, v = .ref i ∧ j = .int n ∧
      ((∃ vs, H[i]? = some (.list vs) ∧ vs.length ≤ lid ∧ 0 ≤ n ∧ n < vs.length ∧ vcSs T cl ss l (H.set i (.list (vs.set n.toNat u))) P) ∨
       (∃ kvs, H[i]? = some (.dict kvs) ∧ kvs.length ≤ lid ∧ vcSs T cl ss l (H.set i (.dict (putI n u kvs))) P))) : vcSs T cl (.cons (.setI a k x) ss) l H P := h
theorem get_app (H L : AH) (c : Nat) : (H ++ L)[H.length + c]? = L[c]? := by
  rw [List.getElem?_append_right (by omega)]
  congr 1; omega
theorem I_new {R : AH} {k f : Nat} {fs : List (Nat × V)} {x : X} {o : AObj} {ss : Ss} {P : Fl → Loc → AH → Prop} (hx : x = .lst .nil ∧ o = .list [] ∨ x = .dnil ∧ o = .dict []) (h0 : l[0]? = some (some (.ref H.length))) (hl : fs.length ≤ 100)
    (h : vcSs T cl ss l (H ++ (.inst k (put f (.ref (H.length + 1 + R.length)) fs) :: (R ++ [o]))) P) : vcSs T cl (.cons (.setA (.loc 0) f x) ss) l (H ++ (.inst k fs :: R)) P := by
  have e : (H ++ (AObj.inst k fs :: R)).length = H.length + 1 + R.length := by simp; omega
  have hg : ((H ++ (AObj.inst k fs :: R)) ++ [o])[H.length]? = some (.inst k fs) := by
    have := get_app H (.inst k fs :: (R ++ [o])) 0
    simpa using this
  have hs : ((H ++ (AObj.inst k fs :: R)) ++ [o]).set H.length (.inst k (put f (.ref (H.length + 1 + R.length)) fs)) = H ++ (.inst k (put f (.ref (H.length + 1 + R.length)) fs) :: (R ++ [o])) := by
    rw [List.append_assoc, List.set_append_right _ _ (Nat.le_refl _), Nat.sub_self]; rfl
  rcases hx with ⟨rfl, rfl⟩ | ⟨rfl, rfl⟩
  · refine S_setA' (E_lst (Es_nil ⟨Nat.zero_le _, ?_⟩))
    refine E_loc h0 ⟨_, _, _, rfl, hg, hl, ?_⟩
    rw [e, hs]; exact h
  · refine S_setA' (E_dnil ?_)
    refine E_loc h0 ⟨_, _, _, rfl, hg, hl, ?_⟩
    rw [e, hs]; exact h
end
section
variable {H H' : AH} {t N B : Nat} {SP NM : List Str} {PA : List Int} {CS : List Nat} {k : Nat} {P : V → AH → Prop}
/-- the contents of the templates: nodes that are not among the told -/
noncomputable def Con (H : AH) (t N : Nat) (nd : List Nat) : Prop := ∃ kvs, H[t + 8]? = some (.dict kvs) ∧ kvs.length ≤ N ∧ ∀ n v, lkI n kvs = some v → ∃ q : Nat, v = .int (q : Int) ∧ q < N ∧ q ∉ nd
theorem sp_tree (p : ∀ H' c, Tr H' H.length 1 [s_] [s_] [-1] [c] 0 → Con H' H.length 1 [] → Gr H H' → P .none H') : CL (k + 2) 27 [.ref H.length] (H ++ [.inst 2 []]) P := by
  refine call_of rfl rfl ?_ (by decide)
  refine I_new (.inl ⟨rfl, rfl⟩) rfl (Nat.le_of_ble_eq_true rfl) (I_new (.inl ⟨rfl, rfl⟩) rfl (Nat.le_of_ble_eq_true rfl) (I_new (.inl ⟨rfl, rfl⟩) rfl (Nat.le_of_ble_eq_true rfl) (I_new (.inl ⟨rfl, rfl⟩) rfl (Nat.le_of_ble_eq_true rfl)
    (I_new (.inl ⟨rfl, rfl⟩) rfl (Nat.le_of_ble_eq_true rfl) (I_new (.inl ⟨rfl, rfl⟩) rfl (Nat.le_of_ble_eq_true rfl) (I_new (.inl ⟨rfl, rfl⟩) rfl (Nat.le_of_ble_eq_true rfl) (I_new (.inr ⟨rfl, rfl⟩) rfl (Nat.le_of_ble_eq_true rfl) ?_)))))))
  generalize hE : H ++ (_ :: _) = H1
  have gx : Gr H H1 := by rw [← hE]; exact Kp.app _
  have tr : Tr H1 H.length 0 [] [] [] [] 0 := by
    refine ⟨⟨[], [], [], ⟨⟨_, by rw [← hE]; exact get_app H _ 0, fun c hc => ?_⟩, fun c L e => ?_, rfl⟩, rfl, rfl, rfl⟩, rfl, rfl, rfl, rfl, ?_, nofun⟩
    · have := lt8 c (Nat.lt_succ_of_le (by assumption))
      rcases this with rfl | rfl | rfl | rfl | rfl | rfl | rfl | rfl <;> rfl
    · have hc := (List.getElem?_eq_some_iff.mp e).1
      rw [← hE, show H.length + 1 + c = H.length + (1 + c) from Nat.add_assoc _ _ _, get_app]
      have := lt7 c hc
      rcases this with rfl | rfl | rfl | rfl | rfl | rfl | rfl <;> (cases e; rfl)
    · rw [← hE, List.length_append]; exact Nat.add_lt_add_left (Nat.le_of_ble_eq_true rfl) _
  have co : H1[H.length + 8]? = some (.dict []) := by rw [← hE, get_app]; rfl
  obtain ⟨ft, a, b⟩ := tr.ar.choose_spec.choose_spec.choose_spec.1.ht
  refine S_expr (E_meth rfl a rfl (Es_cons (E_cstr (Es_nil (sp_add1 tr (by omega) fun H2 c tr2 g2 _ => ⟨nofun, nofun, S_nil (p H2 c tr2 ⟨[], ?_, Nat.zero_le _, nofun⟩ ?_)⟩)))))
  · exact g2.get co fun s => by have := s.2; omega
  · exact (gx.any.trans g2).mono fun i hs hl => by have := hs.1; omega

/-- the n-th item of the contents -/
theorem lk_putI (k j : Int) (v : V) : ∀ kvs : List (Int × V), lkI j (putI k v kvs) = if k = j then some v else lkI j kvs
  | [] => by unfold putI lkI; by_cases h : k = j <;> simp [h, lkI]
  | (g, u) :: r => by
    unfold putI
    by_cases hk : g = k
    · subst hk
      rw [if_pos rfl]
      unfold lkI
      by_cases h : g = j <;> simp [h]
    · rw [if_neg hk]
      unfold lkI
      rw [lk_putI k j v r]
      by_cases h : g = j
      · subst h
        rw [if_pos rfl, if_neg (Ne.symm hk), if_pos rfl]
      · rw [if_neg h, if_neg h]
theorem putI_len (k : Int) (v : V) : ∀ kvs : List (Int × V), (putI k v kvs).length ≤ kvs.length + 1
  | [] => by simp [putI]
  | (g, u) :: r => by
    unfold putI
    split
    · simp
    · have := putI_len k v r
      simp only [List.length_cons]; omega
noncomputable abbrev Rows (t : Nat) : Nat → Prop := fun i => t < i ∧ i ≤ t + 8
theorem Row.rows {t : Nat} (g : Kp (Row t) H H') : Kp (Rows t) H H' := g.mono fun i h _ => ⟨h.1, by have := h.2; omega⟩
theorem sp_element {nd : List Nat} {sp nm : Str} (x : Tr H t N SP NM PA CS B) (y : Con H t N nd) (hN : N < 1000) (hnd : ∀ q ∈ nd, q < N)
    (p : ∀ H' N' SP' NM' PA' CS', Tr H' t N' (SP ++ sp :: SP') (NM ++ nm :: NM') (PA ++ PA') (CS ++ CS') B → N < N' → N' ≤ N + 2 → (∀ i ∈ PA', i = -1) → Con H' t N' (nd ++ [N]) → Kp (Rows t) H H' → (∀ c ∈ CS', H.length ≤ c) → P (.int (N : Int)) H') :
    CL (k + 2) 29 [.ref t, .str nm, .str sp] H P := by
  refine ⟨f_Tree_element, rfl, Nat.le_of_ble_eq_true rfl, Nat.le_of_ble_eq_true rfl, by decide, ?_⟩
  obtain ⟨kvs, c1, c2, c3⟩ := y
  obtain ⟨ft, a, b⟩ := x.ar.choose_spec.choose_spec.choose_spec.1.ht
  refine S_asg (E_meth rfl a rfl (Es_cons (E_cstr (Es_cons (E_loc rfl (Es_cons (E_loc rfl (Es_cons (E_loc rfl (Es_nil (sp_add4 x (by omega) fun H1 c x1 g1 z1 => ?_)))))))))))
  obtain ⟨ft1, a1, b1⟩ := x1.ar.choose_spec.choose_spec.choose_spec.1.ht
  have d1 : H1[t + 8]? = some (.dict kvs) := g1.get c1 fun s => by have := s.2; omega
  have old : ∀ n v, lkI n kvs = some v → ∃ q : Nat, v = .int (q : Int) ∧ q < N ∧ q ∉ nd ++ [N] := fun n v h => by
    obtain ⟨q, h1, h2, h3⟩ := c3 n v h
    exact ⟨q, h1, h2, fun hq => (List.mem_append.mp hq).elim h3 fun hq => by cases List.mem_singleton.mp hq; omega⟩
  have plain : vcSs TAB (CL (k + 1)) (.cons (.ret (.loc 4)) .nil) [some (.ref t), some (.str nm), some (.str sp), some .etup, some (.int (N : Int))] H1 (Rf P) :=
    S_ret (E_loc rfl (p H1 (N + 1) [] [] [-1] [c] x1 (by omega) (by omega) (by simp) ⟨kvs, d1, by omega, fun n v h => by
      obtain ⟨q, h1, h2, h3⟩ := old n v h
      exact ⟨q, h1, by omega, h3⟩⟩ (Row.rows g1) fun d hd => by rw [List.mem_singleton.mp hd]; exact z1))
  by_cases h1 : sp = s_html
  · by_cases h2 : nm = s_template
    · refine S_ife true (Cm_CL _) (E_and (E_cmp (E_loc rfl (E_cstr ⟨_, eq_str _ _ _, true, by rw [h1]; rfl, ?_⟩))))
      rw [if_pos rfl]
      refine A_one (E_cmp (E_loc rfl (E_cstr ⟨_, eq_str _ _ _, by rw [h2]; rfl, fun _ => ?_, nofun⟩)))
      refine S_setI (E_meth rfl a1 rfl (Es_cons (E_cstr (Es_nil (sp_add1 x1 (by omega) fun H2 c' x2 g2 z2 => ?_)))))
      obtain ⟨ft2, a2, b2⟩ := x2.ar.choose_spec.choose_spec.choose_spec.1.ht
      have d2 : H2[t + 8]? = some (.dict kvs) := g2.get d1 fun s => by have := s.2; omega
      refine E_attr rfl a2 (b2 7 (by omega)) (E_loc rfl ⟨_, _, rfl, rfl, .inr ⟨kvs, d2, by unfold lid; omega, ?_⟩⟩)
      have g3 : Kp (fun i => i = t + 8) H2 (H2.set (t + 8) (.dict (putI (N : Int) (.int ((N + 1 : Nat) : Int)) kvs))) := Kp.set (S := fun i => i = t + 8) rfl _
      have x3 := x2.keep g3 (fun i (hi : i = t + 8) => by omega) fun i (hi : i = t + 8) L hL => by rw [hi, d2] at hL; cases hL
      refine S_nil (S_ret (E_loc rfl (p _ (N + 2) [s_] [s_] [-1, -1] [c, c'] ?_ (by omega) (by omega) (by simp) ⟨putI (N : Int) (.int ((N + 1 : Nat) : Int)) kvs, ?_, ?_, fun n v h => ?_⟩ ?_ fun d hd => ?_)))
      · simpa using x3
      · exact List.getElem?_set_self (lt_of d2)
      · have := putI_len (N : Int) (.int ((N + 1 : Nat) : Int)) kvs; omega
      · rw [lk_putI] at h
        by_cases e : (N : Int) = n
        · rw [if_pos e] at h; cases h
          exact ⟨N + 1, rfl, by omega, fun hq => (List.mem_append.mp hq).elim (fun hq => by have := hnd _ hq; omega) fun hq => by have := List.mem_singleton.mp hq; omega⟩
        · rw [if_neg e] at h
          obtain ⟨q, h1, h2, h3⟩ := old n v h
          exact ⟨q, h1, by omega, h3⟩
      · exact (Kp.trans (Kp.trans (Row.rows g1) (Row.rows g2)) (g3.mono fun i (h : i = t + 8) _ => ⟨by omega, by omega⟩))
      · rcases List.mem_cons.mp hd with e | hd
        · rw [e]; exact z1
        · rw [List.mem_singleton.mp hd]; exact Nat.le_trans g1.1 z2
    · refine S_ife false (Cm_CL _) (E_and (E_cmp (E_loc rfl (E_cstr ⟨_, eq_str _ _ _, true, by rw [h1]; rfl, ?_⟩))))
      rw [if_pos rfl]
      refine A_one (E_cmp (E_loc rfl (E_cstr ⟨_, eq_str _ _ _, by simp [h2], nofun, fun _ => S_nil plain⟩)))
  · refine S_ife false (Cm_CL _) (E_and (E_cmp (E_loc rfl (E_cstr ⟨_, eq_str _ _ _, false, by rw [beq_eq_false_iff_ne.mpr h1]; rfl, ?_⟩))))
    rw [if_neg (by decide)]
    exact ⟨by simp [h1], nofun, fun _ => S_nil plain⟩
end
end Mine
end
section
open PySem PySem.W PySem.Calls PyProof.Rows
namespace Mine
section
variable {H H' : AH} {t N B : Nat} {SP NM : List Str} {PA : List Int} {CS : List Nat} {k : Nat} {P : V → AH → Prop}
theorem Con.keep {S : Nat → Prop} {nd : List Nat} (x : Con H t N nd) (g : Kp S H H') (h : ¬ S (t + 8)) : Con H' t N nd := by
  obtain ⟨kvs, a, b⟩ := x
  exact ⟨kvs, g.get a h, b⟩
/-- the stack, the formatting list: an object with its tree and an empty list -/
theorem sp_open {c : Nat} (p : P .none (H ++ [.inst c [(0, .ref t), (1, .ref (H.length + 1))], .list []])) : CL (k + 1) 20 [.ref H.length, .ref t] (H ++ [.inst c []]) P := by
  refine call_of rfl rfl ?_ (by decide)
  refine S_setA' (E_loc rfl (E_loc rfl ⟨_, c, [], rfl, last_app _ _, Nat.zero_le _, ?_⟩))
  have e : (H ++ [AObj.inst c []]).set H.length (.inst c (put 0 (.ref t) [])) = H ++ [AObj.inst c [(0, .ref t)]] := by
    rw [List.set_append_right _ _ (Nat.le_refl _), Nat.sub_self]; rfl
  rw [e]
  exact I_new (R := []) (.inl ⟨rfl, rfl⟩) rfl (Nat.le_of_ble_eq_true rfl) (S_nil p)
theorem sp_fmt {c : Nat} (p : P .none (H ++ [.inst c [(0, .ref t), (1, .ref (H.length + 1))], .list []])) : CL (k + 1) 26 [.ref H.length, .ref t] (H ++ [.inst c []]) P := by
  refine call_of rfl rfl ?_ (by decide)
  refine S_setA' (E_loc rfl (E_loc rfl ⟨_, c, [], rfl, last_app _ _, Nat.zero_le _, ?_⟩))
  have e : (H ++ [AObj.inst c []]).set H.length (.inst c (put 0 (.ref t) [])) = H ++ [AObj.inst c [(0, .ref t)]] := by
    rw [List.set_append_right _ _ (Nat.le_refl _), Nat.sub_self]; rfl
  rw [e]
  exact I_new (R := []) (.inl ⟨rfl, rfl⟩) rfl (Nat.le_of_ble_eq_true rfl) (S_nil p)
theorem E_new {T : Tab} {cl : Cl} {l : Loc} {c : Nat} {xs : Xs} (h : vcEs T cl xs l H fun vs H => ∃ g, T.init c = some g ∧ cl g (.ref H.length :: vs) (H ++ [.inst c []]) fun r H' => r = .none ∧ P (.ref H.length) H') : vcE T cl (.new c xs) l H P := h
end

/-! ## the builder made -/
structure Mk (H0 H : AH) (b t : Nat) (fb : List (Nat × V)) (Z : List (Nat × AObj)) : Prop where
  hb : H[b]? = some (.inst 3 fb)
  len : fb.length ≤ 50
  tr : ∃ c, Tr H t 1 [s_] [s_] [-1] [c] 0 ∧ ∀ z ∈ Z, z.1 ≠ c
  con : Con H t 1 []
  ex : ∀ z ∈ Z, t + 8 < z.1 ∧ H[z.1]? = some z.2
  bt : b < t
  kp : Kp (· = b) H0 H
theorem Mk.grow {H0 H H' : AH} {b t : Nat} {fb : List (Nat × V)} {Z : List (Nat × AObj)} (x : Mk H0 H b t fb Z) (g : Gr H H') : Mk H0 H' b t fb Z :=
  ⟨g.g x.hb, x.len, x.tr.imp fun c y => ⟨y.1.grow g, y.2⟩, x.con.keep g id, fun z h => ⟨(x.ex z h).1, g.g (x.ex z h).2⟩, x.bt, x.kp.trans g.any⟩
theorem Mk.two {H0 H : AH} {b t : Nat} {fb : List (Nat × V)} {Z : List (Nat × AObj)} {o o' : AObj} (x : Mk H0 H b t fb Z) : Mk H0 (H ++ [o, o']) b t fb ((H.length, o) :: (H.length + 1, o') :: Z) := by
  have y := x.grow (Kp.app [o, o'])
  obtain ⟨c, tr, nc⟩ := x.tr
  have hl : t + 8 < H.length := tr.co
  have hc : c < H.length := lt_of (tr.ch c (List.mem_singleton.mpr rfl)).2.choose_spec.1
  refine ⟨y.hb, y.len, ⟨c, tr.grow (Kp.app [o, o']), fun z hz => ?_⟩, y.con, fun z hz => ?_, y.bt, y.kp⟩
  · rcases List.mem_cons.mp hz with e | hz
    · rw [e]; show H.length ≠ c; omega
    · rcases List.mem_cons.mp hz with e | hz
      · rw [e]; show H.length + 1 ≠ c; omega
      · exact nc z hz
  rcases List.mem_cons.mp hz with e | hz
  · rw [e]; exact ⟨hl, get_app H _ 0⟩
  · rcases List.mem_cons.mp hz with e | hz
    · rw [e]; exact ⟨by show t + 8 < H.length + 1; omega, get_app H _ 1⟩
    · exact y.ex z hz
theorem Mk.fld {H0 H : AH} {b t : Nat} {fb : List (Nat × V)} {Z : List (Nat × AObj)} (x : Mk H0 H b t fb Z) (f : Nat) (v : V) (h : (put f v fb).length ≤ 50) : Mk H0 (H.set b (.inst 3 (put f v fb))) b t (put f v fb) Z := by
  have g : Kp (· = b) H (H.set b (.inst 3 (put f v fb))) := Kp.set (S := (· = b)) rfl _
  have hb := x.hb
  have bt := x.bt
  obtain ⟨c, tr⟩ := x.tr
  have h8 : ¬ (fun i => i = b) (t + 8) := fun hi : t + 8 = b => by omega
  refine ⟨List.getElem?_set_self (lt_of hb), h, ⟨c, tr.1.keep g (fun i (hi : i = b) => by omega) (fun i (hi : i = b) L hL => ?_), tr.2⟩, x.con.keep g h8, fun z hz => ⟨(x.ex z hz).1, g.get (x.ex z hz).2 (fun hi : z.1 = b => ?_)⟩, x.bt, x.kp.trans g⟩
  · rw [hi, hb] at hL; cases hL
  · have := (x.ex z hz).1; omega
/-- the fields told so far -/
structure Bf (fb : List (Nat × V)) (t st fm : Nat) (U : List Nat) : Prop where
  f0 : lk 0 fb = some (.ref t)
  f11 : lk 11 fb = some (.ref st)
  f12 : lk 12 fb = some (.ref fm)
  is : ∀ f ∈ U, (lk f fb).isSome = true
theorem Bf.put {fb : List (Nat × V)} {t st fm f : Nat} {U : List Nat} (x : Bf fb t st fm U) (h0 : f ≠ 0) (h1 : f ≠ 11) (h2 : f ≠ 12) (v : V) : Bf (Mine.put f v fb) t st fm (f :: U) := by
  refine ⟨by rw [lk_put, if_neg h0]; exact x.f0, by rw [lk_put, if_neg h1]; exact x.f11, by rw [lk_put, if_neg h2]; exact x.f12, fun g hg => ?_⟩
  rw [lk_put]
  by_cases e : f = g
  · rw [if_pos e]; rfl
  · rw [if_neg e]
    rcases List.mem_cons.mp hg with h | h
    · exact absurd h.symm e
    · exact x.is g h
section
variable {H0 H : AH} {st fm : Nat} {U : List Nat} {b t m f k : Nat} {fb : List (Nat × V)} {Z : List (Nat × AObj)} {e : X} {ss : Ss} {l : Loc} {P : Fl → Loc → AH → Prop}
/-- one field -/
theorem S_fldG (hm : fb.length ≤ m) (hm5 : m < 50) (h0 : l[0]? = some (some (.ref b))) (h : vcE TAB (CL k) e l H fun v H' => ∃ Z', Mk H0 H' b t fb Z' ∧ ∀ H'', Mk H0 H'' b t (put f v fb) Z' → vcSs TAB (CL k) ss l H'' P) :
    vcSs TAB (CL k) (.cons (.setA (.loc 0) f e) ss) l H P := by
  refine S_setA' (vcE_mono (Cm_CL _) e l H _ _ (fun v H' ⟨Z', x, p⟩ => E_loc h0 ⟨_, _, _, rfl, x.hb, by omega, p _ (x.fld f v ?_)⟩) h)
  have := put_len f v fb; omega
theorem S_fld (m : Nat) (x : Mk H0 H b t fb Z) (y : Bf fb t st fm U) (hf : f ≠ 0 ∧ f ≠ 11 ∧ f ≠ 12) (hm : fb.length ≤ m) (hm5 : m < 50) (h0 : l[0]? = some (some (.ref b))) (hv : ∃ v, ∀ P : V → AH → Prop, (∀ H', Gr H H' → P v H') → vcE TAB (CL k) e l H P)
    (p : ∀ H' fb', Mk H0 H' b t fb' Z → Bf fb' t st fm (f :: U) → fb'.length ≤ m + 1 → vcSs TAB (CL k) ss l H' P) : vcSs TAB (CL k) (.cons (.setA (.loc 0) f e) ss) l H P := by
  obtain ⟨v, hv⟩ := hv
  exact S_fldG hm hm5 h0 (hv _ fun H' g => ⟨Z, x.grow g, fun H'' x'' => p H'' _ x'' (y.put hf.1 hf.2.1 hf.2.2 v) (Nat.le_trans (put_len f v fb) (Nat.succ_le_succ hm))⟩)
theorem v_str (s : Str) : ∃ v, ∀ P : V → AH → Prop, (∀ H', Gr H H' → P v H') → vcE TAB (CL k) (.cstr s) l H P := ⟨_, fun P h => E_cstr (h _ Kp.refl)⟩
theorem v_bool (s : Bool) : ∃ v, ∀ P : V → AH → Prop, (∀ H', Gr H H' → P v H') → vcE TAB (CL k) (.cbool s) l H P := ⟨_, fun P h => E_cbool (h _ Kp.refl)⟩
theorem v_neg : ∃ v, ∀ P : V → AH → Prop, (∀ H', Gr H H' → P v H') → vcE TAB (CL k) (.neg (.cint 1)) l H P := ⟨_, fun P h => E_neg (h _ Kp.refl)⟩
theorem v_list : ∃ v, ∀ P : V → AH → Prop, (∀ H', Gr H H' → P v H') → vcE TAB (CL k) (.lst .nil) l H P := ⟨_, fun P h => E_lst (Es_nil ⟨Nat.zero_le _, h _ (Kp.app _)⟩)⟩
theorem v_dict : ∃ v, ∀ P : V → AH → Prop, (∀ H', Gr H H' → P v H') → vcE TAB (CL k) .dnil l H P := ⟨_, fun P h => E_dnil (h _ (Kp.app _))⟩
theorem sp_builder {r : V} {P : V → AH → Prop} (hb : H[b]? = some (.inst 3 [])) (p : ∀ H' t st fm sl fl fb, Mk H H' b t fb [(fm, .inst 1 [(0, .ref t), (1, .ref fl)]), (fl, .list []), (st, .inst 0 [(0, .ref t), (1, .ref sl)]), (sl, .list [])] → H.length ≤ t → lk 0 fb = some (.ref t) →
      lk 11 fb = some (.ref st) → lk 12 fb = some (.ref fm) → (lk 13 fb).isSome = true → (lk 24 fb).isSome = true → P .none H') : CL (k + 4) 34 [.ref b, r] H P := by
  have hbl := lt_of hb
  refine ⟨f_Builder_init, rfl, Nat.le_of_ble_eq_true rfl, Nat.le_of_ble_eq_true rfl, by decide, ?_⟩
  refine S_setA' (E_loc rfl (E_loc rfl ⟨b, 3, [], rfl, hb, Nat.zero_le _, ?_⟩))
  have k1 : Kp (· = b) H (H.set b (.inst 3 (put 10 r []))) := Kp.set (S := (· = b)) rfl _
  have b1 : (H.set b (.inst 3 (put 10 r [])))[b]? = some (.inst 3 [(10, r)]) := List.getElem?_set_self hbl
  have l1 : (H.set b (.inst 3 (put 10 r []))).length = H.length := List.length_set
  generalize H.set b (.inst 3 (put 10 r [])) = H1 at *
  refine S_fldG (m := 1) (t := H1.length) (Nat.le_of_ble_eq_true rfl) (by decide) rfl (E_new (Es_nil ⟨27, rfl, sp_tree fun H2 c tr con g2 => ⟨rfl, [], ⟨g2.g b1, Nat.le_of_ble_eq_true rfl, ⟨c, tr, nofun⟩, con, nofun, by omega, k1.trans g2.any⟩, fun H3 x3 => ?_⟩⟩))
  have tl : H.length ≤ H1.length := by omega
  generalize H1.length = t at *
  refine S_fldG (H0 := H) (fb := put 0 (.ref t) [(10, r)]) (m := 2) (t := t) (Nat.le_of_ble_eq_true rfl) (by decide) rfl (E_new (Es_cons (E_attr rfl x3.hb rfl (Es_nil ?_))))
  refine ⟨20, rfl, sp_open ?_⟩
  refine ⟨rfl, _, x3.two (o := .inst 0 [(0, .ref t), (1, .ref (H3.length + 1))]) (o' := .list []), fun H4 x4 => ?_⟩
  generalize H3.length = st at *
  generalize st + 1 = sl at *
  refine S_fldG (H0 := H) (fb := put 11 (.ref st) (put 0 (.ref t) [(10, r)])) (m := 3) (t := t) (Nat.le_of_ble_eq_true rfl) (by decide) rfl (E_new (Es_cons (E_attr rfl x4.hb rfl (Es_nil ?_))))
  refine ⟨26, rfl, sp_fmt ?_⟩
  refine ⟨rfl, _, x4.two (o := .inst 1 [(0, .ref t), (1, .ref (H4.length + 1))]) (o' := .list []), fun H5 x5 => ?_⟩
  generalize H4.length = fm at *
  generalize fm + 1 = fl at *
  have w0 : Bf (put 12 (.ref fm) (put 11 (.ref st) (put 0 (.ref t) [(10, r)]))) t st fm [] := ⟨rfl, rfl, rfl, nofun⟩
  have z0 : (put 12 (.ref fm) (put 11 (.ref st) (put 0 (.ref t) [(10, r)]))).length ≤ 4 := Nat.le_of_ble_eq_true rfl
  generalize put 12 (.ref fm) (put 11 (.ref st) (put 0 (.ref t) [(10, r)])) = fb0 at *
  refine S_fld 4 x5 w0 (by decide) z0 (by decide) rfl (v_str _) fun H13 fb13 y13 w13 z13 => ?_
  refine S_fld 5 y13 w13 (by decide) z13 (by decide) rfl (v_str _) fun H14 fb14 y14 w14 z14 => ?_
  refine S_fld 6 y14 w14 (by decide) z14 (by decide) rfl (v_list) fun H15 fb15 y15 w15 z15 => ?_
  refine S_fld 7 y15 w15 (by decide) z15 (by decide) rfl (v_neg) fun H16 fb16 y16 w16 z16 => ?_
  refine S_fld 8 y16 w16 (by decide) z16 (by decide) rfl (v_neg) fun H17 fb17 y17 w17 z17 => ?_
  refine S_fld 9 y17 w17 (by decide) z17 (by decide) rfl (v_dict) fun H18 fb18 y18 w18 z18 => ?_
  refine S_fld 10 y18 w18 (by decide) z18 (by decide) rfl (v_bool _) fun H19 fb19 y19 w19 z19 => ?_
  refine S_fld 11 y19 w19 (by decide) z19 (by decide) rfl (⟨_, fun P h => E_loc rfl (h _ Kp.refl)⟩) fun H20 fb20 y20 w20 z20 => ?_
  refine S_fld 12 y20 w20 (by decide) z20 (by decide) rfl (v_bool _) fun H21 fb21 y21 w21 z21 => ?_
  refine S_fld 13 y21 w21 (by decide) z21 (by decide) rfl (v_neg) fun H22 fb22 y22 w22 z22 => ?_
  refine S_fld 14 y22 w22 (by decide) z22 (by decide) rfl (v_str _) fun H23 fb23 y23 w23 z23 => ?_
  refine S_fld 15 y23 w23 (by decide) z23 (by decide) rfl (v_list) fun H24 fb24 y24 w24 z24 => ?_
  refine S_fld 16 y24 w24 (by decide) z24 (by decide) rfl (v_list) fun H25 fb25 y25 w25 z25 => ?_
  refine S_fld 17 y25 w25 (by decide) z25 (by decide) rfl (v_str _) fun H26 fb26 y26 w26 z26 => ?_
  refine S_fld 18 y26 w26 (by decide) z26 (by decide) rfl (v_bool _) fun H27 fb27 y27 w27 z27 => ?_
  refine S_fld 19 y27 w27 (by decide) z27 (by decide) rfl (v_bool _) fun H28 fb28 y28 w28 z28 => ?_
  refine S_fld 20 y28 w28 (by decide) z28 (by decide) rfl (v_bool _) fun H29 fb29 y29 w29 z29 => ?_
  refine S_nil (p _ t st fm sl fl _ y29 tl w29.f0 w29.f11 w29.f12 (w29.is 13 (by decide)) (w29.is 24 (by decide)))
end
end Mine
end
section
open PySem PySem.W PySem.Calls PyProof.Rows
namespace Mine
section
variable {T : Tab} {cl : Cl} {l : Loc} {H : AH}
theorem S_whl0 {c : X} {b ss : Ss} {P : Fl → Loc → AH → Prop} (C : Cm cl) (h : vcE T cl c l H fun v H' => v = .bool false ∧ vcSs T cl ss l H' P) : vcSs T cl (.cons (.whl c b) ss) l H P := by
  refine ⟨fun n l' H' => n = 0 ∧ l' = l ∧ H' = H, ⟨0, rfl, rfl, rfl⟩, fun n l' H' ⟨h1, h2, h3⟩ => ?_⟩
  subst h1 h2 h3
  exact vcE_mono C c l' H' _ _ (fun v H' ⟨e, p⟩ => ⟨false, by rw [e]; rfl, p⟩) h
theorem E_ins {a i x : X} {P : V → AH → Prop} (h : vcE T cl a l H fun v H => (getL v H).isSome = true ∧ vcE T cl i l H fun k H => vcE T cl x l H fun u H => ∃ j vs n, v = .ref j ∧ H[j]? = some (.list vs) ∧ vs.length ≤ lid ∧ k = .int n ∧ 0 ≤ n ∧ n ≤ vs.length ∧
      P .none (H.set j (.list (vs.take n.toNat ++ u :: vs.drop n.toNat)))) : vcE T cl (.ins a i x) l H P := h
end
section
variable {H H' : AH} {t N B : Nat} {SP NM : List Str} {PA : List Int} {CS : List Nat} {k p q : Nat} {P : V → AH → Prop}
theorem map_at {α : Type} {f : α → V} {xs : List α} {i : Nat} {x : α} (h : xs[i]? = some x) : (xs.map f)[i]? = some (f x) := by rw [List.getElem?_map, h]; rfl
/-- the parent of a node that has none -/
theorem Tr.par {T : Tab} {cl : Cl} {l : Loc} {i a : Nat} {z : Int} (x : Tr H t N SP NM PA CS B) (hN : N ≤ 1000) (h0 : l[i]? = some (some (.ref t))) (h1 : l[a]? = some (some (.int (p : Int)))) (h : PA[p]? = some z) (h2 : P (.int z) H) :
    vcE T cl (.idx (.attr (.loc i) 7) (.loc a)) l H P := by
  obtain ⟨K, A, X, y, k1, k2, k3⟩ := x.ar
  obtain ⟨ft, a, b⟩ := y.ht
  exact E_idx (E_attr h0 a (b 5 (by omega)) (E_loc h1 ⟨_, at_front (items_list (y.at_ 5 _ rfl)) (by rw [List.length_map, x.l3]; unfold lid; omega) (map_at h), h2⟩))
theorem Tr.kid {T : Tab} {cl : Cl} {l : Loc} {i a c : Nat} (x : Tr H t N SP NM PA CS B) (hN : N ≤ 1000) (h0 : l[i]? = some (some (.ref t))) (h1 : l[a]? = some (some (.int (p : Int)))) (h : CS[p]? = some c) (h2 : P (.ref c) H) :
    vcE T cl (.idx (.attr (.loc i) 8) (.loc a)) l H P := by
  obtain ⟨K, A, X, y, k1, k2, k3⟩ := x.ar
  obtain ⟨ft, a, b⟩ := y.ht
  exact E_idx (E_attr h0 a (b 6 (by omega)) (E_loc h1 ⟨_, at_front (items_list (y.at_ 6 _ rfl)) (by rw [List.length_map, x.l4]; unfold lid; omega) (map_at h), h2⟩))
theorem sp_above (x : Tr H t N SP NM PA CS B) (hN : N ≤ 1000) (h : PA[p]? = some (-1)) (h2 : P (.ref H.length) (H ++ [.list []])) : CL (k + 1) 7 [.ref t, .int (p : Int)] H P := by
  refine call_of rfl rfl ?_ (by decide)
  refine S_asg (E_lst (Es_nil ⟨Nat.zero_le _, ?_⟩))
  refine S_asg ((x.grow (Kp.app _)).par hN rfl rfl h ?_)
  exact S_whl0 (Cm_CL _) (E_cmp (E_loc rfl (E_neg ⟨_, ne_int _ _ _, rfl, S_ret (E_loc rfl h2)⟩)))
theorem sp_remove (x : Tr H t N SP NM PA CS B) (hN : N ≤ 1000) (h : PA[p]? = some (-1)) (h2 : P .none H) : CL (k + 1) 32 [.ref t, .int (p : Int)] H P := by
  refine call_of rfl rfl ?_ (by decide)
  exact S_ife false (Cm_CL _) (E_cmp (x.par hN rfl rfl h (E_neg ⟨_, ne_int _ _ _, rfl, nofun, fun _ => S_nil (S_nil h2)⟩)))
noncomputable abbrev Kin (t : Nat) (CS : List Nat) : Nat → Prop := fun i => (t < i ∧ i < t + 8) ∨ i ∈ CS
theorem sp_insert (x : Tr H t N SP NM PA CS B) (hN : N ≤ 1000) (hB : B ≤ 1000) (hp : p < N) (hq : q < N) (hpq : q ≠ p) (h1 : PA[p]? = some (-1)) (h2 : PA[q]? = some (-1))
    (h : ∀ H', Tr H' t N SP NM (PA.set q (p : Int)) CS (B + 1) → Kp (Kin t CS) H H' → P .none H') : CL (k + 2) 30 [.ref t, .int (p : Int), .int (q : Int)] H P := by
  refine ⟨f_Tree_insert, rfl, Nat.le_of_ble_eq_true rfl, Nat.le_of_ble_eq_true rfl, by decide, ?_⟩
  have e1 : ((q : Int) == (p : Int)) = false := beq_eq_false_iff_ne.mpr (by omega)
  refine S_ife false (Cm_CL _) (E_or (E_cmp (E_loc rfl (E_loc rfl ⟨_, eq_int _ _ _, false, by rw [e1]; rfl, ?_⟩))))
  rw [if_neg (by decide)]
  refine O_one (E_cmp (E_loc rfl (E_call (Es_cons (E_loc rfl (Es_cons (E_loc rfl (Es_nil (sp_above x hN h1 ⟨false, ?_, rfl, nofun, fun _ => S_nil ?_⟩)))))))))
  · show (itemsOf _ _).bind _ = _
    rw [items_list (last_app _ _)]; rfl
  have g0 : Gr H (H ++ [AObj.list []]) := Kp.app _
  have x0 := x.grow g0
  generalize H ++ [AObj.list []] = H0 at *
  refine S_ife false (Cm_CL _) (E_and (E_cmp (E_loc rfl (E_neg ⟨_, ne_int _ _ _, false, rfl, ?_⟩))))
  rw [if_neg (by decide)]
  refine ⟨rfl, nofun, fun _ => S_nil ?_⟩
  have e2 : ((-1 : Int) == (q : Int)) = false := beq_eq_false_iff_ne.mpr (by omega)
  refine S_ife false (Cm_CL _) (E_cmp (E_loc rfl (E_loc rfl ⟨_, eq_int _ _ _, by rw [e2], nofun, fun _ => S_nil ?_⟩)))
  obtain ⟨ft, a, b⟩ := x0.ar.choose_spec.choose_spec.choose_spec.1.ht
  refine S_expr (E_meth rfl a rfl (Es_cons (E_loc rfl (Es_nil (sp_remove x0 hN h2 ⟨nofun, nofun, ?_⟩)))))
  have hc : CS[p]? = some (CS[p]'(by rw [x.l4]; exact hp)) := List.getElem?_eq_getElem _
  generalize CS[p]'(by rw [x.l4]; exact hp) = c at hc
  have cm : c ∈ CS := List.mem_of_getElem? hc
  obtain ⟨ct, ks, ck, cb⟩ := x0.ch c cm
  have cl1 : (ks.map V.int).length ≤ lid := by simp [lid]; omega
  refine S_asg (E_len (x0.kid hN rfl rfl hc ⟨_, items_list ck, cl1, ?_⟩))
  refine S_ife false (Cm_CL _) (E_cmp (E_loc rfl (E_neg ⟨_, ne_int _ _ _, rfl, nofun, fun _ => S_nil ?_⟩)))
  refine S_expr (E_ins (x0.kid hN rfl rfl hc ⟨by rw [getL_list ck]; rfl, E_loc rfl (E_loc rfl ⟨c, ks.map V.int, _, rfl, ck, cl1, rfl, Int.natCast_nonneg _, Int.le_refl _, nofun, nofun, ?_⟩)⟩))
  have e3 : (ks.map V.int).take (((ks.map V.int).length : Nat) : Int).toNat ++ V.int (q : Int) :: (ks.map V.int).drop (((ks.map V.int).length : Nat) : Int).toNat = (ks ++ [(q : Int)]).map V.int := by
    rw [Int.toNat_natCast, List.take_length, List.drop_length, List.map_append]; rfl
  rw [e3]
  have g1 : Kp (· = c) H0 (H0.set c (.list ((ks ++ [(q : Int)]).map V.int))) := Kp.set (S := (· = c)) rfl _
  have n1 : (H0.set c (.list ((ks ++ [(q : Int)]).map V.int)))[c]? = some (.list ((ks ++ [(q : Int)]).map V.int)) := List.getElem?_set_self (lt_of ck)
  generalize H0.set c (.list ((ks ++ [(q : Int)]).map V.int)) = H1 at *
  obtain ⟨⟨K, A, X, y, k1, k2, k3⟩, l1, l2, l3, l4, co, ch⟩ := x0
  have y1 := y.keep g1 fun i (hi : i = c) => by omega
  have x1 : Tr H1 t N SP NM PA CS (B + 1) := by
    refine ⟨⟨K, A, X, y1, k1, k2, k3⟩, l1, l2, l3, l4, Nat.lt_of_lt_of_le co g1.1, fun d hd => ?_⟩
    obtain ⟨u1, u2, u3, u4⟩ := ch d hd
    by_cases e : d = c
    · subst e; exact ⟨u1, _, n1, by simp; omega⟩
    · exact ⟨u1, u2, g1.get u3 e, by omega⟩
  obtain ⟨ft1, a1, b1⟩ := y1.ht
  refine S_setI (E_loc rfl (E_attr rfl a1 (b1 5 (by omega)) (E_loc rfl ⟨_, _, rfl, rfl, .inl ⟨PA.map V.int, y1.at_ 5 _ rfl, by rw [List.length_map, l3]; unfold lid; omega, Int.natCast_nonneg _, by rw [List.length_map, l3]; omega, S_nil (h _ ?_ ?_)⟩⟩)))
  · have e4 : (PA.map V.int).set ((q : Int).toNat) (V.int (p : Int)) = (PA.set q (p : Int)).map V.int := by rw [Int.toNat_natCast, List.map_set]
    have y2 := y1.push (c := 5) (L' := (PA.map V.int).set ((q : Int).toNat) (V.int (p : Int))) rfl
    rw [e4] at y2 ⊢
    have g2 : Kp (· = t + 1 + 5) H1 (H1.set (t + 1 + 5) (.list ((PA.set q (p : Int)).map V.int))) := Kp.set (S := (· = t + 1 + 5)) rfl _
    refine ⟨⟨K, A, X, y2, k1, k2, k3⟩, l1, l2, by rw [List.length_set]; exact l3, l4, Nat.lt_of_lt_of_le x1.co g2.1, fun d hd => ?_⟩
    obtain ⟨u1, u2, u3, u4⟩ := x1.ch d hd
    exact ⟨u1, u2, g2.get u3 (fun e : d = t + 1 + 5 => by omega), u4⟩
  · refine g0.any.trans ((g1.mono fun i (hi : i = c) _ => .inr (by rw [hi]; exact cm)).trans (Kp.set (S := Kin t CS) (.inl ⟨by omega, by omega⟩) _))
theorem sp_append (x : Tr H t N SP NM PA CS B) (hN : N ≤ 1000) (hB : B ≤ 1000) (hp : p < N) (hq : q < N) (hpq : q ≠ p) (h1 : PA[p]? = some (-1)) (h2 : PA[q]? = some (-1))
    (h : ∀ H', Tr H' t N SP NM (PA.set q (p : Int)) CS (B + 1) → Kp (Kin t CS) H H' → P .none H') : CL (k + 3) 31 [.ref t, .int (p : Int), .int (q : Int)] H P := by
  refine call_of rfl rfl ?_ (by decide)
  obtain ⟨ft, a, b⟩ := x.ar.choose_spec.choose_spec.choose_spec.1.ht
  exact S_expr (E_meth rfl a rfl (Es_cons (E_loc rfl (Es_cons (E_loc rfl (Es_nil (sp_insert x hN hB hp hq hpq h1 h2 fun H' x' g => ⟨nofun, nofun, S_nil (h H' x' g)⟩)))))))
end
end Mine
end
section
open PySem PySem.W PySem.Calls PyProof.Rows
namespace Mine
/-! ## the law's nodes -/
structure Nod (H : AH) (t : Nat) (kd : List (Str × Str)) (nd : List Nat) (N : Nat) (SP NM : List Str) (PA : List Int) (CS : List Nat) (zl : Nat) : Prop where
  tr : Tr H t N SP NM PA CS 0
  con : Con H t N nd
  pos : 1 ≤ N
  up : N ≤ 2 * nd.length + 1
  rng : ∀ q ∈ nd, 0 < q ∧ q < N
  nodup : nd.Nodup
  at_ : ∀ (j : Nat) (k : Str × Str) (n : Nat), kd[j]? = some k → nd[j]? = some n → SP[n]? = some k.1 ∧ NM[n]? = some k.2
  pa : ∀ i ∈ PA, i = -1
  nz : zl < H.length ∧ zl ∉ CS
section
variable {H H' : AH} {t N k zl : Nat} {SP NM : List Str} {PA : List Int} {CS nd : List Nat} {kd : List (Str × Str)} {P : V → AH → Prop}
theorem Nod.step {kk : Str × Str} (x : Nod H t kd nd N SP NM PA CS zl) (hk : kd[nd.length]? = some kk) (hl : nd.length ≤ 12)
    (p : ∀ H' N' SP' NM' PA' CS', Nod H' t kd (nd ++ [N]) N' SP' NM' PA' CS' zl → Kp (Rows t) H H' → P (.int (N : Int)) H') : CL (k + 2) 29 [.ref t, .str kk.2, .str kk.1] H P := by
  have hu := x.up
  have hpos := x.pos
  refine sp_element x.tr x.con (by omega) (fun q hq => (x.rng q hq).2) fun H1 N1 SP1 NM1 PA1 CS1 tr hN hN2 hp con g hz => p H1 N1 _ _ _ _ ⟨tr, con, by omega, by simp; omega, fun q hq => ?_, ?_, fun j k n h1 h2 => ?_, fun i hi => ?_, Nat.lt_of_lt_of_le x.nz.1 g.1, fun h => (List.mem_append.mp h).elim x.nz.2 fun h => by have := hz _ h; have := x.nz.1; omega⟩ g
  · rcases List.mem_append.mp hq with hq | hq
    · have := x.rng q hq; omega
    · have := List.mem_singleton.mp hq; omega
  · refine List.nodup_append.mpr ⟨x.nodup, by simp, fun a ha b hb e => ?_⟩
    have := x.rng a ha
    have := List.mem_singleton.mp hb
    omega
  · by_cases hj : j < nd.length
    · rw [List.getElem?_append_left hj] at h2
      obtain ⟨u, v⟩ := x.at_ j k n h1 h2
      exact ⟨by rw [List.getElem?_append_left (List.getElem?_eq_some_iff.mp u).1]; exact u, by rw [List.getElem?_append_left (List.getElem?_eq_some_iff.mp v).1]; exact v⟩
    · have hj2 := (List.getElem?_eq_some_iff.mp h2).1
      simp only [List.length_append, List.length_singleton] at hj2
      obtain rfl : j = nd.length := by omega
      rw [List.getElem?_append_right (Nat.le_refl _), Nat.sub_self] at h2
      cases h2
      rw [hk] at h1; cases h1
      have e1 := x.tr.l1
      have e2 := x.tr.l2
      exact ⟨by rw [List.getElem?_append_right (by omega), e1, Nat.sub_self]; rfl, by rw [List.getElem?_append_right (by omega), e2, Nat.sub_self]; rfl⟩
  · exact (List.mem_append.mp hi).elim (x.pa i) (hp i)
theorem Nod.tup {i : Nat} {vs : List V} (x : Nod H t kd nd N SP NM PA CS zl) (h : H[i]? = some (.tup vs)) : ¬ Rows t i := fun ⟨s1, s2⟩ => by
  obtain ⟨K, A, X, y, _⟩ := x.tr.ar
  by_cases e : i = t + 8
  · obtain ⟨kvs, d, _⟩ := x.con
    rw [← e, h] at d; cases d
  · obtain ⟨c, hc⟩ : ∃ c, i = t + 1 + c := ⟨i - (t + 1), by omega⟩
    have : c < [K, SP.map V.str, NM.map V.str, A, X, PA.map V.int, CS.map V.ref].length := by rw [y.len]; omega
    have := y.at_ c _ (List.getElem?_eq_getElem this)
    rw [← hc, h] at this; cases this
noncomputable abbrev COMP : X := .comp (.meth (.loc 4) 6 (.cons (.idx (.loc 10) (.cint 1)) (.cons (.idx (.loc 10) (.cint 0)) .nil))) 10 (.loc 1) (.cbool true)
theorem sp_nodes {l : Loc} {kq : Nat} (h1 : l[1]? = some (some (.ref kq))) (h4 : l[4]? = some (some (.ref t))) (hl : 10 < l.length) (kn : Knd H kq kd) (hk : kd.length ≤ 12) (ht : kq < t)
    (x : Nod H t kd [] 1 SP NM PA CS zl) (p : ∀ H' nd N SP NM PA CS, nd.length = kd.length → Nod H' t kd nd N SP NM PA CS zl → Kp (Rows t) H H' → P (.ref H'.length) (H' ++ [.list (nodesV nd)])) : vcE TAB (CL (k + 2)) COMP l H P := by
  obtain ⟨rs, r1, r2, r3⟩ := kn.ex
  refine E_comp (E_loc h1 ⟨rs.map V.ref, items_list r1, by simp [lid]; omega, ?_⟩)
  have C := Cm_CL (k + 2)
  refine iterC_inv (fun x H P Q k h => tst_mono (fun P Q k h => vcE_mono C (.cbool true) (l.set 10 (some x)) H P Q k h) (fun b H h => by
      cases b with
      | true => exact vcE_mono C _ (l.set 10 (some x)) H _ _ (fun r H h => k _ _ h) h
      | false => exact k _ _ h) h) (fun j acc H1 => ∃ nd N SP NM PA CS, acc = nodesV nd ∧ nd.length = j ∧ Nod H1 t kd nd N SP NM PA CS zl ∧ Kp (Rows t) H H1) (fun j v acc H1 hv hI => ?_) (fun acc H1 hI => ?_) ?_
  · obtain ⟨nd, N, SP, NM, PA, CS, rfl, rfl, y, g⟩ := hI
    have hj := (List.getElem?_eq_some_iff.mp hv).1
    rw [List.length_map, r2] at hj
    have er : rs[nd.length]? = some rs[nd.length] := List.getElem?_eq_getElem (by omega)
    rw [map_at er] at hv; cases hv
    have ek : kd[nd.length]? = some kd[nd.length] := List.getElem?_eq_getElem hj
    have hr := r3 _ _ _ er ek
    generalize kd[nd.length] = kk at *
    generalize rs[nd.length] = r at *
    have hr1 : H1[r]? = some (kdV kk) := g.get hr (x.tup hr)
    refine ⟨true, rfl, ?_⟩
    dsimp only
    rw [if_pos rfl]
    obtain ⟨ft, a, b⟩ := y.tr.ar.choose_spec.choose_spec.choose_spec.1.ht
    have e10 : (l.set 10 (some (V.ref r)))[10]? = some (some (.ref r)) := List.getElem?_set_self hl
    have e4 : (l.set 10 (some (V.ref r)))[4]? = some (some (.ref t)) := by rw [List.getElem?_set_ne (by decide)]; exact h4
    refine E_meth e4 a rfl (Es_cons (E_idx (E_loc e10 (E_cint ⟨_, kd1 hr1, Es_cons (E_idx (E_loc e10 (E_cint ⟨_, kd0 hr1, Es_nil (y.step ek (by omega) fun H2 N2 SP2 NM2 PA2 CS2 y2 g2 => ⟨?_, ?_, ?_⟩)⟩)))⟩))))
    · have : H2[kq]? = H[kq]? := by rw [r1]; exact (g.trans g2).get r1 fun s => by have := s.1; omega
      exact this
    · simp [lid, nodesV]; omega
    · exact ⟨nd ++ [N], N2, SP2, NM2, PA2, CS2, by simp [nodesV], by simp, y2, g.trans g2⟩
  · obtain ⟨nd, N, SP, NM, PA, CS, rfl, hn, y, g⟩ := hI
    exact p H1 nd N SP NM PA CS (by rw [hn, List.length_map, r2]) y g
  · exact ⟨[], 1, SP, NM, PA, CS, rfl, rfl, x, Kp.refl⟩
end
end Mine
end
section
open PySem PySem.W PySem.Calls PyProof.Rows
namespace Mine
section
variable {T : Tab} {cl : Cl} {l : Loc} {H : AH} {P : V → AH → Prop}
theorem E_dget {a k d : X} (h : vcE T cl a l H fun v H => (isDict v H).isSome = true ∧ vcE T cl k l H fun u H => vcE T cl d l H fun z H => ∃ kvs n, isDict v H = some kvs ∧ u = .int n ∧ P ((lkI n kvs).getD z) H) : vcE T cl (.dget a k d) l H P := h
theorem E_ext {a b : X} (h : vcE T cl a l H fun v H => (getL v H).isSome = true ∧ vcE T cl b l H fun u H => ∃ i vs us, v = .ref i ∧ H[i]? = some (.list vs) ∧ getL u H = some us ∧ u ≠ v ∧ vs.length + us.length ≤ lid ∧ P .none (H.set i (.list (vs ++ us)))) : vcE T cl (.ext a b) l H P := h
theorem E_part {a lo hi : X} (h : vcE T cl a l H fun v H => vcE T cl lo l H fun j H => vcE T cl hi l H fun k H => ∃ vs m n, getL v H = some vs ∧ vs.length ≤ lid ∧ j = .int m ∧ k = .int n ∧ 0 ≤ m ∧ m ≤ n ∧ n ≤ vs.length ∧
      P (.ref H.length) (H ++ [.list ((vs.take n.toNat).drop m.toNat)])) : vcE T cl (.part a lo hi) l H P := h
theorem dict_at {i : Nat} {kvs : List (Int × V)} (e : H[i]? = some (.dict kvs)) : isDict (.ref i) H = some kvs := by unfold isDict; simp only [e]
end
/-- the nodes placed down to the j-th from behind -/
structure Plc (H : AH) (t : Nat) (nd : List Nat) (N : Nat) (SP NM : List Str) (CS : List Nat) (nq j : Nat) : Prop where
  tr : ∃ PA : List Int, Tr H t N SP NM PA CS j ∧ ∀ q, q < N → (∀ i, nd.length ≤ i + j → nd[i]? ≠ some q) → PA[q]? = some (-1)
  con : Con H t N nd
  hn : H[nq]? = some (.list (nodesV nd))
  rng : ∀ q ∈ nd, 0 < q ∧ q < N
  nodup : nd.Nodup
  nN : N ≤ 1000
  hl : nd.length ≤ 12
  nk : ¬ Kin t CS nq
  n8 : ∀ c ∈ CS, t + 8 < c
section
variable {H H' : AH} {t N k nq j : Nat} {SP NM : List Str} {CS nd : List Nat} {P : V → AH → Prop}
theorem nodup_ne {i i' : Nat} {q q' : Nat} (h : nd.Nodup) (a : nd[i]? = some q) (b : nd[i']? = some q') (e : i ≠ i') : q ≠ q' := fun e' => by
  subst e'
  obtain ⟨h1, h2⟩ := List.getElem?_eq_some_iff.mp a
  obtain ⟨h3, h4⟩ := List.getElem?_eq_some_iff.mp b
  exact e ((List.getElem_inj h).mp (h2.trans h4.symm))
/-- one more node gets its parent -/
theorem Plc.step {i p q : Nat} (x : Plc H t nd N SP NM CS nq j) (hi : nd[i]? = some q) (hj : i + j + 1 = nd.length) (hp : p < N) (hpn : ∀ i', i ≤ i' → nd[i']? ≠ some p)
    (h : ∀ H', Plc H' t nd N SP NM CS nq (j + 1) → Kp (Kin t CS) H H' → P .none H') : CL (k + 3) 31 [.ref t, .int (p : Int), .int (q : Int)] H P := by
  obtain ⟨PA, tr, pa⟩ := x.tr
  have hl := x.hl
  have hq := x.rng q (List.mem_of_getElem? hi)
  have pq : q ≠ p := fun e => hpn i (Nat.le_refl _) (by rw [← e]; exact hi)
  refine sp_append tr x.nN (by omega) hp hq.2 pq (pa p hp fun i' h' => hpn i' (by omega)) (pa q hq.2 fun i' h' e => nodup_ne x.nodup hi e (by omega) rfl) fun H1 tr1 g => h H1 ⟨⟨_, tr1, fun q' hq' hn => ?_⟩, ?_, g.get x.hn x.nk, x.rng, x.nodup, x.nN, x.hl, x.nk, x.n8⟩ g
  · have : q ≠ q' := fun e => hn i (by omega) (by rw [← e]; exact hi)
    rw [List.getElem?_set_ne this]
    exact pa q' hq' fun i' h' => hn i' (by omega)
  · exact x.con.keep g fun s => s.elim (fun s => by have := s.2; omega) fun s => by have := x.n8 _ s; omega
/-- the parent that a node gives -/
theorem Plc.parent {i a : Nat} (x : Plc H t nd N SP NM CS nq j) (hi : nd[i]? = some a) : ∃ kvs p, H[t + 8]? = some (.dict kvs) ∧ (lkI (a : Int) kvs).getD (.int (a : Int)) = .int ((p : Nat) : Int) ∧ p < N ∧ ∀ i', i + 1 ≤ i' → nd[i']? ≠ some p := by
  obtain ⟨kvs, c1, c2, c3⟩ := x.con
  cases h : lkI (a : Int) kvs with
  | none => exact ⟨kvs, a, c1, by rw [h]; rfl, (x.rng a (List.mem_of_getElem? hi)).2, fun i' h' e => nodup_ne x.nodup hi e (by omega) rfl⟩
  | some v =>
    obtain ⟨q, h1, h2, h3⟩ := c3 _ v h
    exact ⟨kvs, q, c1, by rw [h, h1]; rfl, h2, fun i' h' e => h3 (List.mem_of_getElem? e)⟩
noncomputable abbrev LOOP : Ss := .cons (.expr (.meth (.loc 4) 8 (.cons (.dget (.attr (.loc 4) 9) (.idx (.loc 5) (.bin .sub (.loc 2) (.cint 1))) (.idx (.loc 5) (.bin .sub (.loc 2) (.cint 1)))) (.cons (.idx (.loc 5) (.loc 2)) .nil)))) .nil
theorem node_it {i a : Nat} (h : H[nq]? = some (.list (nodesV nd))) (hl : nd.length ≤ 12) (e : nd[i]? = some a) : itemAt (.ref nq) (.int (i : Int)) H = some (.int (a : Int)) :=
  at_front (items_list h) (by simp [nodesV, lid]; omega) (by rw [List.getElem?_map, e]; rfl)
theorem sp_place {l0 : V → Loc} {x0 : V} {ss : Ss} {P : Fl → Loc → AH → Prop} (h2 : ∀ x y, (l0 x).set 2 (some y) = l0 y) (h2' : ∀ y, (l0 y)[2]? = some (some y)) (h4 : ∀ x, (l0 x)[4]? = some (some (.ref t))) (h5 : ∀ x, (l0 x)[5]? = some (some (.ref nq)))
    (x : Plc H t nd N SP NM CS nq 0) (hn : 2 ≤ nd.length) (h : ∀ H' y, Plc H' t nd N SP NM CS nq nd.length → Kp (Kin t CS) H H' → vcSs TAB (CL (k + 3)) ss (l0 y) H' P) :
    vcSs TAB (CL (k + 3)) (.cons (.forD 2 (.bin .sub (.len (.loc 5)) (.cint 1)) (.cint 0) LOOP) (.cons (.expr (.meth (.loc 4) 8 (.cons (.cint 0) (.cons (.idx (.loc 5) (.cint 0)) .nil)))) ss)) (l0 x0) H P := by
  have hl := x.hl
  have hlen : (((nodesV nd).length : Nat) : Int) - 1 = ((nd.length - 1 : Nat) : Int) := by simp [nodesV]; omega
  refine S_forD (E_bin (E_len (E_loc (h5 _) ⟨_, items_list x.hn, by simp [nodesV, lid]; omega, E_cint ⟨_, rfl, ?_⟩⟩)))
  show vcE _ _ _ _ _ _
  refine E_cint ⟨_, _, rfl, rfl, ?_⟩
  rw [hlen]
  refine ⟨by unfold lid; omega, by unfold lid; omega, by unfold lid; omega, by unfold lid; omega, ?_⟩
  have dl : (downL ((nd.length - 1 : Nat) : Int) 0).length = nd.length - 1 := by simp [downL]
  refine for_inv (Cm_CL _) (fun j l H1 => ∃ y, l = l0 y ∧ Plc H1 t nd N SP NM CS nq j ∧ Kp (Kin t CS) H H1) (fun j v l H1 hv hI Q qn qr => ?_) (fun l H1 hI => ?_) ⟨x0, rfl, x, Kp.refl⟩
  · obtain ⟨y, rfl, pl, g⟩ := hI
    have hj := (List.getElem?_eq_some_iff.mp hv).1
    rw [dl] at hj
    have hv' : v = .int ((nd.length - 1 - j : Nat) : Int) := by
      unfold downL at hv
      rw [List.getElem?_map, List.getElem?_range (by omega)] at hv
      cases hv
      exact congrArg V.int (Int.ofNat_sub (Nat.le_of_lt hj)).symm
    subst hv'
    rw [h2]
    obtain ⟨i, hi⟩ := Nat.exists_eq_add_one_of_ne_zero (Nat.sub_ne_zero_of_lt hj)
    rw [hi]
    have ea : nd[i]? = some nd[i] := List.getElem?_eq_getElem (by omega)
    have eq : nd[i + 1]? = some nd[i + 1] := List.getElem?_eq_getElem (by omega)
    generalize nd[i] = a at ea
    generalize nd[i + 1] = q at eq
    obtain ⟨kvs, p, c1, c2, c3, c4⟩ := pl.parent ea
    obtain ⟨PA, tr, pa⟩ := pl.tr
    obtain ⟨ft, a', b⟩ := tr.ar.choose_spec.choose_spec.choose_spec.1.ht
    have e1 : (((i + 1 : Nat) : Int)) - 1 = (i : Int) := by omega
    have go : ∀ Q : V → AH → Prop, Q (.int (a : Int)) H1 → vcE TAB (CL (k + 3)) (.idx (.loc 5) (.bin .sub (.loc 2) (.cint 1))) (l0 (.int ((i + 1 : Nat) : Int))) H1 Q := fun Q hQ => by
      refine E_idx (E_loc (h5 _) (E_bin (E_loc (h2' _) (E_cint ⟨_, rfl, ?_⟩))))
      show ∃ r, itemAt _ (.int _) _ = _ ∧ _
      rw [e1]
      exact ⟨_, node_it pl.hn hl ea, hQ⟩
    refine S_expr (E_meth (h4 _) a' rfl (Es_cons (E_dget (E_attr (h4 _) a' (b 7 (by omega)) ⟨by rw [dict_at c1]; rfl, go _ (go _ ⟨kvs, _, dict_at c1, rfl, ?_⟩)⟩))))
    rw [c2]
    refine Es_cons (E_idx (E_loc (h5 _) (E_loc (h2' _) ⟨_, node_it pl.hn hl eq, Es_nil (pl.step eq (by omega) c3 c4 fun H2 pl2 g2 => ⟨nofun, nofun, S_nil (qn _ _ trivial ⟨_, rfl, pl2, g.trans g2⟩)⟩)⟩)))
  · obtain ⟨y, rfl, pl, g⟩ := hI
    rw [dl] at pl
    obtain ⟨PA, tr, pa⟩ := pl.tr
    obtain ⟨ft, a', b⟩ := tr.ar.choose_spec.choose_spec.choose_spec.1.ht
    have eq : nd[0]? = some nd[0] := List.getElem?_eq_getElem (by omega)
    generalize nd[0] = q at eq
    have hN := (pl.rng q (List.mem_of_getElem? eq))
    refine S_expr (E_meth (h4 _) a' rfl (Es_cons (E_cint (Es_cons (E_idx (E_loc (h5 _) (E_cint ⟨_, node_it (i := 0) pl.hn hl eq, Es_nil (pl.step (p := 0) eq (by omega) (by omega) (fun i' _ e => by have := (pl.rng 0 (List.mem_of_getElem? e)).1; omega) fun H2 pl2 g2 => ⟨nofun, nofun, ?_⟩)⟩)))))))
    have : nd.length - 1 + 1 = nd.length := by omega
    rw [this] at pl2
    exact h H2 y pl2 (g.trans g2)
end
end Mine
end
section
open PySem PySem.W PySem.Calls PyProof.Rows
namespace Mine
theorem veq_ints {H : AH} {d i j : Nat} {ks : List Int} (h1 : H[i]? = some (.list (ks.map V.int))) (h2 : H[j]? = some (.list (ks.map V.int))) (hl : ks.length ≤ 1000) : veq H (d + 1) (.ref i) (.ref j) = some true := by
  rw [veq_lists h1 h2 (by simp [lid]; omega) rfl]
  refine all2_self fun v hv => ?_
  obtain ⟨n, _, rfl⟩ := List.mem_map.mp hv
  rw [veq_int]; simp
/-- copies of lists of numbers -/
structure Cop (H : AH) (CS es : List Nat) : Prop where
  len : CS.length = es.length
  at_ : ∀ (i c e : Nat), CS[i]? = some c → es[i]? = some e → ∃ ks : List Int, ks.length ≤ 1000 ∧ H[c]? = some (.list (ks.map V.int)) ∧ H[e]? = some (.list (ks.map V.int))
theorem veq_cop {H : AH} {i j : Nat} {CS es : List Nat} (x : Cop H CS es) (h1 : H[i]? = some (.list (CS.map V.ref))) (h2 : H[j]? = some (.list (es.map V.ref))) (hl : CS.length ≤ 1000) : veq H 2 (.ref i) (.ref j) = some true := by
  have e := x.len
  rw [veq_lists h1 h2 (by simp [lid]; omega) (by simp [e])]
  refine all2_map e fun k a b ea eb => ?_
  obtain ⟨ks, u, v, w⟩ := x.at_ k a b ea eb
  exact veq_ints v w u
theorem Cop.keep {S : Nat → Prop} {H H' : AH} {CS es : List Nat} (x : Cop H CS es) (g : Kp S H H') (h : ∀ i, S i → ∀ L, H[i]? ≠ some (.list L)) : Cop H' CS es :=
  ⟨x.len, fun i c e a b => by
    obtain ⟨ks, u, v, w⟩ := x.at_ i c e a b
    exact ⟨ks, u, g.get v fun s => h c s _ v, g.get w fun s => h e s _ w⟩⟩
section
variable {H H' : AH} {t N B k : Nat} {SP NM : List Str} {PA : List Int} {CS : List Nat} {P : V → AH → Prop}
theorem sp_copies {l : Loc} (h4 : l[4]? = some (some (.ref t))) (hl : 11 < l.length) (x : Tr H t N SP NM PA CS B) (hN : N ≤ 1000) (hB : B ≤ 1000)
    (p : ∀ H' es, Gr H H' → Cop H' CS es → P (.ref H'.length) (H' ++ [.list (es.map V.ref)])) : vcE TAB (CL k) (.comp (.whole (.loc 11)) 11 (.attr (.loc 4) 8) (.cbool true)) l H P := by
  obtain ⟨K, A, X, y, _⟩ := x.ar
  obtain ⟨ft, a, b⟩ := y.ht
  have hcs := y.at_ 6 _ rfl
  have C := Cm_CL k
  have l4 := x.l4
  refine E_comp (E_attr h4 a (b 6 (by omega)) ⟨_, items_list hcs, by simp [lid]; omega, ?_⟩)
  refine iterC_inv (fun x H P Q k h => tst_mono (fun P Q k h => vcE_mono C (.cbool true) (l.set 11 (some x)) H P Q k h) (fun b H h => by
      cases b with
      | true => exact vcE_mono C _ (l.set 11 (some x)) H _ _ (fun r H h => k _ _ h) h
      | false => exact k _ _ h) h)
    (fun n acc H1 => ∃ es : List Nat, acc = es.map V.ref ∧ es.length = n ∧ Gr H H1 ∧ ∀ (i c e : Nat), CS[i]? = some c → es[i]? = some e → ∃ ks : List Int, ks.length ≤ 1000 ∧ H1[c]? = some (.list (ks.map V.int)) ∧ H1[e]? = some (.list (ks.map V.int))) ?_ ?_ ⟨[], rfl, rfl, Kp.refl, fun i c e _ h => by simp at h⟩
  · rintro n v acc H1 hv ⟨es, rfl, rfl, g, he⟩
    have hn := (List.getElem?_eq_some_iff.mp hv).1
    rw [List.length_map] at hn
    have ec : CS[es.length]? = some CS[es.length] := List.getElem?_eq_getElem hn
    rw [map_at ec] at hv; cases hv
    generalize CS[es.length] = c at ec
    obtain ⟨_, ks, e1, e2⟩ := x.ch c (List.mem_of_getElem? ec)
    have e3 := g.g e1
    refine ⟨true, rfl, ?_⟩
    dsimp only
    rw [if_pos rfl]
    have g1 : Gr H1 (H1 ++ [AObj.list (ks.map V.int)]) := Kp.app _
    refine E_whole (E_loc (List.getElem?_set_self hl) ⟨_, getL_list e3, by simp [lid]; omega, ?_, ?_, es ++ [H1.length], by simp, by simp, g.trans g1, fun i c' e h1 h2 => ?_⟩)
    · have : (H1 ++ [AObj.list (ks.map V.int)])[t + 1 + 6]? = H[t + 1 + 6]? := by rw [hcs]; exact Gr.g (g.trans g1) hcs
      exact this
    · simp [lid]; omega
    · by_cases hi : i < es.length
      · rw [List.getElem?_append_left hi] at h2
        obtain ⟨ks', u, v, w⟩ := he i c' e h1 h2
        exact ⟨ks', u, g1.g v, g1.g w⟩
      · have hi2 := (List.getElem?_eq_some_iff.mp h2).1
        simp only [List.length_append, List.length_singleton] at hi2
        obtain rfl : i = es.length := by omega
        rw [List.getElem?_append_right (Nat.le_refl _), Nat.sub_self] at h2
        cases h2
        rw [ec] at h1; cases h1
        exact ⟨ks, by omega, g1.g e3, last_app _ _⟩
  · rintro acc H1 ⟨es, rfl, hn, g, he⟩
    rw [List.length_map] at hn
    exact p H1 es g ⟨hn.symm, he⟩
end
/-! ## what stands before the last words -/
structure Fin (H : AH) (b t st fm fl kq nq cq pq : Nat) (kd : List (Str × Str)) (nd : List Nat) (SP NM : List Str) (fx : List (Nat × V)) (PA : List Int) (CS es : List Nat) : Prop where
  bas : Bas H b t st (t + 1 + 1) (t + 1 + 2) fx SP NM
  fx12 : lk 12 fx = some (.ref fm)
  kn : Knd H kq kd
  hn : H[nq]? = some (.list (nodesV nd))
  hfm : H[fm]? = some (.inst 1 [(0, .ref t), (1, .ref fl)])
  hfl : H[fl]? = some (.list (((nodesV nd).take 3).drop 1))
  ht : ∃ ft, H[t]? = some (.inst 2 ft) ∧ lk 8 ft = some (.ref (t + 1 + 6)) ∧ lk 7 ft = some (.ref (t + 1 + 5))
  hcs : H[t + 1 + 6]? = some (.list (CS.map V.ref))
  hcq : H[cq]? = some (.list (es.map V.ref))
  cop : Cop H CS es
  hpa : H[t + 1 + 5]? = some (.list (PA.map V.int))
  hpq : H[pq]? = some (.list (PA.map V.int))
  lc : CS.length ≤ 1000
  lp : PA.length ≤ 1000
section
variable {H H' : AH} {b t st fm fl kq nq cq pq : Nat} {kd : List (Str × Str)} {nd : List Nat} {SP NM : List Str} {fx : List (Nat × V)} {PA : List Int} {CS es : List Nat}
theorem Bas.other {isp inm i : Nat} {o : AObj} (x : Bas H b t st isp inm fx SP NM) (e : H[i]? = some o) (h : ∀ fs, o ≠ .inst 3 fs ∧ o ≠ .inst 0 fs) : ¬ Two b st i := by
  obtain ⟨fb, hb, _⟩ := x.hb
  obtain ⟨fs, hs, _⟩ := x.hst
  rintro (rfl | rfl)
  · rw [hb] at e; cases e; exact (h _).1 rfl
  · rw [hs] at e; cases e; exact (h _).2 rfl
theorem Fin.keep (x : Fin H b t st fm fl kq nq cq pq kd nd SP NM fx PA CS es) (y : Bas H' b t st (t + 1 + 1) (t + 1 + 2) fx SP NM) (g : Kp (Two b st) H H') : Fin H' b t st fm fl kq nq cq pq kd nd SP NM fx PA CS es := by
  obtain ⟨bas, fx12, kn, hn, hfm, hfl, ⟨ft, t1, t2⟩, hcs, hcq, cop, hpa, hpq, lc, lp⟩ := x
  have li : ∀ {i : Nat} {L : List V}, H[i]? = some (.list L) → H'[i]? = some (.list L) := fun e => g.get e (bas.other e fun fs => ⟨nofun, nofun⟩)
  refine ⟨y, fx12, kn.keep g fun i s => ?_, li hn, g.get hfm (bas.other hfm fun fs => ⟨nofun, nofun⟩), li hfl, ⟨ft, g.get t1 (bas.other t1 fun fs => ⟨nofun, nofun⟩), t2⟩, li hcs, li hcq, cop.keep g fun i s L hL => bas.other hL (fun fs => ⟨nofun, nofun⟩) s, li hpa, li hpq, lc, lp⟩
  obtain ⟨fb, hb, _⟩ := bas.hb
  obtain ⟨fs, hs, _⟩ := bas.hst
  rcases s with rfl | rfl
  · exact ⟨_, hb, fun vs => ⟨nofun, nofun⟩⟩
  · exact ⟨_, hs, fun vs => ⟨nofun, nofun⟩⟩
theorem Fin.grow (x : Fin H b t st fm fl kq nq cq pq kd nd SP NM fx PA CS es) (g : Gr H H') : Fin H' b t st fm fl kq nq cq pq kd nd SP NM fx PA CS es := x.keep (x.bas.grow g) g.any
end
end Mine
end
section
open PySem PySem.W PySem.Calls PyProof.Rows
namespace Mine
section
variable {H H' : AH} {b t st fm fl kq nq cq pq k : Nat} {kd : List (Str × Str)} {nd : List Nat} {SP NM : List Str} {fx : List (Nat × V)} {PA : List Int} {CS es : List Nat}
noncomputable abbrev LOOPM : Ss := (.cons (.ife (.not (.call 17 (.cons (.loc 3) (.cons (.loc 1) (.cons (.loc 5) (.cons (.loc 8) .nil)))))) (.cons (.ret (.cbool false))
  .nil) .nil)
  .nil)
noncomputable abbrev TAIL : Ss := (.cons (.forL 8 (.tup (.cons (.len (.loc 5)) (.cons (.bin .add (.bin .fdiv (.len (.loc 5)) (.cint 2)) (.cint 1)) (.cons (.cint 1) .nil)))) LOOPM)
  (.cons (.ife (.not (.call 18 (.cons (.loc 3) (.cons (.loc 1) (.cons (.loc 5) .nil))))) (.cons (.ret (.cbool false))
  .nil) .nil)
  (.cons (.asg 9 (.and (.cons (.cmp .eq (.attr (.attr (.loc 3) 12) 1) (.part (.loc 5) (.cint 1) (.cint 3))) (.cons (.cmp .eq (.attr (.loc 3) 13) (.cstr s_inXbody)) .nil))))
  (.cons (.ret (.and (.cons (.loc 9) (.cons (.cmp .eq (.attr (.loc 4) 8) (.loc 6)) (.cons (.cmp .eq (.attr (.loc 4) 7) (.loc 7)) .nil)))))
  .nil))))
theorem tru (b : Bool) (H : AH) : truth (.bool b) H = some b := rfl
theorem ints_nodes (nd : List Nat) : ((nodesV nd).take 3).drop 1 = ((((nd.map fun n : Nat => (n : Int))).take 3).drop 1).map V.int := by
  simp [nodesV, List.map_take, List.map_drop, Function.comp_def]
/-- the last words -/
theorem last_words {l : Loc} {P : V → AH → Prop} (h3 : l[3]? = some (some (.ref b))) (h4 : l[4]? = some (some (.ref t))) (h5 : l[5]? = some (some (.ref nq))) (h6 : l[6]? = some (some (.ref cq))) (h7 : l[7]? = some (some (.ref pq))) (hl : 9 < l.length)
    (hL : 3 ≤ nd.length) (hL2 : nd.length ≤ 12) (x : Fin H b t st fm fl kq nq cq pq kd nd SP NM fx PA CS es) (p : ∀ H', P (.bool true) H') :
    vcSs TAB (CL k) (.cons (.asg 9 (.and (.cons (.cmp .eq (.attr (.attr (.loc 3) 12) 1) (.part (.loc 5) (.cint 1) (.cint 3))) (.cons (.cmp .eq (.attr (.loc 3) 13) (.cstr s_inXbody)) .nil))))
  (.cons (.ret (.and (.cons (.loc 9) (.cons (.cmp .eq (.attr (.loc 4) 8) (.loc 6)) (.cons (.cmp .eq (.attr (.loc 4) 7) (.loc 7)) .nil)))))
  .nil)) l H (Rf P) := by
  obtain ⟨fb, u1, u2, u3, u4, u5, u6, u7⟩ := x.bas.hb
  have e12 := u7.trans x.fx12
  have g : Gr H (H ++ [AObj.list (((nodesV nd).take 3).drop 1)]) := Kp.app _
  have x' := x.grow g
  have hnl : (nodesV nd).length = nd.length := List.length_map _
  refine S_asg (E_and (E_cmp (E_attr2 h3 u1 e12 x.hfm rfl (E_part (E_loc h5 (E_cint (E_cint ⟨nodesV nd, 1, 3, getL_list x.hn, by unfold lid; omega, rfl, rfl, by decide, by decide, by omega, true, ?_, true, rfl, ?_⟩)))))))
  · rw [cmp_eq]
    have a1 := x'.hfl
    have a2 := last_app H (AObj.list (((nodesV nd).take 3).drop 1))
    show veq (H ++ [AObj.list (((nodesV nd).take 3).drop 1)]) 2 (.ref fl) (.ref H.length) = some true
    rw [ints_nodes] at a1 a2 ⊢
    exact veq_ints a1 a2 (by simp; omega)
  · rw [if_pos rfl]
    obtain ⟨fb', v1, v2, v3, v4, v5, v6, v7⟩ := x'.bas.hb
    obtain ⟨ft, t1, t2, t3⟩ := x'.ht
    refine A_one (E_cmp (E_attr h3 v1 v4 (E_cstr ⟨true, by rw [eq_str]; simp, ?_⟩)))
    have n4 : (l.set 9 (some (V.bool true)))[4]? = some (some (.ref t)) := by rw [List.getElem?_set_ne (by decide)]; exact h4
    have n6 : (l.set 9 (some (V.bool true)))[6]? = some (some (.ref cq)) := by rw [List.getElem?_set_ne (by decide)]; exact h6
    have n7 : (l.set 9 (some (V.bool true)))[7]? = some (some (.ref pq)) := by rw [List.getElem?_set_ne (by decide)]; exact h7
    refine S_ret (E_and (E_loc (List.getElem?_set_self hl) ⟨true, rfl, ?_⟩))
    rw [if_pos rfl]
    refine A_cons (E_cmp (E_attr n4 t1 t2 (E_loc n6 ⟨true, by rw [cmp_eq]; exact veq_cop x'.cop x'.hcs x'.hcq x'.lc, true, rfl, ?_⟩)))
    rw [if_pos rfl]
    exact A_one (E_cmp (E_attr n4 t1 t3 (E_loc n7 ⟨true, by rw [cmp_eq]; exact veq_ints x'.hpa x'.hpq x'.lp, p _⟩)))
theorem sp_tail {l0 : V → Loc} {x0 : V} {P : V → AH → Prop} (h8 : ∀ x y, (l0 x).set 8 (some y) = l0 y) (h8' : ∀ y, (l0 y)[8]? = some (some y)) (h1 : ∀ x, (l0 x)[1]? = some (some (.ref kq))) (h3 : ∀ x, (l0 x)[3]? = some (some (.ref b))) (h4 : ∀ x, (l0 x)[4]? = some (some (.ref t)))
    (h5 : ∀ x, (l0 x)[5]? = some (some (.ref nq))) (h6 : ∀ x, (l0 x)[6]? = some (some (.ref cq))) (h7 : ∀ x, (l0 x)[7]? = some (some (.ref pq))) (hl : ∀ x, 9 < (l0 x).length) {L : Loc} (hL0 : ∀ y, L.set 8 (some y) = l0 y) (hL5 : L[5]? = some (some (.ref nq)))
    (K : Kds kd nd SP NM) (h0 : kd[0]? = some (s_html, s_html)) (hL : 3 ≤ nd.length) (hL2 : nd.length ≤ 12) (x : Fin H b t st fm fl kq nq cq pq kd nd SP NM fx PA CS es) (p : ∀ H', P (.bool true) H') :
    vcSs TAB (CL (k + 5)) TAIL L H (Rf P) := by
  have hnl : (nodesV nd).length = nd.length := List.length_map _
  refine S_forL (E_tup (Es_cons (E_len (E_loc hL5 ⟨_, items_list x.hn, by unfold lid; omega, Es_cons (E_bin (E_bin (E_len (E_loc hL5 ⟨_, items_list x.hn, by unfold lid; omega, E_cint ⟨_, add_fdiv (by decide) (by decide), E_cint ⟨_, rfl, Es_cons (E_cint (Es_nil ⟨(by decide : 3 ≤ lid), ?_⟩))⟩⟩⟩))))⟩))))
  have e2 : (((nodesV nd).length : Nat) : Int).fdiv 2 + 1 = ((nd.length / 2 + 1 : Nat) : Int) := by rw [hnl]; simp [Int.fdiv_eq_ediv_of_nonneg]
  dsimp only
  rw [e2, hnl]
  have g : Gr H (H ++ [AObj.tup [.int (nd.length : Nat), .int ((nd.length / 2 + 1 : Nat) : Int), .int 1]]) := Kp.app _
  have tq := last_app H (AObj.tup [.int (nd.length : Nat), .int ((nd.length / 2 + 1 : Nat) : Int), .int 1])
  have x1 := x.grow g
  generalize H.length = q at *
  generalize H ++ [AObj.tup [.int (nd.length : Nat), .int ((nd.length / 2 + 1 : Nat) : Int), .int 1]] = H1 at *
  refine ⟨_, items_tup tq, (by decide : 3 ≤ lid), ?_⟩
  refine for_inv (Cm_CL _) (fun j l H2 => (∀ y, l.set 8 (some y) = l0 y) ∧ (j = 0 ∨ ∃ y, l = l0 y) ∧ Fin H2 b t st fm fl kq nq cq pq kd nd SP NM fx PA CS es ∧ H2[q]? = some (AObj.tup [.int (nd.length : Nat), .int ((nd.length / 2 + 1 : Nat) : Int), .int 1])) (fun j v l H2 hv hI Q qn qr => ?_) (fun l H2 hI => ?_) ⟨hL0, .inl rfl, x1, tq⟩
  · obtain ⟨hs, _, x2, tq2⟩ := hI
    rw [hs]
    obtain ⟨m, rfl, m1, m2⟩ : ∃ m : Nat, v = .int (m : Int) ∧ 1 ≤ m ∧ m ≤ nd.length := by
      have := (List.getElem?_eq_some_iff.mp hv).1
      have : j = 0 ∨ j = 1 ∨ j = 2 := by simp at this; omega
      rcases this with rfl | rfl | rfl <;> cases hv
      · exact ⟨_, rfl, by omega, by omega⟩
      · exact ⟨_, rfl, by omega, by omega⟩
      · exact ⟨1, rfl, by omega, by omega⟩
    refine S_ife false (Cm_CL _) (E_not (Cm_CL _) (E_call (Es_cons (E_loc (h3 _) (Es_cons (E_loc (h1 _) (Es_cons (E_loc (h5 _) (Es_cons (E_loc (h8' _) (Es_nil (sp_others K x2.bas x2.kn x2.hn m1 m2 h0 fun H3 y3 g3 => ⟨rfl, rfl, nofun, fun _ => S_nil (S_nil ?_)⟩))))))))))))
    have tq3 := g3.get tq2 (x2.bas.other tq2 fun fs => ⟨nofun, nofun⟩)
    exact qn _ _ (by show objOf _ _ = objOf _ _; exact (tq3.trans tq.symm)) ⟨h8 _, .inr ⟨_, rfl⟩, x2.keep y3 g3, tq3⟩
  · obtain ⟨_, hl', x2, tq2⟩ := hI
    obtain ⟨y, rfl⟩ : ∃ y, l = l0 y := by
      rcases hl' with h | h
      · cases h
      · exact h
    refine S_ife false (Cm_CL _) (E_not (Cm_CL _) (E_call (Es_cons (E_loc (h3 _) (Es_cons (E_loc (h1 _) (Es_cons (E_loc (h5 _) (Es_nil (sp_closes K x2.bas x2.kn x2.hn (by omega) hL2 h0 fun H3 y3 g3 => ⟨rfl, rfl, nofun, fun _ => S_nil ?_⟩))))))))))
    exact last_words (h3 _) (h4 _) (h5 _) (h6 _) (h7 _) (hl _) hL hL2 (x2.keep y3 g3) p
end
end Mine
end
section
open PySem PySem.W PySem.Calls PyProof.Rows
namespace Mine
section
variable {H H' : AH} {k kq : Nat} {kd : List (Str × Str)}
theorem Knd.push {r : Nat} {kk : Str × Str} (x : Knd H kq kd) (h : H[r]? = some (kdV kk)) : ∃ vs, H[kq]? = some (.list vs) ∧ vs.length = kd.length ∧ Knd (H.set kq (.list (vs ++ [.ref r]))) kq (kd ++ [kk]) := by
  obtain ⟨rs, a, b, c⟩ := x.ex
  refine ⟨_, a, by rw [List.length_map, b], ⟨rs ++ [r], ?_, by simp [b], fun j e kk' h1 h2 => ?_⟩⟩
  · rw [List.getElem?_set_self (lt_of a), List.map_append]; rfl
  have old : ∀ {i : Nat} {v : AObj}, H[i]? = some v → (∀ L, v ≠ .list L) → (H.set kq (.list (rs.map V.ref ++ [.ref r])))[i]? = some v := fun {i v} e n => by
    rw [List.getElem?_set_ne (fun e' => by subst e'; rw [a] at e; cases e; exact n _ rfl)]; exact e
  by_cases hj : j < rs.length
  · rw [List.getElem?_append_left hj] at h1
    rw [List.getElem?_append_left (by omega)] at h2
    exact old (c j e kk' h1 h2) fun L => nofun
  · have hj2 := (List.getElem?_eq_some_iff.mp h1).1
    simp only [List.length_append, List.length_singleton] at hj2
    obtain rfl : j = rs.length := by omega
    rw [List.getElem?_append_right (Nat.le_refl _), Nat.sub_self] at h1
    rw [b, List.getElem?_append_right (Nat.le_refl _), Nat.sub_self] at h2
    cases h1; cases h2
    exact old h fun L => nofun
/-- what the law's script says the kinds to be -/
structure Kis (H : AH) (kq : Nat) (kd : List (Str × Str)) : Prop where
  kn : Knd H kq kd
  h0 : kd[0]? = some (s_html, s_html)
  sp : ∀ k ∈ kd, Sps k
noncomputable abbrev KBODY : Ss := (.cons (.expr (.app (.loc 1) (.call 12 (.cons (.call 9 (.cons (.loc 0) (.cons (.bin .add (.loc 2) (.cint 1)) .nil))) .nil))))
  .nil)
theorem sp_kinds {ns : List Int} {l0 : Option V → Loc} {x0 : Option V} {ss : Ss} {P : Fl → Loc → AH → Prop} (hn : ns.length ≤ 63) (h2 : ∀ x y, (l0 x).set 2 (some y) = l0 (some y)) (h2' : ∀ y, (l0 (some y))[2]? = some (some y)) (h0 : ∀ x, (l0 x)[0]? = some (some (.bl ns))) (h1 : ∀ x, (l0 x)[1]? = some (some (.ref kq)))
    (x : Kis H kq kd) (hl : kd.length = 2) (p : ∀ H' kd y, Kis H' kq kd → 3 ≤ kd.length → kd.length ≤ 12 → vcSs TAB (CL (k + 2)) ss (l0 (some y)) H' P) :
    vcSs TAB (CL (k + 2)) (.cons (.forR 2 (.bin .sub (.cint 10) (.bin .mod (.call 9 (.cons (.loc 0) (.cons (.cint 0) .nil))) (.cint 10))) KBODY) ss) (l0 x0) H P := by
  refine S_forR (E_bin (E_cint (E_bin (E_call (Es_cons (E_loc (h0 _) (Es_cons (E_cint (Es_nil (sp_digit (j := 0) hn (by omega) fun d H1 g1 => E_cint ⟨_, add_mod (by decide), ?_⟩))))))))))
  obtain ⟨n, hn1, hnm⟩ := rest_at d (b := 10) (by decide)
  dsimp only
  rw [show d.fmod 10 = (n : Int) from hnm]
  refine ⟨_, rfl, ?_⟩
  show ∃ n', V.int (10 - (n : Int)) = _ ∧ _
  have en : (10 : Int) - (n : Int) = ((10 - n : Nat) : Int) := by omega
  rw [en]
  refine ⟨_, rfl, by unfold lid; omega, by unfold lid; omega, ?_⟩
  have ul : (upL ((10 - n : Nat) : Int)).length = 10 - n := by simp [upL]
  refine for_inv (Cm_CL _) (fun j l H2 => ∃ kd x, Kis H2 kq kd ∧ kd.length = 2 + j ∧ l = l0 x ∧ (j = 0 ∨ ∃ y, x = some y)) (fun j v l H2 hv hI Q qn qr => ?_) (fun l H2 hI => ?_) ⟨kd, x0, ⟨x.kn.grow g1, x.h0, x.sp⟩, hl, rfl, .inl rfl⟩
  · obtain ⟨kd, x, ks, hk, rfl, _⟩ := hI
    have hj := (List.getElem?_eq_some_iff.mp hv).1
    rw [ul] at hj
    have hv' : v = .int (j : Int) := by
      unfold upL at hv
      rw [Int.toNat_natCast, List.getElem?_map, List.getElem?_range (by omega)] at hv
      cases hv; rfl
    subst hv'
    rw [h2]
    obtain ⟨rs, a, b, c⟩ := ks.kn.ex
    refine S_expr (E_app (E_loc (h1 _) ⟨by rw [getL_list a]; rfl, E_call (Es_cons (E_call (Es_cons (E_loc (h0 _) (Es_cons (E_bin (E_loc (h2' _) (E_cint ⟨_, rfl, Es_nil ?_⟩))))))))⟩))
    show CL _ 9 [_, .int ((j : Int) + 1)] _ _
    have e1 : (j : Int) + 1 = ((j + 1 : Nat) : Int) := by omega
    rw [e1]
    refine sp_digit hn (by omega) fun d H3 g3 => Es_nil (sp_kind fun kk H4 r hs g4 hr => ?_)
    have kn4 := (ks.kn.grow g3).grow g4
    obtain ⟨vs, u1, u2, u3⟩ := kn4.push hr
    refine ⟨kq, vs, rfl, u1, by unfold lid; omega, nofun, nofun, S_nil (qn _ _ trivial ⟨_, _, ⟨u3, ?_, fun k hk' => ?_⟩, by simp [hk]; omega, rfl, .inr ⟨_, rfl⟩⟩)⟩
    · rw [List.getElem?_append_left (by omega)]; exact ks.h0
    · rcases List.mem_append.mp hk' with h | h
      · exact ks.sp k h
      · rw [List.mem_singleton.mp h]; exact hs
  · obtain ⟨kd, x, ks, hk, rfl, hx⟩ := hI
    rw [ul] at hk hx
    obtain ⟨y, rfl⟩ : ∃ y, x = some y := by
      rcases hx with h | h
      · omega
      · exact h
    exact p H2 kd y ks (by omega) (by omega)
/-- another mode -/
theorem sp_to {H0 : AH} {b t : Nat} {fb : List (Nat × V)} {Z : List (Nat × AObj)} {s : Str} {P : V → AH → Prop} (x : Mk H0 H b t fb Z) (hf : (lk 13 fb).isSome = true) (p : ∀ H', Mk H0 H' b t (put 13 (.str s) fb) Z → P .none H') : CL (k + 1) 36 [.ref b, .str s] H P := by
  refine call_of rfl rfl ?_ (by decide)
  have hl := x.len
  exact S_setA' (E_loc rfl (E_loc rfl ⟨_, _, _, rfl, x.hb, by omega, S_nil (p _ (x.fld 13 _ (by rw [put_same 13 _ hf]; exact hl)))⟩))
end
end Mine
end
section
open PySem PySem.W PySem.Calls PyProof.Rows
namespace Mine
section
variable {H H' : AH} {k kq nq b t st fm sl fl N : Nat} {kd : List (Str × Str)} {nd : List Nat} {SP NM : List Str} {CS : List Nat} {fb : List (Nat × V)} {ns : List Int}
noncomputable abbrev MID : Ss := (.cons (.expr (.ext (.attr (.attr (.loc 3) 12) 1) (.part (.loc 5) (.cint 1) (.cint 3))))
  (.cons (.asg 6 (.comp (.whole (.loc 11)) 11 (.attr (.loc 4) 8) (.cbool true)))
  (.cons (.asg 7 (.whole (.attr (.loc 4) 7)))
  TAIL)))
/-- from the placed nodes to the end -/
theorem law_end {y : V} {P : V → AH → Prop} (x : Plc H t nd N SP NM CS nq nd.length) (kn : Knd H kq kd) (hkl : kd.length = nd.length) (at_ : ∀ (j : Nat) (k : Str × Str) (n : Nat), kd[j]? = some k → nd[j]? = some n → SP[n]? = some k.1 ∧ NM[n]? = some k.2)
    (sp : ∀ k ∈ kd, Sps k) (h0 : kd[0]? = some (s_html, s_html)) (hL : 3 ≤ nd.length) (hb : H[b]? = some (.inst 3 fb)) (hlb : fb.length ≤ 50) (f0 : lk 0 fb = some (.ref t)) (f11 : lk 11 fb = some (.ref st)) (f12 : lk 12 fb = some (.ref fm)) (f13 : lk 13 fb = some (.str s_inXbody)) (f24 : (lk 24 fb).isSome = true)
    (hst : H[st]? = some (.inst 0 [(0, .ref t), (1, .ref sl)])) (hfm : H[fm]? = some (.inst 1 [(0, .ref t), (1, .ref fl)])) (hfl : H[fl]? = some (.list [])) (hfc : fl ∉ CS) (htf : t + 8 < fl) (hnf : nq ≠ fl) (hqf : kq < fl) (p : ∀ H', P (.bool true) H') :
    vcSs TAB (CL (k + 5)) MID [some (.bl ns), some (.ref kq), some y, some (.ref b), some (.ref t), some (.ref nq), none, none, none, none, none, none] H (Rf P) := by
  have hl12 := x.hl
  have hnl : (nodesV nd).length = nd.length := List.length_map _
  have hpl : (((nodesV nd).take 3).drop 1).length ≤ 12 := by simp; omega
  refine S_expr (E_ext (E_attr2 rfl hb f12 hfm rfl ⟨by rw [getL_list hfl]; rfl, E_part (E_loc rfl (E_cint (E_cint ⟨nodesV nd, 1, 3, getL_list x.hn, by unfold lid; omega, rfl, rfl, by decide, by decide, by omega, fl, [], _, rfl, ?_, getL_list (last_app _ _), ?_, ?_, nofun, nofun, ?_⟩)))⟩))
  · exact (Kp.app (S := fun _ => False) _).get hfl id
  · intro e
    have := lt_of hfl
    injection e with e; omega
  · show 0 + (((nodesV nd).take 3).drop 1).length ≤ lid
    unfold lid; omega
  have g1 : Gr H (H ++ [AObj.list (((nodesV nd).take (Int.toNat 3)).drop (Int.toNat 1))]) := Kp.app _
  have hfl1 := g1.g hfl
  generalize H ++ [AObj.list (((nodesV nd).take (Int.toNat 3)).drop (Int.toNat 1))] = H1 at *
  rw [List.nil_append]
  have g2 : Kp (· = fl) H1 (H1.set fl (.list (((nodesV nd).take 3).drop 1))) := Kp.set (S := (· = fl)) rfl _
  have n2 : (H1.set fl (.list (((nodesV nd).take 3).drop 1)))[fl]? = some (.list (((nodesV nd).take 3).drop 1)) := List.getElem?_set_self (lt_of hfl1)
  show vcSs _ _ _ _ (H1.set fl (.list (((nodesV nd).take 3).drop 1))) _
  generalize H1.set fl (.list (((nodesV nd).take 3).drop 1)) = H2 at *
  have gg : Kp (· = fl) H H2 := g1.any.trans g2
  obtain ⟨PA, tr, _⟩ := x.tr
  have tr2 : Tr H2 t N SP NM PA CS nd.length := tr.keep' gg (fun i (hi : i = fl) => by omega) fun i (hi : i = fl) => by rw [hi]; exact hfc
  have hN := x.nN
  have ins : ∀ {i c : Nat} {fs : List (Nat × V)}, H[i]? = some (.inst c fs) → H2[i]? = some (.inst c fs) := fun {i c fs} e => gg.get e fun hi : i = fl => by rw [hi, hfl] at e; cases e
  have kn2 : Knd H2 kq kd := by
    obtain ⟨rs, a, b', c⟩ := kn.ex
    exact ⟨rs, gg.get a fun hi : kq = fl => by omega, b', fun j r k h1 h2 => gg.get (c j r k h1 h2) fun hi : r = fl => by have := c j r k h1 h2; rw [hi, hfl] at this; cases this⟩
  have hn2 := gg.get x.hn hnf
  have hb2 := ins hb
  have hst2 := ins hst
  have hfm2 := ins hfm
  refine S_asg (sp_copies rfl (by decide : 11 < 12) tr2 hN (by omega) fun H3 es g3 cop => ?_)
  have g4 : Gr H2 (H3 ++ [AObj.list (es.map V.ref)]) := g3.trans (Kp.app _)
  have hcq := last_app H3 (AObj.list (es.map V.ref))
  have cop4 := cop.keep (Kp.app (S := fun _ => False) [AObj.list (es.map V.ref)]) fun i s => s.elim
  generalize H3.length = cq at *
  generalize H3 ++ [AObj.list (es.map V.ref)] = H4 at *
  have tr4 := tr2.grow g4
  obtain ⟨K, A, X, ar, _⟩ := tr4.ar
  obtain ⟨ft, a, b'⟩ := ar.ht
  have l3 := tr4.l3
  refine S_asg (E_whole (E_attr rfl a (b' 5 (by omega)) ⟨_, getL_list (ar.at_ 5 _ rfl), by rw [List.length_map, l3]; unfold lid; omega, ?_⟩))
  have g5 : Gr H4 (H4 ++ [AObj.list (PA.map V.int)]) := Kp.app _
  have hpq := last_app H4 (AObj.list (PA.map V.int))
  have fin4 : Fin (H4 ++ [AObj.list (PA.map V.int)]) b t st fm fl kq nq cq H4.length kd nd SP NM fb PA CS es := by
    have g6 : Gr H2 (H4 ++ [AObj.list (PA.map V.int)]) := g4.trans g5
    have ar5 := ar.grow g5
    obtain ⟨ft5, a5, b5⟩ := ar5.ht
    refine ⟨⟨⟨fb, g6.g hb2, f0, f11, f13, f24, hlb, rfl⟩, ⟨_, g6.g hst2, rfl, rfl, Nat.le_of_ble_eq_true rfl⟩, ⟨ft5, a5, b5 1 (by omega), b5 2 (by omega)⟩, ar5.at_ 1 _ rfl, ar5.at_ 2 _ rfl⟩, f12, kn2.grow g6, g6.g hn2, g6.g hfm2, g6.g n2, ⟨ft5, a5, b5 6 (by omega), b5 5 (by omega)⟩, ar5.at_ 6 _ rfl, g5.g hcq, cop4.keep g5 fun i s => s.elim, ar5.at_ 5 _ rfl, hpq, by rw [tr4.l4]; exact hN, by rw [l3]; exact hN⟩
  have KD : Kds kd nd SP NM := ⟨hkl, by omega, by rw [tr4.l1]; unfold lid; omega, by rw [tr4.l2]; unfold lid; omega, at_, x.nodup, sp⟩
  exact sp_tail (l0 := fun z => [some (.bl ns), some (.ref kq), some y, some (.ref b), some (.ref t), some (.ref nq), some (.ref cq), some (.ref H4.length), some z, none, none, none]) (x0 := .none) (fun _ _ => rfl) (fun _ => rfl) (fun _ => rfl) (fun _ => rfl) (fun _ => rfl) (fun _ => rfl) (fun _ => rfl) (fun _ => rfl) (fun _ => (by decide : 9 < 12)) (fun _ => rfl) rfl KD h0 hL hl12 fin4 p
end
end Mine
end
section
open PySem PySem.W PySem.Calls PyProof.Rows
namespace Mine
theorem law_ok (ns : List Int) (hn : ns.length ≤ 63) : vcCall TAB FS 12 19 [.bl ns] [] (fun v _ => v = .bool true) := by
  refine call_of (k := 11) rfl rfl ?_ (by decide)
  refine S_asg (E_lst (Es_cons (E_tup (Es_cons (E_cstr (Es_cons (E_cstr (Es_nil ⟨two_lid, Es_cons (E_tup (Es_cons (E_cstr (Es_cons (E_cstr (Es_nil ⟨two_lid, Es_nil ⟨two_lid, ?_⟩⟩))))))⟩))))))))
  have k0 : Kis ([AObj.tup [.str s_html, .str s_html], .tup [.str s_html, .str s_body], .list [.ref 0, .ref 1]] : AH) 2 [(s_html, s_html), (s_html, s_body)] := by
    refine ⟨⟨[0, 1], rfl, rfl, fun j r kk h1 h2 => ?_⟩, rfl, fun kk hk => ?_⟩
    · have hj := (List.getElem?_eq_some_iff.mp h1).1
      have : j = 0 ∨ j = 1 := by simp at hj; omega
      rcases this with rfl | rfl <;> (cases h1; cases h2; rfl)
    · simp only [List.mem_cons, List.not_mem_nil, or_false] at hk
      rcases hk with rfl | rfl <;> exact .inl rfl
  refine sp_kinds (k := 9) (kq := 2) (l0 := fun x => [some (.bl ns), some (.ref 2), x, none, none, none, none, none, none, none, none, none]) hn (fun _ _ => rfl) (fun _ => rfl) (fun _ => rfl) (fun _ => rfl) k0 rfl fun H1 kd y ks k3 k12 => ?_
  obtain ⟨rs, kq1, _⟩ := ks.kn.ex
  have kql := lt_of kq1
  refine S_asg (E_new (Es_cons (E_dnil (Es_nil ?_))))
  refine ⟨34, rfl, sp_builder (last_app _ _) fun H2 t st fm sl fl fb mk ht f0 f11 f12 f13 f24 => ⟨rfl, ?_⟩⟩
  have h1t : H1.length < t := by simp at ht; omega
  have hbl : H1.length ≤ (H1 ++ [AObj.dict []]).length := by simp
  refine S_expr (E_meth rfl mk.hb rfl (Es_cons (E_cstr (Es_nil (sp_to mk f13 fun H3 mk3 => ⟨nofun, nofun, ?_⟩)))))
  have g3 : Gr H1 H3 := Kp.mono ((Kp.app (S := fun i => H1.length ≤ i) [AObj.dict []]).trans ((Kp.app [AObj.inst 3 []]).trans (mk3.kp.mono fun i (hi : i = _) _ => by rw [hi]; exact hbl))) fun i (hs : H1.length ≤ i) hl => absurd hl (by omega)
  have ks3 := ks.kn.grow g3
  generalize (H1 ++ [AObj.dict []]).length = b at *
  have e0 : lk 0 (put 13 (.str s_inXbody) fb) = some (.ref t) := by rw [lk_put, if_neg (by decide)]; exact f0
  have e11 : lk 11 (put 13 (.str s_inXbody) fb) = some (.ref st) := by rw [lk_put, if_neg (by decide)]; exact f11
  have e12 : lk 12 (put 13 (.str s_inXbody) fb) = some (.ref fm) := by rw [lk_put, if_neg (by decide)]; exact f12
  have e13 : lk 13 (put 13 (.str s_inXbody) fb) = some (.str s_inXbody) := by rw [lk_put, if_pos rfl]
  have e24 : (lk 24 (put 13 (.str s_inXbody) fb)).isSome = true := by rw [lk_put, if_neg (by decide)]; exact f24
  generalize put 13 (.str s_inXbody) fb = fb3 at *
  obtain ⟨hb3, hl3, ⟨c, tr3, nc⟩, con3, ex3, bt, _⟩ := mk3
  have z1 := ex3 _ (List.mem_cons_self)
  have z2 := ex3 _ (List.mem_cons_of_mem _ List.mem_cons_self)
  have z3 := ex3 _ (List.mem_cons_of_mem _ (List.mem_cons_of_mem _ List.mem_cons_self))
  have nc2 := nc _ (List.mem_cons_of_mem _ List.mem_cons_self)
  refine S_asg (E_attr rfl hb3 e0 ?_)
  have nod : Nod H3 t kd [] 1 [s_] [s_] [-1] [c] fl := ⟨tr3, con3, Nat.le_refl _, Nat.le_refl _, nofun, List.nodup_nil, fun j k n _ h => by simp at h, by simp, lt_of z2.2, fun h => nc2 (List.mem_singleton.mp h)⟩
  refine S_asg (sp_nodes (k := 9) rfl rfl (by decide : 10 < 12) ks3 k12 (by omega) nod fun H4 nd N SP NM PA CS hlen nod4 g4 => ?_)
  have g5 : Gr H4 (H4 ++ [AObj.list (nodesV nd)]) := Kp.app _
  have n8 : ∀ c ∈ CS, t + 8 < c := fun c hc => (nod4.tr.ch c hc).1
  have nl : ∀ c ∈ CS, c < H4.length := fun c hc => lt_of (nod4.tr.ch c hc).2.choose_spec.1
  have inC : ∀ c ∈ CS, ∃ L, H4[c]? = some (.list L) := fun c hc => ⟨_, (nod4.tr.ch c hc).2.choose_spec.1⟩
  have up := nod4.up
  have plc : Plc (H4 ++ [AObj.list (nodesV nd)]) t nd N SP NM CS H4.length 0 := by
    refine ⟨⟨PA, nod4.tr.grow g5, fun q hq _ => ?_⟩, nod4.con.keep g5 id, last_app _ _, nod4.rng, nod4.nodup, by omega, by omega, fun s => s.elim (fun s => by have := nod4.tr.co; omega) fun s => by have := nl _ s; omega, n8⟩
    have : q < PA.length := by rw [nod4.tr.l3]; exact hq
    rw [List.getElem?_eq_getElem this, nod4.pa _ (List.getElem_mem this)]
  -- what stands still
  have old : ∀ {i : Nat} {o : AObj}, H3[i]? = some o → (i < t ∨ t + 8 < i) → H4[i]? = some o := fun e h => g4.get e fun s => by have := s.1; have := s.2; omega
  refine sp_place (k := 8) (l0 := fun z => [some (.bl ns), some (.ref 2), some z, some (.ref b), some (.ref t), some (.ref H4.length), none, none, none, none, none, none]) (fun _ _ => rfl) (fun _ => rfl) (fun _ => rfl) (fun _ => rfl) plc (by omega) fun H6 y6 plc6 g6 => ?_
  have keep : ∀ {i : Nat} {o : AObj}, H3[i]? = some o → (i < t ∨ t + 8 < i) → i ∉ CS → H6[i]? = some o := fun {i o} e h hc => g6.get (g5.g (old e h)) fun s => s.elim (fun s => by omega) fun s => hc s
  have notC : ∀ {i c : Nat} {fs : List (Nat × V)}, H3[i]? = some (.inst c fs) → (i < t ∨ t + 8 < i) → i ∉ CS := fun {i c fs} e h hc => by
    obtain ⟨L, hL⟩ := inC i hc
    rw [old e h] at hL; cases hL
  have kn6 : Knd H6 2 kd := by
    obtain ⟨rs, a, b', c'⟩ := ks.kn.ex
    have lift : ∀ {i : Nat} {o : AObj}, H1[i]? = some o → H6[i]? = some o := fun {i o} e => keep (g3.g e) (.inl (by have := lt_of e; omega)) fun hc => by have := n8 _ hc; have := lt_of e; omega
    exact ⟨rs, lift a, b', fun j r k h1 h2 => lift (c' j r k h1 h2)⟩
  have hfl4 := nod4.nz
  exact law_end (k := 6) plc6 kn6 hlen.symm nod4.at_ ks.sp ks.h0 (by omega) (keep hb3 (.inl bt) (notC hb3 (.inl bt))) hl3 e0 e11 e12 e13 e24 (keep z3.2 (.inr z3.1) (notC z3.2 (.inr z3.1))) (keep z1.2 (.inr z1.1) (notC z1.2 (.inr z1.1)))
    (keep z2.2 (.inr z2.1) hfl4.2) hfl4.2 z2.1 (by have := hfl4.1; omega) (by have := z2.1; simp only at this; omega) fun H' => rfl
end Mine
end
theorem PySem.Challenge.cw_nt0609_01_holds : PySem.Challenge.rw_nt0609_01.Holds :=
  Mine.join Mine.law_ok
